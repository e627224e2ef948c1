import PyProof.Rows.All
import Wide.All
import OpenK.AllK
import Wide.FinOn
import HandS.ForMost
import HandS.ForExc
import HandS.Lambda
import HandS.ExcValue
import HandS.TupAny
import HandS.TupMul
import HandS.Style
import HandS.IsInst
import HandS.ExcIs
import HandS.Deep
import HandS.Wide
import HandS.Strs
import HandS.SetFor
import HandS.Conv
import HandS.SortInts
import HandS.Zip
import HandS.Defaults
import OpenK.KMore
import HandS.CallLocal
import HandS.Head0
import HandS.Head1
import HandS.Head2
import HandS.HeadHook1
import HandS.HeadHook2
import HandS.HeadHook3
import HandS.HeadHook4
import HandS.HeadWalk
import HandS.EndTab
import PyProof.ReprRoads
import PyProof.ReprLen
import HandS.DictComp
import HandS.Iter
import HandS.TupSets
import HandS.More
import KE.KDictZip
import KE.SortData
import KE.SortKeyHeap
import HandS.TryOnly
import KE.GoesEnum
import KE.GoesMore
import PySem.Challenge.RW_coverjoin_k03_whole_names_of_attributes
set_option Elab.async false
set_option linter.all false
set_option maxRecDepth 100000
set_option maxHeartbeats 0
/-! The D layer: plain data over the hand layer's heap. -/
namespace DL
open PySem L2

/-- plain data -/
inductive D where
  | non | bl (b : Bool) | int (i : Int) | str (x : Str)
  | tup (ds : List D) | lst (ds : List D)
  | emp
  | exc (c : Str)
  | set (ns : List Int)
  | rng
  | scr (ns : List Int)
  | fn (f : Str)
  | ty (n : String)
  | cl (c : Str)
  /-- a dict that stands still: its keys, ints (tuples of ints), each with True -/
  | dci (ks : List Int)
  | dcs (ks : List (List Int))
  /-- .. a dict of ints to ints -/
  | dii (kvs : List (Int × Int))
  /-- .. and the object that stands there (while it is walked) -/
  | dcx (ks : List Int) (od : Obj)
  /-- a tuple that zip made: to be taken apart only -/
  | tpw (ds : List D)

/-- what is fixed through the law: the written part, tables, classes, defs -/
structure Ls where
  w : World
  K : PySem.W.Frag
  T : List (Addr × Str)
  cls : Str → Addr
  fns : Str → Option Addr
/-- what a call stands in: the random state, what others own, the heap at entry, values that must go on standing -/
structure Zs where
  L : Ls
  st : Option (Addr × Addr × Addr)
  O : Addr → Prop
  H0 : Hp
  G : List (D × V)
abbrev Zs.w (Z : Zs) : World := Z.L.w
abbrev Zs.K (Z : Zs) : PySem.W.Frag := Z.L.K
abbrev Zs.T (Z : Zs) : List (Addr × Str) := Z.L.T
abbrev Zs.cls (Z : Zs) : Str → Addr := Z.L.cls
abbrev Zs.fns (Z : Zs) : Str → Option Addr := Z.L.fns
/-- an exception that was caught, of the class cls -/
def CgO (cls : Value) (a : Addr) : HO := .ext fun h => ∃ (oe : Obj) (vs : Array Value), h.get? a = some oe ∧ Zc cls none oe ∧ oe.data = .fields vs
theorem cgO_ok {P : Program} {w : World} {H : Hp} {h : Heap} {a : Addr} {cls : Value} {oe : Obj} {vs : Array Value} (e : h.get? a = some oe) (z : Zc cls none oe) (d : oe.data = .fields vs) : ObjOk P w H h a (CgO cls a) :=
  ⟨⟨oe, vs, e, z, d⟩, ⟨oe, e⟩, fun _ _ ⟨o, v, q, r⟩ k => ⟨o, v, k o q, r⟩⟩
/-- the members of a list of ints, as a set tells them -/
def memI (ns : List Int) : Int → Bool := fun j => decide (j ∈ ns)
/-- a list that is read: tracked, locked, or written -/
def SqR (K : PySem.W.Frag) (P : Addr → Prop) (H : Hp) (a : Addr) (xs : List V) : Prop := (¬ P a ∧ H a = some (.lst xs)) ∨ (∃ o, H a = some (.frz o (.lst xs))) ∨ ∀ H', SqL K H' a xs

/-- a tuple of which no dict hangs: laid by what runs, or written -/
def SqN (K : PySem.W.Frag) (H : Hp) (a : Addr) (xs : List V) : Prop := (∃ o, H a = some (.frz o (.tup xs)) ∧ o.dict = none) ∨
  ∃ (o : Obj) (its : Array Value) (n : Nat), K.lookup a = some o ∧ o.dict = none ∧ o.cls = .type "tuple" ∧ o.data = .seq its n ∧ its.size ≤ sizeLine ∧ Vals xs its.toList
theorem SqN.t {K : PySem.W.Frag} {H : Hp} {a : Addr} {xs : List V} (h : SqN K H a xs) : SqT K H a xs := by
  rcases h with ⟨o, h, _⟩ | ⟨o, its, n, h1, _, h⟩
  · exact .inl (.inr ⟨o, h⟩)
  · exact .inr ⟨o, its, n, h1, h⟩
/-- a dict keyed by rows of ints, by its own object: rows, where they stand, what is held -/
def DctT0 (h : Heap) (a : Addr) (xs : List (List Int × Addr × Value)) : Prop :=
  ∃ (o : Obj) (es : Array DictEntry) (ep : Nat), h.get? a = some o ∧ o.ExactDict ∧ o.data = .dict es ep ∧ (∀ (P : Program) (w : World), es.toList = xs.map (PySem.entryOfKey (PySem.tupleKind (PySem.intKind P w)))) ∧ (xs.map (·.1)).Nodup ∧ (a == sysModules) = false
def DctO (a : Addr) (xs : List (List Int × Addr × Value)) : HO := .ext fun h => DctT0 h a xs
mutual
def Dn (Z : Zs) (P : Addr → Prop) (H : Hp) : D → V → Prop
  | .non, v => v = .non
  | .bl b, v => v = .bl b
  | .int i, v => v = .int i
  | .str x, v => v = .str x
  | .tup ds, v => ds.length ≤ sizeLine ∧ ∃ a vs, v = .ref a ∧ SqN Z.K H a vs ∧ DnL Z P H ds vs
  | .tpw ds, v => ds.length ≤ sizeLine ∧ ∃ a vs, v = .ref a ∧ SqT Z.K H a vs ∧ DnL Z P H ds vs
  | .lst ds, v => ds.length ≤ sizeLine ∧ ∃ a vs, v = .ref a ∧ ¬ P a ∧ H a = some (.lst vs) ∧ DnL Z P H ds vs
  | .emp, v => ∃ a, v = .ref a ∧ ¬ P a ∧ H a = some (.dK [])
  | .exc c, v => ∃ a, v = .ref a ∧ ¬ P a ∧ H a = some (CgO (.ref (Z.cls c)) a)
  | .set ns, v => ns.Pairwise (· < ·) ∧ ∃ a, v = .ref a ∧ ¬ P a ∧ H a = some (SetO Z.w a (memI ns) ns.length)
  | .rng, v => ∃ s g c, Z.st = some (s, g, c) ∧ v = .ref s
  | .scr ns, v => ns.length ≤ 63 ∧ ∃ a, v = .ref a ∧ SqR Z.K P H a (ns.map V.int)
  | .fn f, v => ∃ a, v = .ref a ∧ Z.fns f = some a
  | .ty n, v => v = .ty n
  | .cl c, v => v = .ref (Z.cls c)
  | .dci ks, v => ∃ a od, v = .ref a ∧ H a = some (.frz od (.dK (ks.map fun k => (Sum.inl k, V.bl true))))
  | .dii kvs, v => ∃ a od, v = .ref a ∧ H a = some (.frz od (.dK (kvs.map fun p => (Sum.inl p.1, V.int p.2))))
  | .dcs ks, v => ∃ a xs od, v = .ref a ∧ H a = some (.frz od (DctO a xs)) ∧ xs.map (·.1) = ks ∧ ∀ x ∈ xs, SqN Z.K H x.2.1 (x.1.map V.int)
  | .dcx ks od, v => ∃ a, v = .ref a ∧ H a = some (.frz od (.dK (ks.map fun k => (Sum.inl k, V.bl true))))
def DnL (Z : Zs) (P : Addr → Prop) (H : Hp) : List D → List V → Prop
  | [], vs => vs = []
  | d :: ds, vs => ∃ v r, vs = v :: r ∧ Dn Z P H d v ∧ DnL Z P H ds r
end

/-- no table of code objects -/
def Nt (o : HO) : Prop := ∀ ps, o ≠ .tbl ps
/-- what stays from H to H': all but the tables and what P owns; tuples and locked things always -/
structure Stp (P : Addr → Prop) (H H' : Hp) : Prop where
  keep : ∀ a o, H a = some o → (∀ ps, o ≠ .tbl ps) → ¬ P a → H' a = some o
  tups : ∀ a xs, H a = some (.tup xs) → H' a = some (.tup xs)
  frzs : ∀ a o u, H a = some (.frz o u) → H' a = some (.frz o u)
  there : ∀ a o, H a = some o → Nt o → ∃ o', H' a = some o' ∧ Nt o'

section
variable {P P' : Addr → Prop} {H H1 H2 H' : Hp} {Z : Zs}
theorem Stp.refl (P : Addr → Prop) (H : Hp) : Stp P H H := ⟨fun _ _ h _ _ => h, fun _ _ h => h, fun _ _ _ h => h, fun _ o h n => ⟨o, h, n⟩⟩
theorem Stp.trans (a : Stp P H H1) (b : Stp P H1 H2) : Stp P H H2 :=
  ⟨fun c o h n p => b.keep c o (a.keep c o h n p) n p, fun c xs h => b.tups c xs (a.tups c xs h), fun c o u h => b.frzs c o u (a.frzs c o u h), fun c o h n => let ⟨o', h', n'⟩ := a.there c o h n; b.there c o' h' n'⟩
theorem Stp.mono (a : Stp P H H') (h : ∀ c, P c → P' c) : Stp P' H H' := ⟨fun c o e n p => a.keep c o e n fun q => p (h c q), a.tups, a.frzs, a.there⟩
theorem Stp.same (s : Same H H') : Stp P H H' := ⟨fun c o h _ _ => s c o h, fun c xs h => s c _ h, fun c o u h => s c _ h, fun c o h n => ⟨o, s c o h, n⟩⟩
theorem Stp.ext (s : LamX.ExtN H H') : Stp P H H' :=
  ⟨fun c o h n _ => s c o h n, fun c xs h => s c _ h (fun _ z => nomatch z), fun c o u h => s c _ h (fun _ z => nomatch z), fun c o h n => ⟨o, s c o h n, n⟩⟩
/-- .. and a change beside it -/
theorem Stp.off {p : Addr} {o : HO} (m : Stp P H H') (ne : ∀ a o, H a = some o → Nt o → a ≠ p) : Stp P H (upd H' p o) :=
  ⟨fun a o e nt nz => by rw [upd_ne (ne a o e nt)]; exact m.keep a o e nt nz, fun a xs e => by rw [upd_ne (ne a _ e fun _ z => nomatch z)]; exact m.tups a xs e,
    fun a o u e => by rw [upd_ne (ne a _ e fun _ z => nomatch z)]; exact m.frzs a o u e, fun a o e nt => by rw [upd_ne (ne a o e nt)]; exact m.there a o e nt⟩
theorem same_upd {p : Addr} {o : HO} (h : H p = none) : Same H (upd H p o) := fun b u e => by rw [upd_ne (ne_of_none e h)]; exact e
theorem Stp.own {a : Addr} {xs : List V} {o : HO} (pa : P a) (h : H a = some (.lst xs)) (nt : Nt o := by intro _ z; cases z) : Stp P H (upd H a o) :=
  ⟨fun c u e _ p => by rw [upd_ne (fun z => p (by rw [z]; exact pa))]; exact e, fun c ys e => by rw [upd_ne (ne_of e h (by intro z; cases z))]; exact e,
    fun c ob u e => by rw [upd_ne (ne_of e h (by intro z; cases z))]; exact e, fun c u e n => by
      by_cases q : c = a
      · subst q; exact ⟨o, upd_same, nt⟩
      · exact ⟨u, by rw [upd_ne q]; exact e, n⟩⟩
theorem Stp.sqT (s : Stp P H H') {K : PySem.W.Frag} {a : Addr} {xs : List V} (h : SqT K H a xs) : SqT K H' a xs := by
  rcases h with (h | ⟨o, h⟩) | h
  · exact .inl (.inl (s.tups _ _ h))
  · exact .inl (.inr ⟨o, s.frzs _ _ _ h⟩)
  · exact .inr h
theorem Stp.sqN (s : Stp P H H') {K : PySem.W.Frag} {a : Addr} {xs : List V} (h : SqN K H a xs) : SqN K H' a xs := by
  rcases h with ⟨o, h, d⟩ | h
  · exact .inl ⟨o, s.frzs _ _ _ h, d⟩
  · exact .inr h
theorem Stp.sqL (s : Stp P H H') {K : PySem.W.Frag} {a : Addr} {xs : List V} (p : ¬ P a) (h : SqL K H a xs) : SqL K H' a xs := by
  rcases h with (h | ⟨o, h⟩) | h
  · exact .inl (.inl (s.keep _ _ h (fun _ z => nomatch z) p))
  · exact .inl (.inr ⟨o, s.frzs _ _ _ h⟩)
  · exact .inr h

mutual
theorem Dn.stp (s : Stp P H H') : ∀ (d : D) (v : V), Dn Z P H d v → Dn Z P H' d v
  | .non, v, h => h
  | .bl _, v, h => h
  | .int _, v, h => h
  | .str _, v, h => h
  | .tup ds, v, h => by
    unfold Dn at h ⊢
    obtain ⟨z, a, vs, e, t, l⟩ := h
    exact ⟨z, a, vs, e, s.sqN t, DnL.stp s ds vs l⟩
  | .tpw ds, v, h => by
    unfold Dn at h ⊢
    obtain ⟨z, a, vs, e, t, l⟩ := h
    exact ⟨z, a, vs, e, s.sqT t, DnL.stp s ds vs l⟩
  | .lst ds, v, h => by
    unfold Dn at h ⊢
    obtain ⟨z, a, vs, e, p, t, l⟩ := h
    exact ⟨z, a, vs, e, p, s.keep _ _ t (fun _ z => nomatch z) p, DnL.stp s ds vs l⟩
  | .emp, v, h => by
    unfold Dn at h ⊢
    obtain ⟨a, e, p, t⟩ := h
    exact ⟨a, e, p, s.keep _ _ t (fun _ z => nomatch z) p⟩
  | .exc c, v, h => by
    unfold Dn at h ⊢
    obtain ⟨a, e, p, t⟩ := h
    exact ⟨a, e, p, s.keep _ _ t (fun _ z => nomatch z) p⟩
  | .set c, v, h => by
    unfold Dn at h ⊢
    obtain ⟨pw, a, e, p, t⟩ := h
    exact ⟨pw, a, e, p, s.keep _ _ t (fun _ z => nomatch z) p⟩
  | .rng, v, h => h
  | .scr ns, v, h => by
    unfold Dn at h ⊢
    obtain ⟨z, a, e, t⟩ := h
    refine ⟨z, a, e, ?_⟩
    rcases t with ⟨p, t⟩ | ⟨o, t⟩ | t
    · exact .inl ⟨p, s.keep _ _ t (fun _ z => nomatch z) p⟩
    · exact .inr (.inl ⟨o, s.frzs _ _ _ t⟩)
    · exact .inr (.inr t)
  | .fn f, v, h => h
  | .ty _, v, h => h
  | .cl _, v, h => h
  | .dci _, v, h => by
    unfold Dn at h ⊢
    obtain ⟨a, od, e, t⟩ := h
    exact ⟨a, od, e, s.frzs _ _ _ t⟩
  | .dii _, v, h => by
    unfold Dn at h ⊢
    obtain ⟨a, od, e, t⟩ := h
    exact ⟨a, od, e, s.frzs _ _ _ t⟩
  | .dcs _, v, h => by
    unfold Dn at h ⊢
    obtain ⟨a, xs, od, e, t, ek, hk⟩ := h
    exact ⟨a, xs, od, e, s.frzs _ _ _ t, ek, fun x hx => s.sqN (hk x hx)⟩
  | .dcx _ _, v, h => by
    unfold Dn at h ⊢
    obtain ⟨a, e, t⟩ := h
    exact ⟨a, e, s.frzs _ _ _ t⟩
theorem DnL.stp (s : Stp P H H') : ∀ (ds : List D) (vs : List V), DnL Z P H ds vs → DnL Z P H' ds vs
  | [], vs, h => h
  | d :: ds, vs, h => by
    unfold DnL at h ⊢
    obtain ⟨v, r, e, h1, h2⟩ := h
    exact ⟨v, r, e, Dn.stp s d v h1, DnL.stp s ds r h2⟩
end
mutual
theorem Dn.mono (s : ∀ a, P' a → P a) : ∀ (d : D) (v : V), Dn Z P H d v → Dn Z P' H d v
  | .non, v, h => h
  | .bl _, v, h => h
  | .int _, v, h => h
  | .str _, v, h => h
  | .tup ds, v, h => by
    unfold Dn at h ⊢
    obtain ⟨z, a, vs, e, t, l⟩ := h
    exact ⟨z, a, vs, e, t, DnL.mono s ds vs l⟩
  | .tpw ds, v, h => by
    unfold Dn at h ⊢
    obtain ⟨z, a, vs, e, t, l⟩ := h
    exact ⟨z, a, vs, e, t, DnL.mono s ds vs l⟩
  | .lst ds, v, h => by
    unfold Dn at h ⊢
    obtain ⟨z, a, vs, e, p, t, l⟩ := h
    exact ⟨z, a, vs, e, fun q => p (s a q), t, DnL.mono s ds vs l⟩
  | .emp, v, h => by
    unfold Dn at h ⊢
    obtain ⟨a, e, p, t⟩ := h
    exact ⟨a, e, fun q => p (s a q), t⟩
  | .exc c, v, h => by
    unfold Dn at h ⊢
    obtain ⟨a, e, p, t⟩ := h
    exact ⟨a, e, fun q => p (s a q), t⟩
  | .set c, v, h => by
    unfold Dn at h ⊢
    obtain ⟨pw, a, e, p, t⟩ := h
    exact ⟨pw, a, e, fun q => p (s a q), t⟩
  | .rng, v, h => h
  | .scr ns, v, h => by
    unfold Dn at h ⊢
    obtain ⟨z, a, e, t⟩ := h
    refine ⟨z, a, e, ?_⟩
    rcases t with ⟨p, t⟩ | t
    · exact .inl ⟨fun q => p (s a q), t⟩
    · exact .inr t
  | .fn f, v, h => h
  | .ty _, v, h => h
  | .cl _, v, h => h
  | .dci _, v, h => h
  | .dii _, v, h => h
  | .dcs _, v, h => h
  | .dcx _ _, v, h => h
theorem DnL.mono (s : ∀ a, P' a → P a) : ∀ (ds : List D) (vs : List V), DnL Z P H ds vs → DnL Z P' H ds vs
  | [], vs, h => h
  | d :: ds, vs, h => by
    unfold DnL at h ⊢
    obtain ⟨v, r, e, h1, h2⟩ := h
    exact ⟨v, r, e, Dn.mono s d v h1, DnL.mono s ds r h2⟩
end
mutual
/-- a new address is not in it -/
theorem Dn.fresh {p : Addr} (n : H p = none) : ∀ (d : D) (v : V), Dn Z P H d v → Dn Z (fun a => P a ∨ a = p) H d v
  | .non, v, h => h
  | .bl _, v, h => h
  | .int _, v, h => h
  | .str _, v, h => h
  | .tup ds, v, h => by
    unfold Dn at h ⊢
    obtain ⟨z, a, vs, e, t, l⟩ := h
    exact ⟨z, a, vs, e, t, DnL.fresh n ds vs l⟩
  | .tpw ds, v, h => by
    unfold Dn at h ⊢
    obtain ⟨z, a, vs, e, t, l⟩ := h
    exact ⟨z, a, vs, e, t, DnL.fresh n ds vs l⟩
  | .lst ds, v, h => by
    unfold Dn at h ⊢
    obtain ⟨z, a, vs, e, q, t, l⟩ := h
    exact ⟨z, a, vs, e, fun r => r.elim q (ne_of_none t n), t, DnL.fresh n ds vs l⟩
  | .emp, v, h => by
    unfold Dn at h ⊢
    obtain ⟨a, e, q, t⟩ := h
    exact ⟨a, e, fun r => r.elim q (ne_of_none t n), t⟩
  | .exc c, v, h => by
    unfold Dn at h ⊢
    obtain ⟨a, e, q, t⟩ := h
    exact ⟨a, e, fun r => r.elim q (ne_of_none t n), t⟩
  | .set c, v, h => by
    unfold Dn at h ⊢
    obtain ⟨pw, a, e, q, t⟩ := h
    exact ⟨pw, a, e, fun r => r.elim q (ne_of_none t n), t⟩
  | .rng, v, h => h
  | .scr ns, v, h => by
    unfold Dn at h ⊢
    obtain ⟨z, a, e, t⟩ := h
    refine ⟨z, a, e, ?_⟩
    rcases t with ⟨q, t⟩ | t
    · exact .inl ⟨fun r => r.elim q (ne_of_none t n), t⟩
    · exact .inr t
  | .fn f, v, h => h
  | .ty _, v, h => h
  | .cl _, v, h => h
  | .dci _, v, h => h
  | .dii _, v, h => h
  | .dcs _, v, h => h
  | .dcx _ _, v, h => h
theorem DnL.fresh {p : Addr} (n : H p = none) : ∀ (ds : List D) (vs : List V), DnL Z P H ds vs → DnL Z (fun a => P a ∨ a = p) H ds vs
  | [], vs, h => h
  | d :: ds, vs, h => by
    unfold DnL at h ⊢
    obtain ⟨v, r, e, h1, h2⟩ := h
    exact ⟨v, r, e, Dn.fresh n d v h1, DnL.fresh n ds r h2⟩
end
mutual
/-- Dn asks of Z only what is fixed and the random state -/
theorem Dn.zs {Z' : Zs} (hL : Z'.L = Z.L) (hs : Z'.st = Z.st) : ∀ (d : D) (v : V), Dn Z P H d v → Dn Z' P H d v
  | .non, v, h => h
  | .bl _, v, h => h
  | .int _, v, h => h
  | .str _, v, h => h
  | .tup ds, v, h => by
    unfold Dn at h ⊢
    obtain ⟨z, a, vs, e, t, l⟩ := h
    exact ⟨z, a, vs, e, by rw [Zs.K, hL]; exact t, DnL.zs hL hs ds vs l⟩
  | .tpw ds, v, h => by
    unfold Dn at h ⊢
    obtain ⟨z, a, vs, e, t, l⟩ := h
    exact ⟨z, a, vs, e, by rw [Zs.K, hL]; exact t, DnL.zs hL hs ds vs l⟩
  | .lst ds, v, h => by
    unfold Dn at h ⊢
    obtain ⟨z, a, vs, e, q, t, l⟩ := h
    exact ⟨z, a, vs, e, q, t, DnL.zs hL hs ds vs l⟩
  | .emp, v, h => by
    unfold Dn at h ⊢
    exact h
  | .exc c, v, h => by
    unfold Dn at h ⊢
    rw [Zs.cls, hL]
    exact h
  | .set c, v, h => by
    unfold Dn at h ⊢
    rw [Zs.w, hL]
    exact h
  | .rng, v, h => by
    unfold Dn at h ⊢
    rw [hs]
    exact h
  | .scr ns, v, h => by
    unfold Dn at h ⊢
    rw [Zs.K, hL]
    exact h
  | .fn f, v, h => by
    unfold Dn at h ⊢
    rw [Zs.fns, hL]
    exact h
  | .ty _, v, h => h
  | .dci _, v, h => by
    unfold Dn at h ⊢
    exact h
  | .dii _, v, h => by
    unfold Dn at h ⊢
    exact h
  | .dcs _, v, h => by
    unfold Dn at h ⊢
    rw [Zs.K, hL]
    exact h
  | .dcx _ _, v, h => by
    unfold Dn at h ⊢
    exact h
  | .cl _, v, h => by
    unfold Dn at h ⊢
    rw [Zs.cls, hL]
    exact h
theorem DnL.zs {Z' : Zs} (hL : Z'.L = Z.L) (hs : Z'.st = Z.st) : ∀ (ds : List D) (vs : List V), DnL Z P H ds vs → DnL Z' P H ds vs
  | [], vs, h => h
  | d :: ds, vs, h => by
    unfold DnL at h ⊢
    obtain ⟨v, r, e, h1, h2⟩ := h
    exact ⟨v, r, e, Dn.zs hL hs d v h1, DnL.zs hL hs ds r h2⟩
end
/-- nothing in it stands at a list, a dict or the like -/
def D.flat : D → Bool
  | .tup ds => ds.attach.all fun ⟨d, _⟩ => d.flat
  | .lst _ | .emp | .exc _ | .set _ | .scr _ | .tpw _ => false
  | _ => true

def flatL : List D → Bool
  | [] => true
  | d :: ds => d.flat && flatL ds
theorem flat_tup {ds : List D} : (D.tup ds).flat = true → flatL ds = true := by
  intro h
  unfold D.flat at h
  rw [List.all_eq_true] at h
  have key : ∀ (es : List D), (∀ d ∈ es, d ∈ ds) → flatL es = true := by
    intro es
    induction es with
    | nil => intro _; rfl
    | cons d es ih =>
      intro hs
      unfold flatL
      rw [Bool.and_eq_true]
      exact ⟨h ⟨d, hs d List.mem_cons_self⟩ (List.mem_attach _ _), ih fun c hc => hs c (List.mem_cons_of_mem _ hc)⟩
  exact key ds fun _ h => h
mutual
theorem Dn.flat : ∀ (d : D) (v : V), d.flat = true → Dn Z P H d v → Dn Z P' H d v
  | .non, v, _, h => h
  | .bl _, v, _, h => h
  | .int _, v, _, h => h
  | .str _, v, _, h => h
  | .tup ds, v, f, h => by
    unfold Dn at h ⊢
    obtain ⟨z, a, vs, e, t, l⟩ := h
    exact ⟨z, a, vs, e, t, DnL.flat ds vs (flat_tup f) l⟩
  | .lst ds, v, f, h => by simp [D.flat] at f
  | .tpw ds, v, f, h => by simp [D.flat] at f
  | .emp, v, f, h => by simp [D.flat] at f
  | .exc c, v, f, h => by simp [D.flat] at f
  | .set c, v, f, h => by simp [D.flat] at f
  | .rng, v, _, h => h
  | .scr ns, v, f, h => by simp [D.flat] at f
  | .fn f, v, _, h => h
  | .ty _, v, _, h => h
  | .cl _, v, _, h => h
  | .dci _, v, _, h => h
  | .dii _, v, _, h => h
  | .dcs _, v, _, h => h
  | .dcx _ _, v, _, h => h
theorem DnL.flat : ∀ (ds : List D) (vs : List V), flatL ds = true → DnL Z P H ds vs → DnL Z P' H ds vs
  | [], vs, _, h => h
  | d :: ds, vs, f, h => by
    unfold DnL at h ⊢
    unfold flatL at f
    rw [Bool.and_eq_true] at f
    obtain ⟨v, r, e, h1, h2⟩ := h
    exact ⟨v, r, e, Dn.flat d v f.1 h1, DnL.flat ds r f.2 h2⟩
end
theorem DnL.length : ∀ {ds : List D} {vs : List V}, DnL Z P H ds vs → vs.length = ds.length
  | [], vs, h => by unfold DnL at h; subst h; rfl
  | d :: ds, vs, h => by
    unfold DnL at h
    obtain ⟨v, r, rfl, _, h2⟩ := h
    rw [List.length_cons, List.length_cons, DnL.length h2]
theorem DnL.nil : DnL Z P H [] [] := by unfold DnL; rfl
theorem DnL.cons {d : D} {v : V} {ds : List D} {vs : List V} (h : Dn Z P H d v) (t : DnL Z P H ds vs) : DnL Z P H (d :: ds) (v :: vs) := by
  unfold DnL; exact ⟨v, vs, rfl, h, t⟩
theorem DnL.of_nil {vs : List V} (h : DnL Z P H [] vs) : vs = [] := by unfold DnL at h; exact h
theorem DnL.of_cons {d : D} {ds : List D} {vs : List V} (h : DnL Z P H (d :: ds) vs) : ∃ v r, vs = v :: r ∧ Dn Z P H d v ∧ DnL Z P H ds r := by unfold DnL at h; exact h
theorem DnL.append : ∀ {ds es : List D} {vs ws : List V}, DnL Z P H ds vs → DnL Z P H es ws → DnL Z P H (ds ++ es) (vs ++ ws)
  | [], es, vs, ws, h, h' => by rw [h.of_nil]; exact h'
  | d :: ds, es, vs, ws, h, h' => by
    obtain ⟨v, r, rfl, h1, h2⟩ := h.of_cons
    exact .cons h1 (DnL.append h2 h')
theorem DnL.get : ∀ {ds : List D} {vs : List V} {i : Nat} {d : D}, DnL Z P H ds vs → ds[i]? = some d → ∃ v, vs[i]? = some v ∧ Dn Z P H d v
  | [], vs, i, d, h, e => by simp at e
  | c :: ds, vs, 0, d, h, e => by
    obtain ⟨v, r, rfl, h1, h2⟩ := h.of_cons
    simp at e; subst e; exact ⟨v, rfl, h1⟩
  | c :: ds, vs, i + 1, d, h, e => by
    obtain ⟨v, r, rfl, h1, h2⟩ := h.of_cons
    obtain ⟨w, e1, h3⟩ := DnL.get h2 (i := i) (d := d) (by simpa using e)
    exact ⟨w, by simpa using e1, h3⟩
theorem DnL.take : ∀ {ds : List D} {vs : List V} (n : Nat), DnL Z P H ds vs → DnL Z P H (ds.take n) (vs.take n)
  | _, _, 0, _ => by rw [List.take_zero, List.take_zero]; exact .nil
  | [], vs, n + 1, h => by rw [h.of_nil]; exact .nil
  | c :: ds, vs, n + 1, h => by
    obtain ⟨v, r, rfl, h1, h2⟩ := h.of_cons
    exact .cons h1 (DnL.take n h2)
theorem DnL.drop : ∀ {ds : List D} {vs : List V} (n : Nat), DnL Z P H ds vs → DnL Z P H (ds.drop n) (vs.drop n)
  | _, _, 0, h => h
  | [], vs, n + 1, h => by rw [h.of_nil]; exact .nil
  | c :: ds, vs, n + 1, h => by
    obtain ⟨v, r, rfl, h1, h2⟩ := h.of_cons
    exact DnL.drop n h2
theorem DnL.set : ∀ {ds : List D} {vs : List V} (n : Nat) {d : D} {v : V}, DnL Z P H ds vs → Dn Z P H d v → DnL Z P H (ds.set n d) (vs.set n v)
  | [], vs, n, d, v, h, _ => by rw [h.of_nil]; exact .nil
  | c :: ds, vs, 0, d, v, h, h' => by
    obtain ⟨w, r, rfl, h1, h2⟩ := h.of_cons
    exact .cons h' h2
  | c :: ds, vs, n + 1, d, v, h, h' => by
    obtain ⟨w, r, rfl, h1, h2⟩ := h.of_cons
    exact .cons h1 (DnL.set n h2 h')
theorem DnL.eraseIdx : ∀ {ds : List D} {vs : List V} (n : Nat), DnL Z P H ds vs → DnL Z P H (ds.eraseIdx n) (vs.eraseIdx n)
  | [], vs, n, h => by rw [h.of_nil]; exact .nil
  | c :: ds, vs, 0, h => by
    obtain ⟨w, r, rfl, h1, h2⟩ := h.of_cons
    exact h2
  | c :: ds, vs, n + 1, h => by
    obtain ⟨w, r, rfl, h1, h2⟩ := h.of_cons
    exact .cons h1 (DnL.eraseIdx n h2)
theorem DnL.reverse : ∀ {ds : List D} {vs : List V}, DnL Z P H ds vs → DnL Z P H ds.reverse vs.reverse
  | [], vs, h => by rw [h.of_nil]; exact .nil
  | c :: ds, vs, h => by
    obtain ⟨w, r, rfl, h1, h2⟩ := h.of_cons
    rw [List.reverse_cons, List.reverse_cons]
    exact .append (DnL.reverse h2) (.cons h1 .nil)
theorem DnL.rep {ds : List D} {vs : List V} (h : DnL Z P H ds vs) : ∀ k : Nat, DnL Z P H (List.replicate k ds).flatten (List.replicate k vs).flatten
  | 0 => .nil
  | k + 1 => by
    rw [List.replicate_succ, List.replicate_succ, List.flatten_cons, List.flatten_cons]
    exact .append h (DnL.rep h k)
/-- ints -/
theorem DnL.ints : ∀ {ns : List Int} {vs : List V}, DnL Z P H (ns.map D.int) vs → vs = ns.map V.int
  | [], vs, h => h.of_nil
  | n :: ns, vs, h => by
    obtain ⟨v, r, rfl, h1, h2⟩ := DnL.of_cons (by simpa using h)
    unfold Dn at h1
    rw [h1, DnL.ints h2]
    rfl
theorem DnL.of_ints : ∀ {ns : List Int}, DnL Z P H (ns.map D.int) (ns.map V.int)
  | [] => .nil
  | n :: ns => .cons (by unfold Dn; rfl) DnL.of_ints
theorem dn_non {v : V} : Dn Z P H .non v ↔ v = .non := by unfold Dn; exact Iff.rfl
theorem dn_bl {b : Bool} {v : V} : Dn Z P H (.bl b) v ↔ v = .bl b := by unfold Dn; exact Iff.rfl
theorem dn_int {i : Int} {v : V} : Dn Z P H (.int i) v ↔ v = .int i := by unfold Dn; exact Iff.rfl
theorem dn_str {x : Str} {v : V} : Dn Z P H (.str x) v ↔ v = .str x := by unfold Dn; exact Iff.rfl
theorem dn_tupN {ds : List D} {v : V} : Dn Z P H (.tup ds) v ↔ (ds.length ≤ sizeLine ∧ ∃ a vs, v = .ref a ∧ SqN Z.K H a vs ∧ DnL Z P H ds vs) := by unfold Dn; exact Iff.rfl
theorem dn_tpw {ds : List D} {v : V} : Dn Z P H (.tpw ds) v ↔ (ds.length ≤ sizeLine ∧ ∃ a vs, v = .ref a ∧ SqT Z.K H a vs ∧ DnL Z P H ds vs) := by unfold Dn; exact Iff.rfl
theorem dn_tupT {ds : List D} {v : V} (h : Dn Z P H (.tup ds) v) : ds.length ≤ sizeLine ∧ ∃ a vs, v = .ref a ∧ SqT Z.K H a vs ∧ DnL Z P H ds vs :=
  let ⟨z, a, vs, e, t, l⟩ := dn_tupN.mp h; ⟨z, a, vs, e, t.t, l⟩
theorem dn_lst {ds : List D} {v : V} : Dn Z P H (.lst ds) v ↔ (ds.length ≤ sizeLine ∧ ∃ a vs, v = .ref a ∧ ¬ P a ∧ H a = some (.lst vs) ∧ DnL Z P H ds vs) := by unfold Dn; exact Iff.rfl
theorem dn_ty {n : String} {v : V} : Dn Z P H (.ty n) v ↔ v = .ty n := by unfold Dn; exact Iff.rfl
theorem dn_cl {c : Str} {v : V} : Dn Z P H (.cl c) v ↔ v = .ref (Z.cls c) := by unfold Dn; exact Iff.rfl
theorem dn_newT {ds : List D} {vs : List V} {p : Addr} {o : Obj} (h : DnL Z P H ds vs) (z : ds.length ≤ sizeLine) (n : H p = none) (od : o.dict = none) : Dn Z P (upd H p (.frz o (.tup vs))) (.tup ds) (.ref p) :=
  dn_tupN.mpr ⟨z, p, vs, rfl, .inl ⟨o, upd_same, od⟩, DnL.stp (.same (same_upd n)) ds vs h⟩
theorem dn_newW {ds : List D} {vs : List V} {p : Addr} (h : DnL Z P H ds vs) (z : ds.length ≤ sizeLine) (n : H p = none) : Dn Z P (upd H p (.tup vs)) (.tpw ds) (.ref p) :=
  dn_tpw.mpr ⟨z, p, vs, rfl, .inl (.inl upd_same), DnL.stp (.same (same_upd n)) ds vs h⟩
theorem dn_newL {ds : List D} {vs : List V} {p : Addr} (h : DnL Z P H ds vs) (z : ds.length ≤ sizeLine) (n : H p = none) (np : ¬ P p) : Dn Z P (upd H p (.lst vs)) (.lst ds) (.ref p) :=
  dn_lst.mpr ⟨z, p, vs, rfl, np, upd_same, DnL.stp (.same (same_upd n)) ds vs h⟩
end
end DL

/-! new tuples of which no dict hangs -/
namespace DL
open PySem L2 PySem.Spec PyProof.Rows
def tObj (its : List Value) : Obj := { cls := .type "tuple", data := .seq its.toArray }
/-- what a new tuple asks -/
def NwT (H : Hp) (xs : List V) (Q : VK) : Prop := ∀ (p : Addr) (o : Obj), H p = none → o.dict = none → Q (.ref p) (upd H p (.frz o (.tup xs)))
section
variable {X : Cx} {es : List Expr} {e : Expr} {t : TA} {pos : Pos}
theorem lay_tup {pins : List (Addr × Obj)} {σ : L2.St} {H : Hp} {s : Shared} {xs : List V} {its : List Value} {Q : VK} {tk : Nat} (I : Inv X pins σ H s) (hz : xs.length ≤ sizeLine) (r : Vals xs its) (q : NwT H xs Q) :
    EP X pins σ Q (.ref s.heap.objs.size) { s with heap := s.heap.push (tObj its), toks := tk } :=
  ⟨.ref s.heap.objs.size, upd H s.heap.objs.size (.frz (tObj its) (.tup xs)), I.laid (t' := tk) (fun _ _ q => Heap.get?_push_of_some _ q) (Nat.le_refl _)
    ⟨Heap.get?_push_size _ rfl, hz, its, r, ⟨_, Heap.get?_push_size _ rfl, rfl, _, rfl⟩⟩, rfl, q _ _ (I.hok.fresh (Nat.le_refl _)) rfl⟩
def tTupN (t : TA) : TE := fun σ H Q => t σ H fun xs H1 => xs.length ≤ sizeLine ∧ NwT H1 xs Q
theorem pe_tupN {x1} (h : PA X es t) : PE X (.Tuple es x1 pos) (tTupN t) := by
  refine ⟨fun pins s σ H Q I hq => wpAny_Tuple_spliced (thn (h.run pos pins s σ H _ I hq) ?_)⟩
  rintro us s1 ⟨xs, H1, I1, r, z, q⟩
  exact ⟨r.length ▸ z, lay_tup (tk := s1.toks) I1 z r q⟩
/-- tuple(a list), tuple(a tuple) -/
def rTupleN (K : PySem.W.Frag) : List V → Hp → VK → Prop := fun xs H Q => ∃ p ys, xs = [.ref p] ∧ ((SqL K H p ys ∧ NwT H ys Q) ∨ (SqT K H p ys ∧ Q (.ref p) H))
theorem cr_tupleN : CallR X (.type "tuple") (rTupleN X.K) := by
  rintro pins s σ H xs us Q I r ⟨p, ys, rfl, h⟩
  obtain ⟨u, rfl, rx⟩ := vals1 r
  cases rx
  rcases h with ⟨hq, q⟩ | ⟨hq, q⟩
  · obtain ⟨its, r', pl, hz⟩ := I.list hq
    have hl := r'.length
    refine call_tuple_list pl.isList (fun h' kp => ?_) (by rw [List.size_toArray]; omega)
    exact lay_tup (s := { s with heap := h' }) (tk := s.toks) (I.kept (t' := s.toks) kp) hz r' q
  · obtain ⟨its, r', pl, hz⟩ := I.tuple hq
    exact call_tuple_same pl ⟨.ref p, H, I, rfl, q⟩
/-- t + u -/
def rCatN (K : PySem.W.Frag) : R2 := fun x y H Q => ∃ a b xs ys, x = .ref a ∧ y = .ref b ∧ SqT K H a xs ∧ SqT K H b ys ∧ xs.length + ys.length ≤ sizeLine ∧
  (xs = [] → Q (.ref b) H) ∧ (xs ≠ [] → ys = [] → Q (.ref a) H) ∧ (xs ≠ [] → ys ≠ [] → NwT H (xs ++ ys) Q)
theorem op_catN : OpR X (binaryOp .Add) (rCatN X.K) := by
  rintro pins s σ H x y v u Q I rx ry ⟨a, b, xs, ys, rfl, rfl, ha, hb, hz, q0, q1, q2⟩
  cases rx; cases ry
  obtain ⟨i1, r1, p1, _⟩ := I.tuple ha
  obtain ⟨i2, r2, p2, _⟩ := I.tuple hb
  by_cases hx : xs = []
  · subst hx
    cases r1
    exact cat_tup0 p1 p2 ⟨.ref b, H, I, rfl, q0 rfl⟩
  · refine HT.cat_tup p1 p2 (fun z => hx (r1.nil_iff.mp z)) (fun z => ⟨.ref a, H, I, rfl, q1 hx (r2.nil_iff.mp z)⟩) (fun z => ?_) (by have := r1.length; have := r2.length; omega)
    exact lay_tup (tk := s.toks) I (by rw [List.length_append]; exact hz) (r1.append r2) (q2 hx fun w => z (r2.nil_iff.mpr w))
/-- t[lo:hi] -/
def rSlN (K : PySem.W.Frag) : V → Option Int → Option Int → Hp → VK → Prop := fun x lo hi H Q => ∃ a xs, x = .ref a ∧ SqT K H a xs ∧
  (HT.sIx xs.length 0 lo = 0 ∧ HT.sIx xs.length xs.length hi = xs.length → Q (.ref a) H) ∧ (¬ (HT.sIx xs.length 0 lo = 0 ∧ HT.sIx xs.length xs.length hi = xs.length) → NwT H (cutV xs lo hi) Q)
theorem sl_tupN : SlR X (rSlN X.K) := by
  rintro pins s σ H x v vl vu lo hi sl Q I rx hs pl pu ⟨a, xs, rfl, hx, q1, q2⟩
  cases rx
  obtain ⟨its, r, ht, hz⟩ := I.tuple hx
  have hl : its.toArray.size = xs.length := by have := r.length; rw [List.size_toArray]; omega
  refine ⟨"tuple", _, PyProof.Rows.slot_tuple_getitem.lookup, ht.typeIs, ?_⟩
  by_cases hw : HT.sIx xs.length 0 lo = 0 ∧ HT.sIx xs.length xs.length hi = xs.length
  · exact getItem_tuple_whole ht hs pl pu (hl ▸ hw) ⟨.ref a, H, I, rfl, q1 hw⟩
  · refine HT.getItem_tuple_cut ht hs pl pu (hl ▸ hw) ?_ (hl ▸ hz)
    rw [hl]
    exact lay_tup (tk := s.toks) I (Nat.le_trans (cutV_length xs lo hi) hz) ((r.drop (HT.sIx xs.length 0 lo)).take (HT.sIx xs.length xs.length hi - HT.sIx xs.length 0 lo)) (q2 hw)
/-- t * k -/
def rRepN (K : PySem.W.Frag) : R2 := fun x y H Q => ∃ l k xs, x = .ref l ∧ y = .int k ∧ SqT K H l xs ∧ xs ≠ [] ∧ 2 ≤ k ∧ k ≤ 1000 ∧ xs.length ≤ 1000 ∧ NwT H (List.replicate k.toNat xs).flatten Q
theorem op_repN : OpR X (binaryOp .Mult) (rRepN X.K) := by
  rintro pins s σ H x y v u Q I rx ry ⟨l, k, xs, rfl, rfl, hT, hne, h1, h2, hz, q⟩
  cases rx
  obtain ⟨t, rfl⟩ := ry
  obtain ⟨its, r, ⟨⟨cls, dd, data, sl⟩, ho, hc, n, hd⟩, hs⟩ := I.tuple hT
  simp only at hc hd
  subst hc hd
  have hle : xs.length = its.length := r.length
  have hi : its.toArray.isEmpty = false := by
    cases its with
    | nil => exact absurd (List.eq_nil_of_length_eq_zero hle) hne
    | cons a b => rfl
  have sz0 : its.toArray.size = xs.length := by rw [List.size_toArray]; omega
  have hm : ((its.toArray.size : Nat) : Int) * k ≤ 1000000 := by
    have a1 : ((xs.length : Nat) : Int) * k ≤ 1000 * k := Int.mul_le_mul_of_nonneg_right (by omega) (by omega)
    rw [sz0]; omega
  have le1 : k.toNat * xs.length ≤ 1000 * 1000 := Nat.mul_le_mul (by omega) hz
  have c4 : Builtin.Tuple.tupleTooMany (((its.toArray.size : Nat) : Int) * k) = false := by
    unfold Builtin.Tuple.tupleTooMany
    rw [sizeLine_eq]; exact decide_eq_false (by omega)
  refine wpAny_binaryOp_repeat_ref (T := "tuple") (U := "int") (by decide) ⟨_, ho, rfl⟩ (fun s' => typeIs_int s' k t) noFill_tuple_mul F.fills_int_mul F.slot_int_rmul repeat_tuple F.slot_int_index.lookup
    (call_meets F.slot_int_rmul (typeIs_int s k t) F.entry_int_rmul (F.args_int_rmul_2 _ _) (int_rmul_tuple k t l its.toArray n dd sl) ⟨ho, rfl, ⟨_, ho, rfl⟩, call_meets F.slot_tuple_mul ⟨_, ho, rfl⟩ F.entry_tuple_mul (F.args_tuple_mul_2 _ _)
      (tuple_mulW l its.toArray n dd sl k t (by rw [decide_eq_false (by omega), decide_eq_false (by omega)]; rfl) (by rw [hi, Bool.false_or]; exact beq_eq_false_iff_ne.mpr (by omega)) (by rw [hi, Bool.or_false]; exact decide_eq_false (by omega)) (by omega) c4
        (by rw [size_rep, List.size_toArray, PyProof.Rows.lm_len_rep_flat, sizeLine_eq]; rw [hle] at le1; omega)) ⟨ho, ?_⟩⟩)
  rw [size_rep]
  exact lay_tup (tk := s.toks) I (by rw [PyProof.Rows.lm_len_rep_flat, sizeLine_eq]; omega) (r.rep k.toNat) q
/-- tuple(range(..)) -/
def tTupRgN (te : L2.St → Hp → (Int → Int → Hp → Prop) → Prop) : TE := fun σ H Q => te σ H fun a b H1 => RgOk a b ∧ NwT H1 (rgV a b) Q
theorem pe_tupRgN {te : L2.St → Hp → (Int → Int → Hp → Prop) → Prop} {p : Pos} (hc : X.calm = true) (hg : Gl X "tuple") (hm : X.mg "tuple" = none) (he : PRg X e te) (na : starEach [e] X.env = (false, eval e X.env) :: starEach [] X.env := by rfl) : PE X (.Call (.Name "tuple" p) [e] [] pos) (tTupRgN te) := by
  refine ⟨fun pins s σ H Q I h => Call_ (ld_blt I hg hm boot_tuple (PyProof.Rows.callWith_type1 (args_cons (thn (he pins s σ H _ I h) ?_) na) na))⟩
  rintro x s1 ⟨r, a, b, t, u, v, H1, rfl, hr, I1, ⟨b1, b2, b3, b4, b5⟩, q⟩
  refine args_nil (call_tuple_range (n := (b - a).toNat) (I1.ok.hd hc) hr (small_one b1 b2 b3 b4) (rangeSize_nat a b) b5 fun h' tk acc hk hi => ?_)
  have z : (rgV a b).length ≤ sizeLine := by rw [rgV_length, sizeLine_eq]; omega
  have q2 := lay_tup (s := { s1 with heap := h', toks := tk }) (tk := tk) (I1.kept hk) z (vals_rg hi) q
  unfold tObj at q2
  rw [Array.toArray_toList] at q2
  exact q2
/-- t.index(i), a tuple of ints -/
def rIdxN (K : PySem.W.Frag) : V → List V → Hp → VK → Prop := fun x xs H Q => ∃ (p : Addr) (ns : List Int) (i : Int) (j : Nat), x = .ref p ∧ xs = [.int i] ∧ SqN K H p (ns.map V.int) ∧ ns[j]? = some i ∧ (∀ l, l < j → ns[l]? ≠ some i) ∧ Q (.int (j : Nat)) H
theorem flat_ints (ns : List Int) : (ns.map V.int).all flatV = true := by
  rw [List.all_map, List.all_eq_true]
  intro n _; rfl
theorem mt_idxN : MtR X "tuple.index" (rIdxN X.K) := by
  rintro pins s σ H x xs v us Q I rx rs ⟨p, ns, i, j, rfl, rfl, hq, hy, hno, q⟩
  cases rx
  obtain ⟨u, rfl, t, rfl⟩ := vals1 rs
  obtain ⟨its, r, ⟨⟨cls, dd, dt, sl⟩, ho, hc, n, hd⟩, hz⟩ := I.tuple hq.t
  simp only at hc hd
  subst hc hd
  have hl : its.toArray.size = ns.length := by have := r.length; rw [List.length_map] at this; rw [List.size_toArray]; omega
  have hjl : j < ns.length := (List.getElem?_eq_some_iff.mp hy).1
  have at_ : ∀ (m : Nat) (hm : m < its.toArray.size), eqU (.int i) its.toArray[m] = (ns[m]'(hl ▸ hm) == i) := fun m hm => by
    have hm' : m < ns.length := hl ▸ hm
    obtain ⟨w, hw, t', hw'⟩ := r.get (i := m) (x := .int ns[m]) (by rw [List.getElem?_map, List.getElem?_eq_getElem hm']; rfl)
    have e := (List.getElem?_eq_some_iff.mp hw).2
    have e2 : its.toArray[m] = w := by rw [← e]; simp
    rw [e2, hw']; rfl
  refine call_meets PySem.F.slot_tuple_index ⟨_, ho, rfl⟩ PySem.F.entry_tuple_index (PySem.F.args_tuple_index_2 _ _) (TI.tuple_indexAt p its.toArray n dd sl (.int i t) (eqU (.int i)) j (by omega) ?_ ?_)
    ⟨ho, fun w hw => mem_eqAt (x := .int i) ⟨t, rfl⟩ rfl r (flat_ints ns) w (by simpa using hw), ⟨.int (j : Nat), H, I.tok _, ⟨_, rfl⟩, q⟩⟩
  · rw [at_ j (by omega)]
    have e := (List.getElem?_eq_some_iff.mp hy).2
    rw [e]; exact beq_self_eq_true i
  · intro m hm hmj
    rw [at_ m hm, beq_eq_false_iff_ne]
    intro e
    exact hno m hmj (by rw [List.getElem?_eq_getElem (hl ▸ hm), e])
/-- o.index(e) as an expression -/
def tIdxN (K : PySem.W.Frag) (to : TE) (te : TA) : TE := fun σ H Q => to σ H fun x H1 => (∃ p xs, x = .ref p ∧ SqN K H1 p xs) ∧ te σ H1 fun xs H2 => rIdxN K x xs H2 Q
theorem pe_idxN {o : Expr} {to : TE} {apos cpos : Pos} (ho : PE X o to) (ha : PA X [e] t) (hbase : attributeBase o "index" X.env (eval o X.env) = eval o X.env := by rfl)
    (hfew : ((backTo cpos (starEach [e] X.env)).all (fun x => !x.1) && (backToKw cpos (keywordEach [] X.env)).all (fun x => x.1.isSome) && decide (([e] : List Expr).length + ([] : List Keyword).length + (if ([] : List Keyword).isEmpty then 0 else 1) < 30)) = true := by rfl)
    (hline : (apos.endLine == cpos.line) = true := by rfl) (hs : starEach [e] X.env = (false, eval e X.env) :: starEach [] X.env := by rfl) (hpl : (backTo cpos (starEach [] X.env)).any (·.1) = false := by rfl) :
    PE X (.Call (.Attribute o "index" apos) [e] [] cpos) (tIdxN X.K to t) := by
  refine ⟨fun pins s σ H Q I h => wpAny_Call_method_late hbase hfew hline rfl (thn (ho.run pins s σ H _ I h) ?_)⟩
  rintro v s1 ⟨x, H1, I1, r1, ⟨p, xs, rfl, hq⟩, q1⟩
  cases r1
  have nd : s1.TypeIs (.ref p) "tuple" ∧ ∀ a, Value.ref p = .ref a → ∃ ob, s1.heap.get? a = some ob ∧ ob.dict = none := by
    rcases hq with ⟨o, hH, hd⟩ | ⟨o, its, n, hk, hd, hc, _⟩
    · obtain ⟨g, _, its, _, o', ho', hc', _⟩ := I1.hok p _ hH
      rw [g] at ho'; cases ho'
      exact ⟨⟨o, g, hc'⟩, fun a e => by cases e; exact ⟨o, g, hd⟩⟩
    · have g := I1.kIn p o hk
      exact ⟨⟨o, g, hc⟩, fun a e => by cases e; exact ⟨o, g, hd⟩⟩
  refine ⟨"tuple", _, PySem.F.plainAttrs_tuple, PySem.F.slot_tuple_index, PySem.F.type_tuple_index, nd.1, nd.2, ?_⟩
  have hA := ha.run cpos pins s1 σ H1 _ I1 q1
  rw [hs] at hA ⊢
  refine Calls.callWith_builtin (by show (false || (backTo cpos (starEach [] X.env)).any (·.1)) = false; rw [hpl]; rfl) (Calls.evalArgs_plain (thn hA ?_))
  rintro us s2 ⟨vs, H2, I2, r2, q2⟩
  exact mt_idxN pins s2 σ H2 (.ref p) vs (.ref p) us Q I2 rfl r2 q2
end
end DL

namespace DL
open PySem L2
/-! ### the random state, the global invariant, a frame's data -/
/-- the law's random state: its dict at s, the list of great numbers at g, that of the cells at c -/
structure RngOk (s g c : Addr) (m : Nat) (H : Hp) : Prop where
  ex : ∃ (gs cs : List Int) (l t : Int), H s = some (.dK [(Sum.inr "great", .ref g), (Sum.inr "cells", .ref c), (Sum.inr "left", .int l), (Sum.inr "turn", .int t)]) ∧
    H g = some (.lst (gs.map V.int)) ∧ H c = some (.lst (cs.map V.int)) ∧ (∀ x ∈ gs, 0 ≤ x) ∧ (∀ x ∈ cs, 0 ≤ x) ∧ 0 ≤ l ∧ 0 ≤ t ∧ gs.length ≤ 63 ∧ cs.length ≤ 63 ∧ g ≠ c ∧ t ≤ (m : Int)
def zone (Z : Zs) : Addr → Prop := fun a => ∃ s g c, Z.st = some (s, g, c) ∧ (a = s ∨ a = g)
structure Gi (Z : Zs) (m : Nat) (H : Hp) : Prop where
  tabs : LamX.Tabs Z.T H
  rng : ∀ s g c, Z.st = some (s, g, c) → RngOk s g c m H
structure Zok (Z : Zs) : Prop where
  zo : ∀ a, zone Z a → Z.O a
  gi : ∃ m, Gi Z m Z.H0
  cO : ∀ s g c, Z.st = some (s, g, c) → ¬ Z.O c
section
variable {Z : Zs} {H H' : Hp} {m m' : Nat}
theorem tab_ne {a : Addr} {xs : List V} {q : Str} {P : Addr} {o' : HO} (h : H a = some (.lst xs)) (t : LamX.TabS H P q) : LamX.TabS (upd H a o') P q := by
  obtain ⟨ps, h1, h2, h3⟩ := t
  refine ⟨ps, by rw [upd_ne (ne_of h1 h (by intro z; cases z))]; exact h1, h2, fun pos cv hc => ?_⟩
  obtain ⟨c, e1, e2⟩ := h3 pos cv hc
  exact ⟨c, e1, by rw [upd_ne (ne_of e2 h (by intro z; unfold LamX.CodeO at z; cases z))]; exact e2⟩
theorem Gi.same (g : Gi Z m H) (s : Same H H') : Gi Z m H' := ⟨g.tabs.ext s, fun a b c e => by
  obtain ⟨gs, cs, l, t, h1, h2, h3, r⟩ := (g.rng a b c e).ex
  exact ⟨gs, cs, l, t, s _ _ h1, s _ _ h2, s _ _ h3, r⟩⟩
theorem Gi.upd {a : Addr} {xs ys : List V} (g : Gi Z m H) (h : H a = some (.lst xs)) (hz : ¬ zone Z a) (hc : ∀ s g c, Z.st = some (s, g, c) → a ≠ c) : Gi Z m (upd H a (.lst ys)) :=
  ⟨fun p hp => tab_ne h (g.tabs p hp), fun s b c e => by
    obtain ⟨gs, cs, l, t, h1, h2, h3, r⟩ := (g.rng s b c e).ex
    have n1 : s ≠ a := fun z => hz ⟨s, b, c, e, .inl z.symm⟩
    have n2 : b ≠ a := fun z => hz ⟨s, b, c, e, .inr z.symm⟩
    exact ⟨gs, cs, l, t, by rw [upd_ne n1]; exact h1, by rw [upd_ne n2]; exact h2, by rw [upd_ne (Ne.symm (hc s b c e))]; exact h3, r⟩⟩
end
theorem Zok.rex {Z : Zs} (z : Zok Z) {s g c : Addr} (e : Z.st = some (s, g, c)) : ∃ (gs cs : List Int) (l t : Int), Z.H0 s = some (.dK [(Sum.inr "great", .ref g), (Sum.inr "cells", .ref c), (Sum.inr "left", .int l), (Sum.inr "turn", .int t)]) ∧ Z.H0 g = some (.lst (gs.map V.int)) ∧ Z.H0 c = some (.lst (cs.map V.int)) ∧ True := by
  obtain ⟨m, gi⟩ := z.gi
  obtain ⟨gs, cs, l, t, h1, h2, h3, _⟩ := (gi.rng s g c e).ex
  exact ⟨gs, cs, l, t, h1, h2, h3, trivial⟩
/-- what a slot holds: nothing that is asked, data that stands still, a list of one's own -/
inductive Slot where | no | val (d : D) | own (ds : List D)
abbrev Env := List Slot
def ow (σ : L2.St) (δ : Env) : Addr → Prop := fun a => ∃ (i : Nat) (ds : List D), δ[i]? = some (.own ds) ∧ σ[i]? = some (some (.ref a))
def OO (Z : Zs) (σ : L2.St) (δ : Env) : Addr → Prop := fun a => Z.O a ∨ ow σ δ a
structure Nv (Z : Zs) (m : Nat) (δ : Env) (σ : L2.St) (H : Hp) : Prop where
  len : σ.length = δ.length
  val : ∀ (i : Nat) (d : D), δ[i]? = some (.val d) → ∃ v, σ[i]? = some (some v) ∧ Dn Z (OO Z σ δ) H d v
  own : ∀ (i : Nat) (ds : List D), δ[i]? = some (.own ds) → ∃ a vs, σ[i]? = some (some (.ref a)) ∧ H a = some (.lst vs) ∧ DnL Z (OO Z σ δ) H ds vs ∧ ¬ Z.O a ∧ Fr0 Z.H0 a ∧ ds.length ≤ sizeLine
  sep : ∀ (i j : Nat) (ds es : List D) (a : Addr), δ[i]? = some (.own ds) → δ[j]? = some (.own es) → σ[i]? = some (some (.ref a)) → σ[j]? = some (some (.ref a)) → i = j
  gi : Gi Z m H
  stp : Stp (zone Z) Z.H0 H
  trk : ∀ a, Z.O a → ∃ o, H a = some o ∧ Nt o
  gho : ∀ p ∈ Z.G, Dn Z (OO Z σ δ) H p.1 p.2
section
variable {Z : Zs} {δ : Env} {σ : L2.St} {H H' : Hp} {m m' : Nat}
theorem Nv.trk' (n : Nv Z m δ σ H) (z : Zok Z) {a : Addr} (h : OO Z σ δ a) : ∃ o, H a = some o ∧ Nt o := by
  rcases h with h | ⟨i, ds, e1, e2⟩
  · exact n.trk a h
  · obtain ⟨b, vs, e3, e4, _⟩ := n.own i ds e1
    rw [e2] at e3; cases e3
    exact ⟨_, e4, fun _ z => nomatch z⟩
theorem Nv.fresh (n : Nv Z m δ σ H) (z : Zok Z) {p : Addr} (h : H p = none) : ¬ OO Z σ δ p := fun q => by
  obtain ⟨o, e, _⟩ := n.trk' z q; rw [h] at e; cases e
theorem Gi.up (g : Gi Z m H) (h : m ≤ m') : Gi Z m' H := ⟨g.tabs, fun a b c e => by
  obtain ⟨gs, cs, l, t, h1, h2, h3, h4, h5, h6, h7, h8, h9, h10, h11⟩ := (g.rng a b c e).ex
  exact ⟨gs, cs, l, t, h1, h2, h3, h4, h5, h6, h7, h8, h9, h10, by omega⟩⟩
/-- the heap went on, nothing of the frame's own lists -/
theorem Nv.go (n : Nv Z m δ σ H) (z : Zok Z) (s : Stp (zone Z) H H') (g : Gi Z m' H') : Nv Z m' δ σ H' := by
  have sO : Stp (OO Z σ δ) H H' := s.mono fun c h => .inl (z.zo c h)
  refine ⟨n.len, fun i d e => ?_, fun i ds e => ?_, n.sep, g, n.stp.trans s, fun a h => let ⟨o, ho, nt⟩ := n.trk a h; s.there a o ho nt, fun p hp => Dn.stp sO p.1 p.2 (n.gho p hp)⟩
  · obtain ⟨v, h1, h2⟩ := n.val i d e
    exact ⟨v, h1, Dn.stp sO d v h2⟩
  · obtain ⟨a, vs, h1, h2, h3, h4, h5, h6⟩ := n.own i ds e
    exact ⟨a, vs, h1, s.keep _ _ h2 (fun _ z => nomatch z) (fun q => h4 (z.zo _ q)), DnL.stp sO ds vs h3, h4, h5, h6⟩
theorem Nv.same (n : Nv Z m δ σ H) (z : Zok Z) (s : Same H H') : Nv Z m δ σ H' := n.go z (.same s) (n.gi.same s)
end
/-! ### the judgements -/
abbrev TD := Nat → Env → (Nat → D → Prop) → Prop
abbrev TB := Nat → Env → (Nat → Bool → Prop) → Prop
abbrev TL := Nat → Env → (Nat → List D → Prop) → Prop
structure DE (Z : Zs) (X : Cx) (e : Expr) (t : TD) : Prop where
  ex : ∃ T : TE, PE X e T ∧ ∀ (m : Nat) (δ : Env) (σ : L2.St) (H : Hp) (Q : Nat → D → Prop) (R : VK), Nv Z m δ σ H → t m δ Q →
    (∀ m' v d H', Nv Z m' δ σ H' → Stp (zone Z) H H' → Dn Z (OO Z σ δ) H' d v → Q m' d → R v H') → T σ H R
structure DT (Z : Zs) (X : Cx) (e : Expr) (t : TB) : Prop where
  ex : ∃ T : TT, PT X e T ∧ ∀ (m : Nat) (δ : Env) (σ : L2.St) (H : Hp) (Q : Nat → Bool → Prop) (R : Bool → Hp → Prop), Nv Z m δ σ H → t m δ Q →
    (∀ m' b H', Nv Z m' δ σ H' → Stp (zone Z) H H' → Q m' b → R b H') → T σ H R
structure DW (Z : Zs) (X : Cx) (e : Expr) (t : TB) : Prop where
  ex : ∃ T : TT, PW X e T ∧ ∀ (m : Nat) (δ : Env) (σ : L2.St) (H : Hp) (Q : Nat → Bool → Prop) (R : Bool → Hp → Prop), Nv Z m δ σ H → t m δ Q →
    (∀ m' b H', Nv Z m' δ σ H' → Stp (zone Z) H H' → Q m' b → R b H') → T σ H R
structure DA (Z : Zs) (X : Cx) (es : List Expr) (t : TL) : Prop where
  ex : ∃ T : TA, PA X es T ∧ ∀ (m : Nat) (δ : Env) (σ : L2.St) (H : Hp) (Q : Nat → List D → Prop) (R : List V → Hp → Prop), Nv Z m δ σ H → t m δ Q →
    (∀ m' vs ds H', Nv Z m' δ σ H' → Stp (zone Z) H H' → DnL Z (OO Z σ δ) H' ds vs → Q m' ds → R vs H') → T σ H R
/-- what a context must be -/
structure XF (L : Ls) (Z : Zs) (X : Cx) (k : Nat) (ε : Nat → Str → Prop) : Prop where
  hL : Z.L = L
  zok : Zok Z
  K : X.K = Z.K
  nd : X.N.Nodup
  calm : X.calm = true
  room : Room k X.A
  pass : PassesOwn (model X.prog X.w) X.A X.env X.xe
  tk : Takes X (fun cls d _ H => ∃ m c, cls = .ref (Z.cls c) ∧ d = none ∧ ε m c ∧ Stp (zone Z) Z.H0 H ∧ Gi Z m H)
  W : X.w = Z.w
section
variable {L : Ls} {Z : Zs} {X : Cx} {k : Nat} {ε : Nat → Str → Prop}
theorem XF.hu (F : XF L Z X k ε) : X.A.units + 1 < cLine := hu_of F.room
theorem XF.hu64 (F : XF L Z X k ε) : X.A.units + 64 < cLine := by have := F.room.un; omega
theorem XF.hu65 (F : XF L Z X k ε) : X.A.units + 65 < cLine := by have := F.room.un; omega
theorem XF.mono {j : Nat} (F : XF L Z X k ε) (h : j ≤ k) : XF L Z X j ε := ⟨F.hL, F.zok, F.K, F.nd, F.calm, F.room.mono h, F.pass, F.tk, F.W⟩

/-! ### names and constants -/
@[simp] def rVar (i : Nat) : TD := fun m δ Q => match δ[i]? with | some (.val d) => Q m d | _ => False
@[simp] def rC (d : D) : TD := fun m _ Q => Q m d
theorem de_var (F : XF L Z X k ε) (i : Nat) {x : Str} {pos : Pos} (hN : X.N[i]? = some x := by rfl) (hv : Vis X.env.scope x := by first | exact Or.inl rfl | exact Or.inr (Or.inl rfl) | exact Or.inr (Or.inr rfl)) (hd : (x == ("__debug__" : Str)) = false := by decide)
    (hcd : (x == ("__classdict__" : Str)) = false := by decide) : DE Z X (.Name x pos) (rVar i) := by
  refine ⟨_, pe_var hN hv hd hcd, fun m δ σ H Q R n h r => ?_⟩
  unfold rVar at h
  split at h
  · rename_i d e
    obtain ⟨v, h1, h2⟩ := n.val i d e
    exact ⟨v, h1, r _ v d H n (.refl _ _) h2 h⟩
  · exact h.elim
theorem de_int (F : XF L Z X k ε) {i : Int} {j pos} : DE Z X (.Constant (.int i) j pos) (rC (.int i)) := ⟨_, pe_int, fun m δ σ H Q R n h r => r _ _ _ H n (.refl _ _) (by unfold Dn; rfl) h⟩
theorem de_bl (F : XF L Z X k ε) {b : Bool} {j pos} : DE Z X (.Constant (.bool b) j pos) (rC (.bl b)) := ⟨_, pe_bl, fun m δ σ H Q R n h r => r _ _ _ H n (.refl _ _) (by unfold Dn; rfl) h⟩
theorem de_non (F : XF L Z X k ε) {j pos} : DE Z X (.Constant .none j pos) (rC .non) := ⟨_, pe_non, fun m δ σ H Q R n h r => r _ _ _ H n (.refl _ _) (by unfold Dn; rfl) h⟩
theorem de_str (F : XF L Z X k ε) {x : Str} {j pos} : DE Z X (.Constant (.str x) j pos) (rC (.str x)) := ⟨_, pe_str, fun m δ σ H Q R n h r => r _ _ _ H n (.refl _ _) (by unfold Dn; rfl) h⟩
/-- a whole number of the module -/
theorem de_glob (F : XF L Z X k ε) {x : Str} {i : Int} {pos : Pos} (hm : ∃ t, X.mg x = some (.int i t)) (hg : Gl X x := by rfl) (hd : (x == ("__debug__" : Str)) = false := by decide) : DE Z X (.Name x pos) (rC (.int i)) := by
  obtain ⟨t, hm⟩ := hm
  exact ⟨_, pe_glob (v := .int i) hg hm ⟨t, rfl⟩ hd, fun m δ σ H Q R n h r => r _ _ _ H n (.refl _ _) (by unfold Dn; rfl) h⟩

/-! ### operators on values -/
/-- a two-place operation does g -/
def BinD (Z : Zs) (X : Cx) (f : Value → Value → Sem Value) (g : D → D → (D → Prop) → Prop) : Prop :=
  ∃ r : R2, OpR X f r ∧ ∀ (P : Addr → Prop) (H : Hp) (x y : V) (d e : D) (Q : D → Prop) (R : VK), (∀ a, H a = none → ¬ P a) → Dn Z P H d x → Dn Z P H e y → g d e Q →
    (∀ v c H', Same H H' → Dn Z P H' c v → Q c → R v H') → r x y H R
@[simp] def rOp (g : D → D → (D → Prop) → Prop) (ta tb : TD) : TD := fun m δ Q => ta m δ fun m d => tb m δ fun m e => g d e (Q m)
theorem BinD.or {f : Value → Value → Sem Value} {g g' : D → D → (D → Prop) → Prop} (h : BinD Z X f g) (h' : BinD Z X f g') : BinD Z X f (fun d e Q => g d e Q ∨ g' d e Q) := by
  obtain ⟨r, o, p⟩ := h
  obtain ⟨r', o', p'⟩ := h'
  refine ⟨_, o.or o', fun P H x y d e Q R hp hd he hg k => ?_⟩
  rcases hg with hg | hg
  · exact .inl (p P H x y d e Q R hp hd he hg k)
  · exact .inr (p' P H x y d e Q R hp hd he hg k)
theorem BinD.imp {f : Value → Value → Sem Value} {g g' : D → D → (D → Prop) → Prop} (h : BinD Z X f g) (i : ∀ d e Q, g' d e Q → g d e Q) : BinD Z X f g' := by
  obtain ⟨r, o, p⟩ := h
  exact ⟨r, o, fun P H x y d e Q R hp hd he hg k => p P H x y d e Q R hp hd he (i _ _ _ hg) k⟩
theorem two {ta tb : TD} {Ta Tb : TE} {b : Expr} (F : XF L Z X k ε) {g : D → D → (D → Prop) → Prop} {r : R2}
    (ha : ∀ (m : Nat) (δ : Env) (σ : L2.St) (H : Hp) (Q : Nat → D → Prop) (R : VK), Nv Z m δ σ H → ta m δ Q → (∀ m' v d H', Nv Z m' δ σ H' → Stp (zone Z) H H' → Dn Z (OO Z σ δ) H' d v → Q m' d → R v H') → Ta σ H R)
    (hb : ∀ (m : Nat) (δ : Env) (σ : L2.St) (H : Hp) (Q : Nat → D → Prop) (R : VK), Nv Z m δ σ H → tb m δ Q → (∀ m' v d H', Nv Z m' δ σ H' → Stp (zone Z) H H' → Dn Z (OO Z σ δ) H' d v → Q m' d → R v H') → Tb σ H R)
    (hr : ∀ (P : Addr → Prop) (H : Hp) (x y : V) (d e : D) (Q : D → Prop) (R : VK), (∀ a, H a = none → ¬ P a) → Dn Z P H d x → Dn Z P H e y → g d e Q → (∀ v c H', Same H H' → Dn Z P H' c v → Q c → R v H') → r x y H R)
    {m : Nat} {δ : Env} {σ : L2.St} {H : Hp} {Q : Nat → D → Prop} {R : VK} (n : Nv Z m δ σ H) (h : rOp g ta tb m δ Q) (q : ∀ m' v d H', Nv Z m' δ σ H' → Stp (zone Z) H H' → Dn Z (OO Z σ δ) H' d v → Q m' d → R v H') :
    Ta σ H fun x H1 => Tb σ H1 fun y H2 => r x y H2 R := by
  refine ha m δ σ H _ _ n h fun m x d H1 n1 s1 d1 h1 => hb m δ σ H1 _ _ n1 h1 fun m y e H2 n2 s2 d2 h2 => ?_
  have d1' := Dn.stp (s2.mono fun c z => Or.inl (F.zok.zo c z)) d x d1
  exact hr (OO Z σ δ) H2 x y d e (Q _) _ (fun a ha => n2.fresh F.zok ha) d1' d2 h2 fun v c H' sm dv qc => q _ v c H' (n2.same F.zok sm) ((s1.trans s2).trans (.same sm)) dv qc
theorem de_op (F : XF L Z X k ε) {op : Operator} {g : D → D → (D → Prop) → Prop} {a b : Expr} {ta tb : TD} {pos : Pos} (o : BinD Z X (binaryOp op) g) (ha : DE Z X a ta) (hb : DE Z X b tb) : DE Z X (.BinOp a op b pos) (rOp g ta tb) := by
  obtain ⟨r, or, hr⟩ := o
  obtain ⟨Ta, pa, ha⟩ := ha.ex
  obtain ⟨Tb, pb, hb⟩ := hb.ex
  exact ⟨_, pe_op or pa pb, fun m δ σ H Q R n h q => two (b := b) F ha hb hr n h q⟩
theorem de_cmp (F : XF L Z X k ε) {op : CmpOp} {g : D → D → (D → Prop) → Prop} {a b : Expr} {ta tb : TD} {pos : Pos} (o : BinD Z X (compareOp op) g) (ha : DE Z X a ta) (hb : DE Z X b tb) (hm : behindInMarks op b = false) : DE Z X (.Compare a [op] [b] pos) (rOp g ta tb) := by
  obtain ⟨r, or, hr⟩ := o
  obtain ⟨Ta, pa, ha⟩ := ha.ex
  obtain ⟨Tb, pb, hb⟩ := hb.ex
  exact ⟨_, pe_cmpR or pa pb hm, fun m δ σ H Q R n h q => two (b := b) F ha hb hr n h q⟩
/-- a comparison as a test: it must give a truth -/
@[simp] def rTest (t : TD) : TB := fun m δ Q => t m δ fun m d => match d with | .bl b => Q m b | _ => False
theorem dt_cmp (F : XF L Z X k ε) {op : CmpOp} {g : D → D → (D → Prop) → Prop} {a b : Expr} {ta tb : TD} {pos : Pos} (o : BinD Z X (compareOp op) g) (ha : DE Z X a ta) (hb : DE Z X b tb) (hm : behindInMarks op b = false) : DT Z X (.Compare a [op] [b] pos) (rTest (rOp g ta tb)) := by
  obtain ⟨r, or, hr⟩ := o
  obtain ⟨Ta, pa, ha⟩ := ha.ex
  obtain ⟨Tb, pb, hb⟩ := hb.ex
  refine ⟨_, pt_cmpR or pa pb hm, fun m δ σ H Q R n h q => two (b := b) F ha hb hr n h fun m v d H' n' s' dv hq => ?_⟩
  cases d <;> first | exact hq.elim | skip
  rename_i b
  unfold Dn at dv
  exact ⟨b, dv, q _ b H' n' s' hq⟩

/-! ### truth -/
/-- the truth of data -/
@[simp] def dTru : D → (Bool → Prop) → Prop
  | .non, Q => Q false
  | .bl b, Q => Q b
  | .int i, Q => Q (i != 0)
  | .tup ds, Q => Q (!ds.isEmpty)
  | .lst ds, Q => Q (!ds.isEmpty)
  | .emp, Q => Q false
  | _, _ => False
theorem tru_of {P : Addr → Prop} {H : Hp} {d : D} {v : V} {Q : Bool → Prop} (h : Dn Z P H d v) (q : dTru d Q) : ∃ b, TruV Z.K v H b ∧ Q b := by
  cases d <;> unfold Dn at h
  case non => subst h; exact ⟨_, rfl, q⟩
  case bl b => subst h; exact ⟨_, rfl, q⟩
  case int i => subst h; exact ⟨_, rfl, q⟩
  case tup ds =>
    obtain ⟨z, a, vs, rfl, t, l⟩ := h
    refine ⟨!vs.isEmpty, .inr (.inl ⟨vs, t.t, rfl⟩), ?_⟩
    have e : vs.isEmpty = ds.isEmpty := by have := l.length; cases vs <;> cases ds <;> simp_all
    rw [e]; exact q
  case lst ds =>
    obtain ⟨z, a, vs, rfl, p, t, l⟩ := h
    refine ⟨!vs.isEmpty, .inl ⟨vs, .inl (.inl t), rfl⟩, ?_⟩
    have e : vs.isEmpty = ds.isEmpty := by have := l.length; cases vs <;> cases ds <;> simp_all
    rw [e]; exact q
  case emp =>
    obtain ⟨a, rfl, p, t⟩ := h
    exact ⟨_, .inr (.inr ⟨[], t, rfl⟩), q⟩
  all_goals exact q.elim
@[simp] def rTru (t : TD) : TB := fun m δ Q => t m δ fun m d => dTru d (Q m)
theorem dt_truth (F : XF L Z X k ε) {a : Expr} {ta : TD} (ha : DE Z X a ta) (he : ∀ whole, isTrue a X.env whole = (do let v ← whole; standAt a.pos; holding [v] (truthy v)) := by intro _; rfl) : DT Z X a (rTru ta) := by
  obtain ⟨Ta, pa, ha⟩ := ha.ex
  refine ⟨_, pt_truth pa he, fun m δ σ H Q R n h q => ha m δ σ H _ _ n h fun m v d H' n' s' dv hq => ?_⟩
  obtain ⟨b, t, qb⟩ := tru_of dv hq
  exact ⟨b, by rw [F.K]; exact t, q _ b H' n' s' qb⟩
@[simp] def rAnd (t u : TB) : TB := fun m δ Q => t m δ fun m c => if c = true then u m δ Q else Q m false
@[simp] def rOr (t u : TB) : TB := fun m δ Q => t m δ fun m c => if c = true then Q m true else u m δ Q
@[simp] def rNot (t : TB) : TB := fun m δ Q => t m δ fun m c => Q m (!c)
variable {a b c : Expr} {ta tb : TD} {tA tB' : TB} {rest : List Expr} {pos : Pos}
theorem dw_and1 (ha : DT Z X a tA) : DW Z X (.BoolOp .And [a] pos) tA := by
  obtain ⟨T, p, h⟩ := ha.ex
  exact ⟨T, pw_and1 p, h⟩
theorem dw_or1 (ha : DT Z X a tA) : DW Z X (.BoolOp .Or [a] pos) tA := by
  obtain ⟨T, p, h⟩ := ha.ex
  exact ⟨T, pw_or1 p, h⟩
theorem dw_and (ha : DT Z X a tA) (hb : DW Z X (.BoolOp .And (b :: rest) pos) tB') : DW Z X (.BoolOp .And (a :: b :: rest) pos) (rAnd tA tB') := by
  obtain ⟨T, p, h⟩ := ha.ex
  obtain ⟨U, p', h'⟩ := hb.ex
  refine ⟨_, pw_and p p', fun m δ σ H Q R n g q => h m δ σ H _ _ n g fun m c H1 n1 s1 g1 => ?_⟩
  cases c with
  | true => exact iteT (h' m δ σ H1 Q R n1 (by simpa using g1) fun m b H' n' s' hq => q _ b H' n' (s1.trans s') hq)
  | false => exact iteF (q _ false H1 n1 s1 (by simpa using g1))
theorem dw_or (ha : DT Z X a tA) (hb : DW Z X (.BoolOp .Or (b :: rest) pos) tB') : DW Z X (.BoolOp .Or (a :: b :: rest) pos) (rOr tA tB') := by
  obtain ⟨T, p, h⟩ := ha.ex
  obtain ⟨U, p', h'⟩ := hb.ex
  refine ⟨_, pw_or p p', fun m δ σ H Q R n g q => h m δ σ H _ _ n g fun m c H1 n1 s1 g1 => ?_⟩
  cases c with
  | true => exact iteT (q _ true H1 n1 s1 (by simpa using g1))
  | false => exact iteF (h' m δ σ H1 Q R n1 (by simpa using g1) fun m b H' n' s' hq => q _ b H' n' (s1.trans s') hq)
theorem DW.dt (h : DW Z X a tA) : DT Z X a tA := by
  obtain ⟨T, p, h⟩ := h.ex
  exact ⟨T, p.pt, h⟩
theorem dt_not (ha : DT Z X a tA) : DT Z X (.UnaryOp .Not a pos) (rNot tA) := by
  obtain ⟨T, p, h⟩ := ha.ex
  exact ⟨_, pt_not p, fun m δ σ H Q R n g q => h m δ σ H _ _ n g fun m c H1 n1 s1 g1 => q _ (!c) H1 n1 s1 g1⟩
/-! .. as values -/
@[simp] def rAndV (ta tb : TD) : TD := fun m δ Q => ta m δ fun m d => match d with | .bl c => if c = true then tb m δ Q else Q m (.bl false) | _ => False
@[simp] def rOrV (ta tb : TD) : TD := fun m δ Q => ta m δ fun m d => match d with | .bl c => if c = true then Q m (.bl true) else tb m δ Q | _ => False
def rNotV (t : TB) : TD := fun m δ Q => t m δ fun m c => Q m (.bl (!c))
theorem de_one {op : BoolOp} (ha : DE Z X a ta) : DE Z X (.BoolOp op [a] pos) ta := by
  obtain ⟨T, p, h⟩ := ha.ex
  exact ⟨T, pe_one p, h⟩
theorem de_and (ha : DE Z X a ta) (hb : DE Z X (.BoolOp .And (b :: rest) pos) tb) : DE Z X (.BoolOp .And (a :: b :: rest) pos) (rAndV ta tb) := by
  obtain ⟨T, p, h⟩ := ha.ex
  obtain ⟨U, p', h'⟩ := hb.ex
  refine ⟨_, pe_and p p', fun m δ σ H Q R n g q => h m δ σ H _ _ n g fun m v d H1 n1 s1 dv g1 => ?_⟩
  cases d <;> first | exact g1.elim | skip
  rename_i c
  unfold Dn at dv
  refine ⟨c, dv, ?_⟩
  cases c with
  | true => exact iteT (h' m δ σ H1 Q R n1 (by simpa using g1) fun m v d H' n' s' dv hq => q _ v d H' n' (s1.trans s') dv hq)
  | false => exact iteF (q _ _ (.bl false) H1 n1 s1 (dn_bl.mpr rfl) (by simpa using g1))
theorem de_or (ha : DE Z X a ta) (hb : DE Z X (.BoolOp .Or (b :: rest) pos) tb) : DE Z X (.BoolOp .Or (a :: b :: rest) pos) (rOrV ta tb) := by
  obtain ⟨T, p, h⟩ := ha.ex
  obtain ⟨U, p', h'⟩ := hb.ex
  refine ⟨_, pe_or p p', fun m δ σ H Q R n g q => h m δ σ H _ _ n g fun m v d H1 n1 s1 dv g1 => ?_⟩
  cases d <;> first | exact g1.elim | skip
  rename_i c
  unfold Dn at dv
  refine ⟨c, dv, ?_⟩
  cases c with
  | true => exact iteT (q _ _ (.bl true) H1 n1 s1 (dn_bl.mpr rfl) (by simpa using g1))
  | false => exact iteF (h' m δ σ H1 Q R n1 (by simpa using g1) fun m v d H' n' s' dv hq => q _ v d H' n' (s1.trans s') dv hq)
@[simp] def rIf (t : TB) (ta tb : TD) : TD := fun m δ Q => t m δ fun m c => if c = true then ta m δ Q else tb m δ Q
theorem de_if (hc : DT Z X c tA) (ha : DE Z X a ta) (hb : DE Z X b tb) : DE Z X (.IfExp c a b pos) (rIf tA ta tb) := by
  obtain ⟨S, p0, h0⟩ := hc.ex
  obtain ⟨T, p, h⟩ := ha.ex
  obtain ⟨U, p', h'⟩ := hb.ex
  refine ⟨_, pe_ifExp p0 p p', fun m δ σ H Q R n g q => h0 m δ σ H _ _ n g fun m c H1 n1 s1 g1 => ?_⟩
  cases c with
  | true => exact iteT (h m δ σ H1 Q R n1 (by simpa using g1) fun m v d H' n' s' dv hq => q _ v d H' n' (s1.trans s') dv hq)
  | false => exact iteF (h' m δ σ H1 Q R n1 (by simpa using g1) fun m v d H' n' s' dv hq => q _ v d H' n' (s1.trans s') dv hq)
end
end DL

namespace DL
open PySem L2
section
variable {L : Ls} {Z : Zs} {X : Cx} {k : Nat} {ε : Nat → Str → Prop}
/-! ### arithmetic -/
def gInt (C : Int → Int → Prop) (f : Int → Int → D) : D → D → (D → Prop) → Prop
  | .int i, .int j, Q => C i j ∧ Q (f i j)
  | _, _, _ => False
theorem bin_int {f : Value → Value → Sem Value} {C : Int → Int → Prop} {g : Int → Int → V} {gd : Int → Int → D} (ho : OpR X f (rI C g)) (hg : ∀ P H i j, Dn Z P H (gd i j) (g i j)) : BinD Z X f (gInt C gd) := by
  refine ⟨_, ho, fun P H x y d e Q R hp hd he h q => ?_⟩
  unfold gInt at h
  split at h
  · obtain ⟨hc, hq⟩ := h
    exact ⟨_, _, dn_int.mp hd, dn_int.mp he, hc, q _ _ H (Same.refl _) (hg P H _ _) hq⟩
  · exact h.elim
theorem OpR.of0 {f : Value → Value → Sem Value} {g : Int → Int → V} (h : OpR X f (rI0 g)) : OpR X f (rI (fun _ _ => True) g) := fun pins s σ H x y v u Q I rx ry q => by
  obtain ⟨i, j, e1, e2, _, q⟩ := q
  exact h pins s σ H x y v u Q I rx ry ⟨i, j, e1, e2, q⟩
theorem b_sub : BinD Z X (binaryOp .Sub) (gInt (fun _ _ => True) fun i j => .int (i - j)) := bin_int (OpR.of0 op_sub) fun _ _ _ _ => dn_int.mpr rfl
theorem b_addI : BinD Z X (binaryOp .Add) (gInt (fun _ _ => True) fun i j => .int (i + j)) := bin_int (OpR.of0 op_add) fun _ _ _ _ => dn_int.mpr rfl
theorem b_mulI : BinD Z X (binaryOp .Mult) (gInt CMul fun i j => .int (i * j)) := bin_int op_mul fun _ _ _ _ => dn_int.mpr rfl
theorem b_fdiv : BinD Z X (binaryOp .FloorDiv) (gInt CDivN fun i j => .int (i.fdiv j)) := bin_int op_fdivN fun _ _ _ _ => dn_int.mpr rfl
theorem b_mod : BinD Z X (binaryOp .Mod) (gInt (fun _ j => j ≠ 0) fun i j => .int (i.fmod j)) := bin_int op_modN fun _ _ _ _ => dn_int.mpr rfl
theorem b_pow : BinD Z X (binaryOp .Pow) (gInt CPow fun i j => .int (i ^ j.toNat)) := bin_int op_pow fun _ _ _ _ => dn_int.mpr rfl
theorem c_ltI : BinD Z X (compareOp .Lt) (gInt (fun _ _ => True) fun i j => .bl (decide (i < j))) := bin_int (OpR.of0 op_lt) fun _ _ _ _ => dn_bl.mpr rfl
theorem c_leI : BinD Z X (compareOp .LtE) (gInt (fun _ _ => True) fun i j => .bl (decide (i ≤ j))) := bin_int (OpR.of0 op_le) fun _ _ _ _ => dn_bl.mpr rfl
theorem c_gtI : BinD Z X (compareOp .Gt) (gInt (fun _ _ => True) fun i j => .bl (decide (j < i))) := bin_int (OpR.of0 op_gt) fun _ _ _ _ => dn_bl.mpr rfl
theorem c_geI : BinD Z X (compareOp .GtE) (gInt (fun _ _ => True) fun i j => .bl (decide (j ≤ i))) := bin_int (OpR.of0 op_ge) fun _ _ _ _ => dn_bl.mpr rfl
/-! ### + of texts, tuples, lists -/
def gCatT : D → D → (D → Prop) → Prop
  | .tup a, .tup b, Q => a.length + b.length ≤ sizeLine ∧ Q (.tup (a ++ b))
  | _, _, _ => False
def gCatL : D → D → (D → Prop) → Prop
  | .lst a, .lst b, Q => a.length + b.length ≤ sizeLine ∧ Q (.lst (a ++ b))
  | _, _, _ => False
def gCatS : D → D → (D → Prop) → Prop
  | .str a, .str b, Q => a.length + b.length ≤ sizeLine ∧ Q (.str (a ++ b))
  | _, _, _ => False
theorem b_catT (hK : X.K = Z.K) : BinD Z X (binaryOp .Add) gCatT := by
  refine ⟨_, op_catN, fun P H x y d e Q R hp hd he h q => ?_⟩
  unfold gCatT at h
  split at h
  · rename_i as bs
    obtain ⟨hz, hq⟩ := h
    obtain ⟨_, a, vs, rfl, ta, la⟩ := dn_tupT hd
    obtain ⟨_, b, ws, rfl, tb, lb⟩ := dn_tupT he
    have l1 := la.length
    have l2 := lb.length
    rw [← hK] at ta tb
    refine ⟨a, b, vs, ws, rfl, rfl, ta, tb, by omega, fun e => ?_, fun n e => ?_, fun n1 n2 p o hp' od => ?_⟩
    · have e' : as = [] := List.eq_nil_of_length_eq_zero (by rw [← l1, e]; rfl)
      subst e'
      exact q _ _ H (Same.refl _) (by rw [List.nil_append]; exact he) hq
    · have e' : bs = [] := List.eq_nil_of_length_eq_zero (by rw [← l2, e]; rfl)
      subst e'
      exact q _ _ H (Same.refl _) (by rw [List.append_nil]; exact hd) hq
    · exact q _ _ _ (same_upd hp') (dn_newT (la.append lb) (by rw [List.length_append]; exact hz) hp' od) hq
  · exact h.elim
theorem b_catL : BinD Z X (binaryOp .Add) gCatL := by
  refine ⟨_, op_cat, fun P H x y d e Q R hp hd he h q => ?_⟩
  unfold gCatL at h
  split at h
  · obtain ⟨hz, hq⟩ := h
    obtain ⟨_, a, vs, rfl, pa, ta, la⟩ := dn_lst.mp hd
    obtain ⟨_, b, ws, rfl, pb, tb, lb⟩ := dn_lst.mp he
    have l1 := la.length
    have l2 := lb.length
    exact ⟨a, b, vs, ws, rfl, rfl, ta, tb, by omega, fun p hp' => q _ _ _ (same_upd hp') (dn_newL (la.append lb) (by rw [List.length_append]; exact hz) hp' (hp p hp')) hq⟩
  · exact h.elim
theorem b_catS : BinD Z X (binaryOp .Add) gCatS := by
  refine ⟨_, op_add_str, fun P H x y d e Q R hp hd he h q => ?_⟩
  unfold gCatS at h
  split at h
  · obtain ⟨hz, hq⟩ := h
    exact ⟨_, _, dn_str.mp hd, dn_str.mp he, hz, q _ _ H (Same.refl _) (dn_str.mpr rfl) hq⟩
  · exact h.elim
/-- + -/
@[simp] def dAdd : D → D → (D → Prop) → Prop
  | .int i, .int j, Q => Q (.int (i + j))
  | .tup a, .tup b, Q => a.length + b.length ≤ sizeLine ∧ Q (.tup (a ++ b))
  | .lst a, .lst b, Q => a.length + b.length ≤ sizeLine ∧ Q (.lst (a ++ b))
  | .str a, .str b, Q => a.length + b.length ≤ sizeLine ∧ Q (.str (a ++ b))
  | _, _, _ => False
theorem b_add (F : XF L Z X k ε) : BinD Z X (binaryOp .Add) dAdd := ((b_addI.or (b_catT F.K)).or (b_catL.or b_catS)).imp fun d e Q h => by
  unfold dAdd at h
  split at h
  · exact .inl (.inl ⟨trivial, h⟩)
  · exact .inl (.inr h)
  · exact .inr (.inl h)
  · exact .inr (.inr h)
  · exact h.elim
/-- * -/
def gRepT : D → D → (D → Prop) → Prop
  | .tup a, .int j, Q => a ≠ [] ∧ 2 ≤ j ∧ j ≤ 1000 ∧ a.length ≤ 1000 ∧ Q (.tup (List.replicate j.toNat a).flatten)
  | _, _, _ => False
def gRepL : D → D → (D → Prop) → Prop
  | .lst a, .int j, Q => -(2 ^ 63) ≤ j ∧ j < 2 ^ 63 ∧ a.length * j.toNat ≤ sizeLine ∧ Q (.lst (List.replicate j.toNat a).flatten)
  | _, _, _ => False
theorem len_rep {α : Type} (a : List α) : ∀ n : Nat, (List.replicate n a).flatten.length = a.length * n
  | 0 => by simp
  | n + 1 => by rw [List.replicate_succ, List.flatten_cons, List.length_append, len_rep a n, Nat.mul_succ]; omega
theorem b_repT (hK : X.K = Z.K) : BinD Z X (binaryOp .Mult) gRepT := by
  refine ⟨_, op_repN, fun P H x y d e Q R hp hd he h q => ?_⟩
  unfold gRepT at h
  split at h
  · rename_i as j
    obtain ⟨hne, h1, h2, h3, hq⟩ := h
    obtain ⟨_, a, vs, rfl, ta, la⟩ := dn_tupT hd
    have l1 := la.length
    rw [← hK] at ta
    have hz : (List.replicate j.toNat as).flatten.length ≤ sizeLine := by
      rw [len_rep, sizeLine_eq]
      have : as.length * j.toNat ≤ 1000 * 1000 := Nat.mul_le_mul h3 (by omega)
      omega
    exact ⟨a, j, vs, rfl, dn_int.mp he, ta, fun e => hne (List.eq_nil_of_length_eq_zero (by rw [← l1, e]; rfl)), h1, h2, by omega, fun p o hp' od => q _ _ _ (same_upd hp') (dn_newT (la.rep _) hz hp' od) hq⟩
  · exact h.elim
theorem b_repL : BinD Z X (binaryOp .Mult) gRepL := by
  refine ⟨_, op_rep, fun P H x y d e Q R hp hd he h q => ?_⟩
  unfold gRepL at h
  split at h
  · rename_i as j
    obtain ⟨h1, h2, hz, hq⟩ := h
    obtain ⟨_, a, vs, rfl, pa, ta, la⟩ := dn_lst.mp hd
    have l1 := la.length
    exact ⟨a, j, vs, rfl, dn_int.mp he, ta, h1, h2, by rw [l1]; exact hz, fun p hp' => q _ _ _ (same_upd hp') (dn_newL (la.rep _) (by rw [len_rep]; exact hz) hp' (hp p hp')) hq⟩
  · exact h.elim
@[simp] def dMul : D → D → (D → Prop) → Prop
  | .int i, .int j, Q => CMul i j ∧ Q (.int (i * j))
  | .tup a, .int j, Q => a ≠ [] ∧ 2 ≤ j ∧ j ≤ 1000 ∧ a.length ≤ 1000 ∧ Q (.tup (List.replicate j.toNat a).flatten)
  | .lst a, .int j, Q => -(2 ^ 63) ≤ j ∧ j < 2 ^ 63 ∧ a.length * j.toNat ≤ sizeLine ∧ Q (.lst (List.replicate j.toNat a).flatten)
  | _, _, _ => False
theorem b_mul (F : XF L Z X k ε) : BinD Z X (binaryOp .Mult) dMul := ((b_mulI.or (b_repT F.K)).or b_repL).imp fun d e Q h => by
  unfold dMul at h
  split at h
  · exact .inl (.inl h)
  · exact .inl (.inr h)
  · exact .inr h
  · exact h.elim
theorem un_int {op : UnaryOp} {g : Int → Int} {a : Expr} {ta : TD} {pos : Pos} (ho : UnR X (unaryOp op) (rU fun i => .int (g i))) (ha : DE Z X a ta) : DE Z X (.UnaryOp op a pos) (fun m δ Q => ta m δ fun m d => match d with | .int i => Q m (.int (g i)) | _ => False) := by
  obtain ⟨T, p, h⟩ := ha.ex
  refine ⟨_, pe_un ho p, fun m δ σ H Q R n g' q => h m δ σ H _ _ n g' fun m v d H1 n1 s1 dv g1 => ?_⟩
  cases d <;> first | exact g1.elim | skip
  rename_i i
  exact ⟨i, dn_int.mp dv, q _ _ _ H1 n1 s1 (dn_int.mpr rfl) g1⟩
@[simp] def rNeg (ta : TD) : TD := fun m δ Q => ta m δ fun m d => match d with | .int i => Q m (.int (-i)) | _ => False
theorem de_neg {a : Expr} {ta : TD} {pos : Pos} (ha : DE Z X a ta) : DE Z X (.UnaryOp .USub a pos) (rNeg ta) := un_int un_neg ha
@[simp] def rNotB (ta : TD) : TD := fun m δ Q => ta m δ fun m d => match d with | .bl b => Q m (.bl (!b)) | _ => False
theorem de_notV {a : Expr} {ta : TD} {pos : Pos} (ha : DE Z X a ta) : DE Z X (.UnaryOp .Not a pos) (rNotB ta) := by
  obtain ⟨T, p, h⟩ := ha.ex
  refine ⟨_, pe_not p, fun m δ σ H Q R n g' q => h m δ σ H _ _ n g' fun m v d H1 n1 s1 dv g1 => ?_⟩
  cases d <;> first | exact g1.elim | skip
  rename_i i
  exact ⟨i, dn_bl.mp dv, q _ _ _ H1 n1 s1 (dn_bl.mpr rfl) g1⟩
/-! ### equality -/
mutual
def D.py : D → PyData
  | .non => .none
  | .bl b => .bool b
  | .int i => .int i
  | .str x => .str x
  | .tup ds => .tuple (D.pyL ds)
  | .lst ds => .list (D.pyL ds)
  | _ => .dict []
def D.pyL : List D → List PyData
  | [] => []
  | d :: ds => d.py :: D.pyL ds
end
mutual
theorem dp_of (hK : X.K = Z.K) {P : Addr → Prop} {H : Hp} : ∀ (d : D) (v : V), Dn Z P H d v → d.py.canLay0 = true → Dp X.K H v d.py
  | .non, v, h, c => by rw [dn_non.mp h]; exact .non
  | .bl b, v, h, c => by rw [dn_bl.mp h]; exact .bl b
  | .int i, v, h, c => by rw [dn_int.mp h]; exact .int i
  | .str x, v, h, c => by rw [dn_str.mp h]; exact .str x
  | .tup ds, v, h, c => by
    obtain ⟨_, a, vs, rfl, t, l⟩ := dn_tupT h
    unfold D.py at c ⊢
    unfold PyData.canLay0 at c
    exact .tup (by rw [hK]; exact t) (dpL_of hK ds vs l c)
  | .lst ds, v, h, c => by
    obtain ⟨_, a, vs, rfl, p, t, l⟩ := dn_lst.mp h
    unfold D.py at c ⊢
    unfold PyData.canLay0 at c
    exact .lst (.inl (.inl t)) (dpL_of hK ds vs l c)
  | .emp, v, h, c => by simp [D.py, PyData.canLay0] at c
  | .tpw _, v, h, c => by simp [D.py, PyData.canLay0] at c
  | .exc _, v, h, c => by simp [D.py, PyData.canLay0] at c
  | .set _, v, h, c => by simp [D.py, PyData.canLay0] at c
  | .rng, v, h, c => by simp [D.py, PyData.canLay0] at c
  | .scr _, v, h, c => by simp [D.py, PyData.canLay0] at c
  | .fn _, v, h, c => by simp [D.py, PyData.canLay0] at c
  | .ty _, v, h, c => by simp [D.py, PyData.canLay0] at c
  | .cl _, v, h, c => by simp [D.py, PyData.canLay0] at c
  | .dci _, v, h, c => by simp [D.py, PyData.canLay0] at c
  | .dii _, v, h, c => by simp [D.py, PyData.canLay0] at c
  | .dcs _, v, h, c => by simp [D.py, PyData.canLay0] at c
  | .dcx _ _, v, h, c => by simp [D.py, PyData.canLay0] at c
theorem dpL_of (hK : X.K = Z.K) {P : Addr → Prop} {H : Hp} : ∀ (ds : List D) (vs : List V), DnL Z P H ds vs → PyData.canLayAll0 (D.pyL ds) = true → DpAll X.K H vs (D.pyL ds)
  | [], vs, h, c => by rw [h.of_nil]; unfold D.pyL; exact .nil
  | d :: ds, vs, h, c => by
    obtain ⟨v, r, rfl, h1, h2⟩ := h.of_cons
    unfold D.pyL at c ⊢
    unfold PyData.canLayAll0 at c
    rw [Bool.and_eq_true] at c
    exact .cons (dp_of hK d v h1 c.1) (dpL_of hK ds r h2 c.2)
end
/-- data that == can be asked of -/
def D.shp (d : D) : Bool := SeqAt.shaped d.py
def D.eqv (d e : D) : Bool := PyData.eqv d.py e.py
@[simp] def dEq : D → D → (D → Prop) → Prop := fun d e Q => d.shp = true ∧ e.shp = true ∧ Q (.bl (d.eqv e))
@[simp] def dNe : D → D → (D → Prop) → Prop := fun d e Q => d.shp = true ∧ e.shp = true ∧ Q (.bl (!d.eqv e))
theorem c_eq (F : XF L Z X k ε) : BinD Z X (compareOp .Eq) dEq := ⟨_, op_eqD F.hu64, fun P H x y d e Q R hp hd he h q =>
  ⟨_, _, dp_of F.K d x hd (SeqAt.canLay_of_shaped h.1), dp_of F.K e y he (SeqAt.canLay_of_shaped h.2.1), h.1, h.2.1, q _ _ H (Same.refl _) (dn_bl.mpr rfl) h.2.2⟩⟩
theorem c_ne (F : XF L Z X k ε) : BinD Z X (compareOp .NotEq) dNe := ⟨_, op_neD F.hu64, fun P H x y d e Q R hp hd he h q =>
  ⟨_, _, dp_of F.K d x hd (SeqAt.canLay_of_shaped h.1), dp_of F.K e y he (SeqAt.canLay_of_shaped h.2.1), h.1, h.2.1, q _ _ H (Same.refl _) (dn_bl.mpr rfl) h.2.2⟩⟩
/-! ### is -/
@[simp] def D.isN : D → Bool
  | .non => true
  | _ => false
theorem isN_of {P : Addr → Prop} {H : Hp} {d : D} {v : V} (h : Dn Z P H d v) : decide (v = .non) = d.isN := by
  cases d
  case non => rw [dn_non.mp h]; rfl
  case bl b => rw [dn_bl.mp h]; rfl
  case int b => rw [dn_int.mp h]; rfl
  case str b => rw [dn_str.mp h]; rfl
  case ty b => rw [dn_ty.mp h]; rfl
  case cl b => rw [dn_cl.mp h]; rfl
  case tup ds => obtain ⟨_, a, vs, rfl, _⟩ := dn_tupT h; rfl
  case lst ds => obtain ⟨_, a, vs, rfl, _⟩ := dn_lst.mp h; rfl
  all_goals
    unfold Dn at h
    first
      | (obtain ⟨a, rfl, _⟩ := h; rfl)
      | (obtain ⟨_, a, rfl, _⟩ := h; rfl)
      | (obtain ⟨_, _, a, rfl, _⟩ := h; rfl)
      | (obtain ⟨_, _, _, _, rfl⟩ := h; rfl)
/-- is: None, or two truths -/
@[simp] def dIs : D → D → (D → Prop) → Prop
  | d, .non, Q => Q (.bl d.isN)
  | .bl a, .bl b, Q => Q (.bl (decide (a = b)))
  | _, _, _ => False
@[simp] def dIsNot : D → D → (D → Prop) → Prop
  | d, .non, Q => Q (.bl (!d.isN))
  | .bl a, .bl b, Q => Q (.bl (!decide (a = b)))
  | _, _, _ => False
theorem c_is : BinD Z X (compareOp .Is) dIs := by
  refine ⟨_, op_isN.or op_isBl, fun P H x y d e Q R hp hd he h q => ?_⟩
  unfold dIs at h
  split at h
  · refine .inl ⟨dn_non.mp he, ?_⟩
    rw [isN_of hd]
    exact q _ _ H (Same.refl _) (dn_bl.mpr rfl) h
  · exact .inr ⟨_, _, dn_bl.mp hd, dn_bl.mp he, q _ _ H (Same.refl _) (dn_bl.mpr rfl) h⟩
  · exact h.elim
theorem c_isNot : BinD Z X (compareOp .IsNot) dIsNot := by
  refine ⟨_, op_notN.or op_notBl, fun P H x y d e Q R hp hd he h q => ?_⟩
  unfold dIsNot at h
  split at h
  · refine .inl ⟨dn_non.mp he, ?_⟩
    rw [isN_of hd]
    exact q _ _ H (Same.refl _) (dn_bl.mpr rfl) h
  · exact .inr ⟨_, _, dn_bl.mp hd, dn_bl.mp he, q _ _ H (Same.refl _) (dn_bl.mpr rfl) h⟩
  · exact h.elim
/-! ### order of tuples of ints -/
@[simp] def D.ints : List D → Option (List Int)
  | [] => some []
  | .int i :: ds => (D.ints ds).map (i :: ·)
  | _ :: _ => none
theorem ints_map : ∀ {ds : List D} {ns : List Int}, D.ints ds = some ns → ds = ns.map D.int
  | [], ns, h => by unfold D.ints at h; cases h; rfl
  | d :: ds, ns, h => by
    cases d <;> unfold D.ints at h <;> first | cases h | skip
    rename_i i
    cases e : D.ints ds with
    | none => rw [e] at h; cases h
    | some ms =>
      rw [e] at h
      cases h
      rw [ints_map e]; rfl
theorem ints_of : ∀ (ns : List Int), D.ints (ns.map D.int) = some ns
  | [] => rfl
  | n :: ns => by
    show (D.ints (ns.map D.int)).map (n :: ·) = _
    rw [ints_of ns]; rfl
def gLtT : D → D → (D → Prop) → Prop
  | .tup a, .tup b, Q => ∃ ns ms, D.ints a = some ns ∧ D.ints b = some ms ∧ Q (.bl (HT.lexLt ns ms))
  | _, _, _ => False
theorem c_ltT (F : XF L Z X k ε) : BinD Z X (compareOp .Lt) gLtT := by
  refine ⟨_, op_ltT (by have := F.room.un; omega), fun P H x y d e Q R hp hd he h q => ?_⟩
  unfold gLtT at h
  split at h
  · obtain ⟨ns, ms, e1, e2, hq⟩ := h
    rw [ints_map e1] at hd
    rw [ints_map e2] at he
    obtain ⟨_, a, vs, rfl, ta, la⟩ := dn_tupT hd
    obtain ⟨_, b, ws, rfl, tb, lb⟩ := dn_tupT he
    rw [la.ints] at ta
    rw [lb.ints] at tb
    rw [← F.K] at ta tb
    exact ⟨a, b, ns, ms, rfl, rfl, ta, tb, q _ _ H (Same.refl _) (dn_bl.mpr rfl) hq⟩
  · exact h.elim
@[simp] def dLt : D → D → (D → Prop) → Prop
  | .int i, .int j, Q => Q (.bl (decide (i < j)))
  | .tup a, .tup b, Q => ∃ ns ms, D.ints a = some ns ∧ D.ints b = some ms ∧ Q (.bl (HT.lexLt ns ms))
  | _, _, _ => False
theorem c_lt (F : XF L Z X k ε) : BinD Z X (compareOp .Lt) dLt := (c_ltI.or (c_ltT F)).imp fun d e Q h => by
  unfold dLt at h
  split at h
  · exact .inl ⟨trivial, h⟩
  · exact .inr h
  · exact h.elim
/-! ### chains -/
@[simp] def rChain (g g' : D → D → (D → Prop) → Prop) (ta tb tc : TD) : TD := fun m δ Q => ta m δ fun m d => tb m δ fun m e => g d e fun x => match x with
  | .bl b => if b = true then tc m δ fun m f => g' e f (Q m) else Q m (.bl false)
  | _ => False
theorem de_chain (F : XF L Z X k ε) {op op' : CmpOp} {g g' : D → D → (D → Prop) → Prop} {a b c : Expr} {ta tb tc : TD} {pos : Pos} (o : BinD Z X (compareOp op) g) (o' : BinD Z X (compareOp op') g') (ha : DE Z X a ta) (hb : DE Z X b tb) (hc : DE Z X c tc)
    (hm : lastMarks [op, op'] [b, c] = false := by with_unfolding_all rfl) : DE Z X (.Compare a [op, op'] [b, c] pos) (rChain g g' ta tb tc) := by
  obtain ⟨r, or, hr⟩ := o
  obtain ⟨r', or', hr'⟩ := o'
  obtain ⟨Ta, pa, ha⟩ := ha.ex
  obtain ⟨Tb, pb, hb⟩ := hb.ex
  obtain ⟨Tc, pc, hc⟩ := hc.ex
  refine ⟨_, pe_chain or or' pa pb pc hm, fun m δ σ H Q R n h q => ?_⟩
  refine ha m δ σ H _ _ n h fun m x d H1 n1 s1 d1 h1 => hb m δ σ H1 _ _ n1 h1 fun m y e H2 n2 s2 d2 h2 => ?_
  have up : ∀ {c}, zone Z c → OO Z σ δ c := fun z => Or.inl (F.zok.zo _ z)
  refine hr (OO Z σ δ) H2 x y d e _ _ (fun a ha => n2.fresh F.zok ha) (Dn.stp (s2.mono fun c z => up z) d x d1) d2 h2 fun v w H3 s3 dv hq => ?_
  cases w <;> first | exact hq.elim | skip
  rename_i b
  have n3 := n2.same F.zok s3
  have st3 := (s1.trans s2).trans (.same s3)
  refine ⟨b, dn_bl.mp dv, ?_⟩
  cases b with
  | false => exact iteF (q _ _ (.bl false) H3 n3 st3 (dn_bl.mpr rfl) (by simpa using hq))
  | true =>
    refine iteT (hc m δ σ H3 _ _ n3 (by simpa using hq) fun m z f H4 n4 s4 d4 h4 => ?_)
    exact hr' (OO Z σ δ) H4 y z e f _ _ (fun a ha => n4.fresh F.zok ha) (Dn.stp (.mono (Stp.trans (.same s3) s4) fun c z => up z) e y d2) d4 h4 fun v w H5 s5 dw hq => q _ v w H5 (n4.same F.zok s5) ((st3.trans s4).trans (.same s5)) dw hq
theorem dt_chain (F : XF L Z X k ε) {op op' : CmpOp} {g g' : D → D → (D → Prop) → Prop} {a b c : Expr} {ta tb tc : TD} {pos : Pos} (o : BinD Z X (compareOp op) g) (o' : BinD Z X (compareOp op') g') (ha : DE Z X a ta) (hb : DE Z X b tb) (hc : DE Z X c tc)
    (hm : lastMarks [op, op'] [b, c] = false := by with_unfolding_all rfl) : DT Z X (.Compare a [op, op'] [b, c] pos) (rTest (rChain g g' ta tb tc)) := by
  obtain ⟨r, or, hr⟩ := o
  obtain ⟨r', or', hr'⟩ := o'
  obtain ⟨Ta, pa, ha⟩ := ha.ex
  obtain ⟨Tb, pb, hb⟩ := hb.ex
  obtain ⟨Tc, pc, hc⟩ := hc.ex
  refine ⟨_, pt_chain or or' pa pb pc hm, fun m δ σ H Q R n h q => ?_⟩
  have up : ∀ {c}, zone Z c → OO Z σ δ c := fun z => Or.inl (F.zok.zo _ z)
  refine ha m δ σ H _ _ n h fun m x d H1 n1 s1 d1 h1 => hb m δ σ H1 _ _ n1 h1 fun m y e H2 n2 s2 d2 h2 => ?_
  refine hr (OO Z σ δ) H2 x y d e _ _ (fun a ha => n2.fresh F.zok ha) (Dn.stp (s2.mono fun c z => up z) d x d1) d2 h2 fun v w H3 s3 dv hq => ?_
  cases w <;> first | exact hq.elim | skip
  rename_i b
  have n3 := n2.same F.zok s3
  have st3 := (s1.trans s2).trans (.same s3)
  refine ⟨b, dn_bl.mp dv, ?_⟩
  cases b with
  | false => exact iteF ⟨false, rfl, q _ false H3 n3 st3 (by simpa using hq)⟩
  | true =>
    refine iteT (hc m δ σ H3 _ _ n3 (by simpa using hq) fun m z f H4 n4 s4 d4 h4 => ?_)
    refine hr' (OO Z σ δ) H4 y z e f _ _ (fun a ha => n4.fresh F.zok ha) (Dn.stp (.mono (Stp.trans (.same s3) s4) fun c z => up z) e y d2) d4 h4 fun v w H5 s5 dw hq => ?_
    cases w <;> first | exact hq.elim | skip
    exact ⟨_, dn_bl.mp dw, q _ _ H5 (n4.same F.zok s5) ((st3.trans s4).trans (.same s5)) hq⟩
end
end DL

namespace DL
open PySem L2
section
variable {L : Ls} {Z : Zs} {X : Cx} {k : Nat} {ε : Nat → Str → Prop} {e : Expr} {es : List Expr} {te : TD} {t : TL} {pos : Pos}
/-! ### lists of arguments, displays -/
@[simp] def rNil : TL := fun m _ Q => Q m []
@[simp] def rCons (ta : TD) (tr : TL) : TL := fun m δ Q => ta m δ fun m d => tr m δ fun m ds => Q m (d :: ds)
theorem da_nil : DA Z X [] rNil := ⟨_, pa_nil, fun m δ σ H Q R n h r => r _ [] [] H n (.refl _ _) .nil h⟩
theorem da_cons (F : XF L Z X k ε) (ha : DE Z X e te) (hr : DA Z X es t) (hs : starEach (e :: es) X.env = (false, eval e X.env) :: starEach es X.env := by rfl) : DA Z X (e :: es) (rCons te t) := by
  obtain ⟨Ta, pa, ha⟩ := ha.ex
  obtain ⟨Tb, pb, hb⟩ := hr.ex
  refine ⟨_, pa_cons pa pb hs, fun m δ σ H Q R n h r => ha m δ σ H _ _ n h fun m v d H1 n1 s1 d1 h1 => hb m δ σ H1 _ _ n1 h1 fun m vs ds H2 n2 s2 d2 h2 => ?_⟩
  exact r _ _ (d :: ds) H2 n2 (s1.trans s2) (.cons (Dn.stp (s2.mono fun c z => Or.inl (F.zok.zo c z)) d v d1) d2) h2
@[simp] def rTup (t : TL) : TD := fun m δ Q => t m δ fun m ds => ds.length ≤ sizeLine ∧ Q m (.tup ds)
@[simp] def rLst (t : TL) : TD := fun m δ Q => t m δ fun m ds => ds.length ≤ sizeLine ∧ Q m (.lst ds)
theorem de_tup (F : XF L Z X k ε) {x1} (ha : DA Z X es t) : DE Z X (.Tuple es x1 pos) (rTup t) := by
  obtain ⟨T, p, h⟩ := ha.ex
  refine ⟨_, pe_tupN p, fun m δ σ H Q R n g q => h m δ σ H _ _ n g fun m vs ds H1 n1 s1 d1 g1 => ?_⟩
  exact ⟨by rw [d1.length]; exact g1.1, fun p o hp od => q _ _ _ _ (n1.same F.zok (same_upd hp)) (s1.trans (.same (same_upd hp))) (dn_newT d1 g1.1 hp od) g1.2⟩
theorem de_lst (F : XF L Z X k ε) (ha : DA Z X es t) : DE Z X (.List es pos) (rLst t) := by
  obtain ⟨T, p, h⟩ := ha.ex
  refine ⟨_, pe_lst p, fun m δ σ H Q R n g q => h m δ σ H _ _ n g fun m vs ds H1 n1 s1 d1 g1 => ?_⟩
  exact ⟨by rw [d1.length]; exact g1.1, fun p hp => q _ _ _ _ (n1.same F.zok (same_upd hp)) (s1.trans (.same (same_upd hp))) (dn_newL d1 g1.1 hp (n1.fresh F.zok hp)) g1.2⟩
/-- {} -/
theorem de_emp (F : XF L Z X k ε) : DE Z X (.Dict [] [] pos) (rC .emp) := ⟨_, pe_dnewK, fun m δ σ H Q R n g q p hp =>
  q _ _ .emp _ (n.same F.zok (same_upd hp)) (.same (same_upd hp)) (by unfold Dn; exact ⟨p, rfl, n.fresh F.zok hp, upd_same⟩) g⟩
/-! ### calls of built-ins -/
def CalD (Z : Zs) (X : Cx) (f : Value) (g : List D → (D → Prop) → Prop) : Prop :=
  ∃ r : List V → Hp → VK → Prop, CallR X f r ∧ ∀ (P : Addr → Prop) (H : Hp) (xs : List V) (ds : List D) (Q : D → Prop) (R : VK), (∀ a, H a = none → ¬ P a) → (∃ m, Gi Z m H) → DnL Z P H ds xs → g ds Q →
    (∀ v c H', Same H H' → Dn Z P H' c v → Q c → R v H') → r xs H R
theorem CalD.or {f : Value} {g g' : List D → (D → Prop) → Prop} (h : CalD Z X f g) (h' : CalD Z X f g') : CalD Z X f (fun ds Q => g ds Q ∨ g' ds Q) := by
  obtain ⟨r, o, p⟩ := h
  obtain ⟨r', o', p'⟩ := h'
  refine ⟨_, CallR.or o o', fun P H xs ds Q R hp gi hd hg k => ?_⟩
  rcases hg with hg | hg
  · exact .inl (p P H xs ds Q R hp gi hd hg k)
  · exact .inr (p' P H xs ds Q R hp gi hd hg k)
theorem CalD.imp {f : Value} {g g' : List D → (D → Prop) → Prop} (h : CalD Z X f g) (i : ∀ ds Q, g' ds Q → g ds Q) : CalD Z X f g' := by
  obtain ⟨r, o, p⟩ := h
  exact ⟨r, o, fun P H xs ds Q R hp gi hd hg k => p P H xs ds Q R hp gi hd (i _ _ hg) k⟩
@[simp] def rCall (g : List D → (D → Prop) → Prop) (t : TL) : TD := fun m δ Q => t m δ fun m ds => g ds (Q m)
theorem de_callB (F : XF L Z X k ε) {id : String} {g : List D → (D → Prop) → Prop} {x : Str} {p : Pos} (hc : CalD Z X (.builtin id) g) (hm : X.mg x = none) (hv : bootBuiltins x = some (.builtin id)) (ha : DA Z X (e :: es) t) (hg : Gl X x := by rfl) (hn : x ≠ "__name__" := by decide) (hdb : (x == ("__debug__" : Str)) = false := by decide)
    (he : starEach (e :: es) X.env = (false, eval e X.env) :: starEach es X.env := by rfl) (hpl : (backTo pos (starEach es X.env)).any (·.1) = false := by rfl) : DE Z X (.Call (.Name x p) (e :: es) [] pos) (rCall g t) := by
  obtain ⟨r, cr, hr⟩ := hc
  obtain ⟨T, pa, h⟩ := ha.ex
  refine ⟨_, pe_callB cr hg hm hv pa hn hdb he hpl, fun m δ σ H Q R n q k => h m δ σ H _ _ n q fun m vs ds H1 n1 s1 d1 g1 => ?_⟩
  exact hr (OO Z σ δ) H1 vs ds (Q _) _ (fun a ha => n1.fresh F.zok ha) ⟨_, n1.gi⟩ d1 g1 fun v c H' sm dv qc => k _ v c H' (n1.same F.zok sm) (s1.trans (.same sm)) dv qc
theorem de_callTy (F : XF L Z X k ε) {T : String} {g : List D → (D → Prop) → Prop} {x : Str} {p : Pos} (hc : CalD Z X (.type T) g) (hm : X.mg x = none) (hv : bootBuiltins x = some (.type T)) (ha : DA Z X (e :: es) t) (hg : Gl X x := by rfl) (hn : x ≠ "__name__" := by decide) (hdb : (x == ("__debug__" : Str)) = false := by decide)
    (he : starEach (e :: es) X.env = (false, eval e X.env) :: starEach es X.env := by rfl) (hpl : (backTo pos (starEach es X.env)).any (·.1) = false := by rfl) : DE Z X (.Call (.Name x p) (e :: es) [] pos) (rCall g t) := by
  obtain ⟨r, cr, hr⟩ := hc
  obtain ⟨T, pa, h⟩ := ha.ex
  refine ⟨_, pe_callTy cr hg hm hv pa hn hdb he hpl, fun m δ σ H Q R n q k => h m δ σ H _ _ n q fun m vs ds H1 n1 s1 d1 g1 => ?_⟩
  exact hr (OO Z σ δ) H1 vs ds (Q _) _ (fun a ha => n1.fresh F.zok ha) ⟨_, n1.gi⟩ d1 g1 fun v c H' sm dv qc => k _ v c H' (n1.same F.zok sm) (s1.trans (.same sm)) dv qc
/-- a built-in type as a value -/
theorem de_ty (F : XF L Z X k ε) {x : Str} {T : String} {p : Pos} (hm : X.mg x = none) (hv : bootBuiltins x = some (.type T)) (hg : Gl X x := by rfl) (hn : x ≠ "__name__" := by decide) (hdb : (x == ("__debug__" : Str)) = false := by decide) : DE Z X (.Name x p) (rC (.ty T)) :=
  ⟨_, pe_bltn (v := .ty T) hg hm hv rfl hn hdb, fun m δ σ H Q R n h r => r _ _ _ H n (.refl _ _) (dn_ty.mpr rfl) h⟩
/-- an own class as a value -/
theorem de_cl (F : XF L Z X k ε) {x c : Str} {p : Pos} (hm0 : X.mg x = some (.ref (L.cls c))) (hg : Gl X x := by rfl) (hdb : (x == ("__debug__" : Str)) = false := by decide) : DE Z X (.Name x p) (rC (.cl c)) :=
  have hm : X.mg x = some (.ref (Z.cls c)) := by rw [Zs.cls, F.hL]; exact hm0
  ⟨_, pe_glob (v := .ref (Z.cls c)) hg hm rfl hdb, fun m δ σ H Q R n h r => r _ _ _ H n (.refl _ _) (dn_cl.mpr rfl) h⟩
theorem DnL.one {P : Addr → Prop} {H : Hp} {d : D} {xs : List V} (h : DnL Z P H [d] xs) : ∃ v, xs = [v] ∧ Dn Z P H d v := by
  obtain ⟨v, r, rfl, h1, h2⟩ := h.of_cons
  rw [h2.of_nil]
  exact ⟨v, rfl, h1⟩
theorem DnL.two {P : Addr → Prop} {H : Hp} {d c : D} {xs : List V} (h : DnL Z P H [d, c] xs) : ∃ v w, xs = [v, w] ∧ Dn Z P H d v ∧ Dn Z P H c w := by
  obtain ⟨v, r, rfl, h1, h2⟩ := h.of_cons
  obtain ⟨w, rfl, h3⟩ := h2.one
  exact ⟨v, w, rfl, h1, h3⟩
/-- len -/
@[simp] def dLen : List D → (D → Prop) → Prop
  | [.tup ds], Q => Q (.int ds.length)
  | [.lst ds], Q => Q (.int ds.length)
  | [.scr ns], Q => Q (.int ns.length)
  | [.str x], Q => x.length ≤ sizeLine ∧ Q (.int x.length)
  | _, _ => False
theorem k_len (hK : X.K = Z.K) : CalD Z X (.builtin "len") dLen := by
  refine ⟨_, call_len, fun P H xs ds Q R hp gi hd hg k => ?_⟩
  unfold dLen at hg
  split at hg
  · obtain ⟨v, rfl, h⟩ := hd.one
    obtain ⟨_, a, vs, rfl, t, l⟩ := dn_tupT h
    refine ⟨_, vs.length, rfl, .inr ⟨vs, by rw [hK]; exact t, rfl⟩, ?_⟩
    rw [l.length]
    exact k _ _ H (Same.refl _) (dn_int.mpr rfl) hg
  · obtain ⟨v, rfl, h⟩ := hd.one
    obtain ⟨_, a, vs, rfl, p, t, l⟩ := dn_lst.mp h
    refine ⟨_, vs.length, rfl, .inl ⟨vs, .inl (.inl t), rfl⟩, ?_⟩
    rw [l.length]
    exact k _ _ H (Same.refl _) (dn_int.mpr rfl) hg
  · obtain ⟨v, rfl, h⟩ := hd.one
    rename_i ns
    unfold Dn at h
    obtain ⟨_, a, rfl, t⟩ := h
    have t' : SqL X.K H a (ns.map V.int) := by
      rw [hK]
      rcases t with ⟨_, t⟩ | ⟨o, t⟩ | t
      · exact .inl (.inl t)
      · exact .inl (.inr ⟨o, t⟩)
      · exact t H
    refine ⟨_, (ns.map V.int).length, rfl, .inl ⟨_, t', rfl⟩, ?_⟩
    rw [List.length_map]
    exact k _ _ H (Same.refl _) (dn_int.mpr rfl) hg
  · obtain ⟨v, rfl, h⟩ := hd.one
    rename_i y
    rw [dn_str.mp h]
    exact ⟨_, y.length, rfl, ⟨hg.1, rfl⟩, k _ _ H (Same.refl _) (dn_int.mpr rfl) hg.2⟩
  · exact hg.elim
/-- int(..) of an int or a truth -/
@[simp] def dInt : List D → (D → Prop) → Prop
  | [.int i], Q => Q (.int i)
  | [.bl b], Q => Q (.int (if b then 1 else 0))
  | _, _ => False
theorem k_int : CalD Z X (.type "int") dInt := by
  refine ⟨_, call_int1, fun P H xs ds Q R hp gi hd hg k => ?_⟩
  unfold dInt at hg
  split at hg
  · obtain ⟨v, rfl, h⟩ := hd.one
    rw [dn_int.mp h]
    exact .inl ⟨_, rfl, k _ _ H (Same.refl _) (dn_int.mpr rfl) hg⟩
  · obtain ⟨v, rfl, h⟩ := hd.one
    rw [dn_bl.mp h]
    exact .inr ⟨_, rfl, k _ _ H (Same.refl _) (dn_int.mpr rfl) hg⟩
  · exact hg.elim
@[simp] def dAbs : List D → (D → Prop) → Prop
  | [.int i], Q => Q (.int (if i < 0 then -i else i))
  | _, _ => False
theorem k_abs : CalD Z X (.builtin "abs") dAbs := by
  refine ⟨_, call_abs, fun P H xs ds Q R hp gi hd hg k => ?_⟩
  unfold dAbs at hg
  split at hg
  · obtain ⟨v, rfl, h⟩ := hd.one
    rw [dn_int.mp h]
    exact ⟨_, rfl, k _ _ H (Same.refl _) (dn_int.mpr rfl) hg⟩
  · exact hg.elim
@[simp] def dMin2 : List D → (D → Prop) → Prop
  | [.int i, .int j], Q => Q (.int (if j < i then j else i))
  | _, _ => False
@[simp] def dMax2 : List D → (D → Prop) → Prop
  | [.int i, .int j], Q => Q (.int (if j > i then j else i))
  | _, _ => False
theorem k_min2 (F : XF L Z X k ε) : CalD Z X (.builtin "min") dMin2 := by
  refine ⟨_, call_min2 F.calm, fun P H xs ds Q R hp gi hd hg k => ?_⟩
  unfold dMin2 at hg
  split at hg
  · obtain ⟨v, w, rfl, h, h'⟩ := hd.two
    rw [dn_int.mp h, dn_int.mp h']
    exact ⟨_, _, rfl, k _ _ H (Same.refl _) (dn_int.mpr rfl) hg⟩
  · exact hg.elim
theorem k_max2 (F : XF L Z X k ε) : CalD Z X (.builtin "max") dMax2 := by
  refine ⟨_, call_max2 F.calm, fun P H xs ds Q R hp gi hd hg k => ?_⟩
  unfold dMax2 at hg
  split at hg
  · obtain ⟨v, w, rfl, h, h'⟩ := hd.two
    rw [dn_int.mp h, dn_int.mp h']
    exact ⟨_, _, rfl, k _ _ H (Same.refl _) (dn_int.mpr rfl) hg⟩
  · exact hg.elim
/-- tuple(..), list(..) of a list or a tuple -/
@[simp] def dTuple : List D → (D → Prop) → Prop
  | [.lst ds], Q => Q (.tup ds)
  | [.tup ds], Q => Q (.tup ds)
  | _, _ => False
@[simp] def dList : List D → (D → Prop) → Prop
  | [.lst ds], Q => Q (.lst ds)
  | [.tup ds], Q => Q (.lst ds)
  | _, _ => False
theorem k_tuple (hK : X.K = Z.K) : CalD Z X (.type "tuple") dTuple := by
  refine ⟨_, cr_tupleN, fun P H xs ds Q R hp gi hd hg k => ?_⟩
  unfold dTuple at hg
  split at hg
  · obtain ⟨v, rfl, h⟩ := hd.one
    obtain ⟨z, a, vs, rfl, p, t, l⟩ := dn_lst.mp h
    exact ⟨a, vs, rfl, .inl ⟨.inl (.inl t), fun q o hq od => k _ _ _ (same_upd hq) (dn_newT l z hq od) hg⟩⟩
  · obtain ⟨v, rfl, h⟩ := hd.one
    obtain ⟨z, a, vs, rfl, t, l⟩ := dn_tupT h
    exact ⟨a, vs, rfl, .inr ⟨by rw [hK]; exact t, k _ _ H (Same.refl _) h hg⟩⟩
  · exact hg.elim
theorem k_list (hK : X.K = Z.K) : CalD Z X (.type "list") dList := by
  refine ⟨_, call_list_of, fun P H xs ds Q R hp gi hd hg k => ?_⟩
  unfold dList at hg
  split at hg
  · obtain ⟨v, rfl, h⟩ := hd.one
    obtain ⟨z, a, vs, rfl, p, t, l⟩ := dn_lst.mp h
    exact ⟨a, vs, rfl, .inl (.inl (.inl t)), fun q hq => k _ _ _ (same_upd hq) (dn_newL l z hq (hp q hq)) hg⟩
  · obtain ⟨v, rfl, h⟩ := hd.one
    obtain ⟨z, a, vs, rfl, t, l⟩ := dn_tupT h
    exact ⟨a, vs, rfl, .inr (by rw [hK]; exact t), fun q hq => k _ _ _ (same_upd hq) (dn_newL l z hq (hp q hq)) hg⟩
  · exact hg.elim
/-- all, any of a list of truths -/
@[simp] def D.bls : List D → Option (List Bool)
  | [] => some []
  | .bl i :: ds => (D.bls ds).map (i :: ·)
  | _ :: _ => none
theorem bls_map : ∀ {ds : List D} {ns : List Bool}, D.bls ds = some ns → ds = ns.map D.bl
  | [], ns, h => by unfold D.bls at h; cases h; rfl
  | d :: ds, ns, h => by
    cases d <;> unfold D.bls at h <;> first | cases h | skip
    cases e : D.bls ds with
    | none => rw [e] at h; cases h
    | some ms =>
      rw [e] at h
      cases h
      rw [bls_map e]; rfl
theorem bls_of : ∀ (ns : List Bool), D.bls (ns.map D.bl) = some ns
  | [] => rfl
  | n :: ns => by
    show (D.bls (ns.map D.bl)).map (n :: ·) = _
    rw [bls_of ns]; rfl
theorem DnL.bls {P : Addr → Prop} {H : Hp} : ∀ {ns : List Bool} {vs : List V}, DnL Z P H (ns.map D.bl) vs → vs = ns.map V.bl
  | [], vs, h => h.of_nil
  | n :: ns, vs, h => by
    obtain ⟨v, r, rfl, h1, h2⟩ := DnL.of_cons (by simpa using h)
    rw [dn_bl.mp h1, DnL.bls h2]
    rfl
@[simp] def dAll : List D → (D → Prop) → Prop
  | [.lst ds], Q => ∃ bs, D.bls ds = some bs ∧ Q (.bl (bs.all id))
  | _, _ => False
@[simp] def dAny : List D → (D → Prop) → Prop
  | [.lst ds], Q => ∃ bs, D.bls ds = some bs ∧ Q (.bl (bs.any id))
  | _, _ => False
theorem k_all (F : XF L Z X k ε) : CalD Z X (.builtin "all") dAll := by
  refine ⟨_, cr_all F.calm, fun P H xs ds Q R hp gi hd hg k => ?_⟩
  unfold dAll at hg
  split at hg
  · obtain ⟨bs, e, hg⟩ := hg
    obtain ⟨v, rfl, h⟩ := hd.one
    rw [bls_map e] at h
    obtain ⟨z, a, vs, rfl, p, t, l⟩ := dn_lst.mp h
    rw [l.bls] at t
    exact ⟨a, bs, rfl, .inl (.inl t), k _ _ H (Same.refl _) (dn_bl.mpr rfl) hg⟩
  · exact hg.elim
theorem k_any (F : XF L Z X k ε) : CalD Z X (.builtin "any") dAny := by
  refine ⟨_, cr_any F.calm, fun P H xs ds Q R hp gi hd hg k => ?_⟩
  unfold dAny at hg
  split at hg
  · obtain ⟨bs, e, hg⟩ := hg
    obtain ⟨v, rfl, h⟩ := hd.one
    rw [bls_map e] at h
    obtain ⟨z, a, vs, rfl, p, t, l⟩ := dn_lst.mp h
    rw [l.bls] at t
    exact ⟨a, bs, rfl, .inl (.inl t), k _ _ H (Same.refl _) (dn_bl.mpr rfl) hg⟩
  · exact hg.elim
/-- isinstance of a built-in class: its name -/
@[simp] def D.tyName : D → Option String
  | .non => some "NoneType"
  | .bl _ => some "bool"
  | .int _ => some "int"
  | .str _ => some "str"
  | .tup _ => some "tuple"
  | .lst _ => some "list"
  | .emp => some "dict"
  | _ => none
theorem ty_of {P : Addr → Prop} {H : Hp} {d : D} {v : V} {n : String} (h : Dn Z P H d v) (e : d.tyName = some n) : TyX Z.K H v (.type n) := by
  cases d <;> simp only [D.tyName] at e <;> cases e
  case non => rw [dn_non.mp h]; exact .base .non
  case bl b => rw [dn_bl.mp h]; exact .base (.bl _)
  case int b => rw [dn_int.mp h]; exact .base (.int _)
  case str b => rw [dn_str.mp h]; exact .base (.str _)
  case tup ds =>
    obtain ⟨_, a, vs, rfl, t, l⟩ := dn_tupT h
    rcases t with (t | ⟨o, t⟩) | ⟨o, its, n, t, c, _⟩
    · exact .base (.tup t)
    · exact .fTuple t
    · exact .kTuple t c
  case lst ds =>
    obtain ⟨_, a, vs, rfl, p, t, l⟩ := dn_lst.mp h
    exact .base (.lst t)
  case emp =>
    unfold Dn at h
    obtain ⟨a, rfl, p, t⟩ := h
    exact .base (.dK t)
/-- isinstance(x, T) -/
@[simp] def dIsi : List D → (D → Prop) → Prop
  | [d, .ty n], Q => ∃ m b, d.tyName = some m ∧ kitB m n = some b ∧ Q (.bl b)
  | _, _ => False
theorem k_isi (hK : X.K = Z.K) : CalD Z X (.builtin "isinstance") dIsi := by
  refine ⟨_, call_isi, fun P H xs ds Q R hp gi hd hg k => ?_⟩
  unfold dIsi at hg
  split at hg
  · obtain ⟨m, b, e, hb, hg⟩ := hg
    obtain ⟨v, w, rfl, h, h'⟩ := hd.two
    rw [dn_ty.mp h']
    exact ⟨v, _, _, _, b, rfl, .ty _, by rw [hK]; exact ty_of h e, kit_ty hb, k _ _ H (Same.refl _) (dn_bl.mpr rfl) hg⟩
  · exact hg.elim
/-! ### items, slices -/
@[simp] def dIx : D → D → (D → Prop) → Prop
  | .tup ds, .int i, Q => ∃ d, atI ds i = some d ∧ Q d
  | .lst ds, .int i, Q => ∃ d, atI ds i = some d ∧ Q d
  | _, _, _ => False
theorem DnL.atI {P : Addr → Prop} {H : Hp} {ds : List D} {vs : List V} {i : Int} {d : D} (l : DnL Z P H ds vs) (e : L2.atI ds i = some d) : ∃ v, L2.atI vs i = some v ∧ Dn Z P H d v := by
  unfold L2.atI at e ⊢
  rw [l.length]
  cases q : ixN ds.length i with
  | none => rw [q] at e; cases e
  | some j =>
    rw [q] at e
    exact l.get e
def rIxD (ta tb : TD) : TD := rOp dIx ta tb
theorem de_ix (F : XF L Z X k ε) {a b : Expr} {ta tb : TD} (ha : DE Z X a ta) (hb : DE Z X b tb) (hs : PlainIx b := by exact fun _ _ => rfl) : DE Z X (.Subscript a b pos) (rOp dIx ta tb) := by
  obtain ⟨Ta, pa, ha⟩ := ha.ex
  obtain ⟨Tb, pb, hb⟩ := hb.ex
  refine ⟨_, pe_ix (ix_list.or ix_tup) pa pb hs, fun m δ σ H Q R n h q => two (b := b) (g := dIx) (r := fun x y H Q => rIxL X.K x y H Q ∨ rIxT X.K x y H Q) F ha hb ?_ n h q⟩
  intro P H x y d e Q R hp hd he hg k
  unfold dIx at hg
  split at hg
  · obtain ⟨c, e, hg⟩ := hg
    obtain ⟨_, a, vs, rfl, t, l⟩ := dn_tupT hd
    obtain ⟨v, e', dv⟩ := l.atI e
    exact .inr ⟨a, vs, _, v, rfl, dn_int.mp he, by rw [F.K]; exact t, e', k _ _ H (Same.refl _) dv hg⟩
  · obtain ⟨c, e, hg⟩ := hg
    obtain ⟨_, a, vs, rfl, p, t, l⟩ := dn_lst.mp hd
    obtain ⟨v, e', dv⟩ := l.atI e
    exact .inl ⟨a, vs, _, v, rfl, dn_int.mp he, .inl (.inl t), e', k _ _ H (Same.refl _) dv hg⟩
  · exact hg.elim
/-- a slice's part -/
abbrev TOd := Nat → Env → (Nat → Option Int → Prop) → Prop
structure DO (Z : Zs) (X : Cx) (e : Option Expr) (t : TOd) : Prop where
  ex : ∃ T : TO, PO X e T ∧ ∀ (m : Nat) (δ : Env) (σ : L2.St) (H : Hp) (Q : Nat → Option Int → Prop) (R : Option Int → Hp → Prop), Nv Z m δ σ H → t m δ Q →
    (∀ m' b H', Nv Z m' δ σ H' → Stp (zone Z) H H' → Q m' b → R b H') → T σ H R
@[simp] def rNoPart : TOd := fun m _ Q => Q m none
@[simp] def rPart (t : TD) : TOd := fun m δ Q => t m δ fun m d => match d with | .int i => Q m (some i) | _ => False
theorem do_none : DO Z X none rNoPart := ⟨_, po_none, fun m δ σ H Q R n h r => r _ _ H n (.refl _ _) h⟩
theorem do_some (ha : DE Z X e te) : DO Z X (some e) (rPart te) := by
  obtain ⟨T, p, h⟩ := ha.ex
  refine ⟨_, po_some p, fun m δ σ H Q R n g q => h m δ σ H _ _ n g fun m v d H1 n1 s1 dv g1 => ?_⟩
  cases d <;> first | exact g1.elim | skip
  exact ⟨_, dn_int.mp dv, q _ _ H1 n1 s1 g1⟩
def cutD {α : Type} (xs : List α) (lo hi : Option Int) : List α := (xs.drop (HT.sIx xs.length 0 lo)).take (HT.sIx xs.length xs.length hi - HT.sIx xs.length 0 lo)
theorem cutD_length {α : Type} (xs : List α) (lo hi : Option Int) : (cutD xs lo hi).length ≤ xs.length := by
  unfold cutD
  rw [List.length_take, List.length_drop]
  omega
theorem DnL.cut {P : Addr → Prop} {H : Hp} {ds : List D} {vs : List V} (l : DnL Z P H ds vs) (lo hi : Option Int) : DnL Z P H (cutD ds lo hi) (cutV vs lo hi) := by
  unfold cutD cutV
  rw [l.length]
  exact (l.drop _).take _
@[simp] def dSl : D → Option Int → Option Int → (D → Prop) → Prop
  | .tup ds, lo, hi, Q => Q (.tup (cutD ds lo hi))
  | .lst ds, lo, hi, Q => Q (.lst (cutD ds lo hi))
  | _, _, _, _ => False
@[simp] def rSl (te : TD) (tl th : TOd) : TD := fun m δ Q => te m δ fun m d => tl m δ fun m l => th m δ fun m u => dSl d l u (Q m)
theorem cut_whole {ds : List D} {lo hi : Option Int} (h1 : HT.sIx ds.length 0 lo = 0) (h2 : HT.sIx ds.length ds.length hi = ds.length) : cutD ds lo hi = ds := by
  unfold cutD
  rw [h1, h2]
  simp
theorem de_slice (F : XF L Z X k ε) {lo hi : Option Expr} {tl th : TOd} {p2 : Pos} (ha : DE Z X e te) (hl : DO Z X lo tl) (hh : DO Z X hi th) : DE Z X (.Subscript e (.Slice lo hi none p2) pos) (rSl te tl th) := by
  obtain ⟨Ta, pa, ha⟩ := ha.ex
  obtain ⟨Tl, pl, hl⟩ := hl.ex
  obtain ⟨Th, ph, hh⟩ := hh.ex
  refine ⟨_, pe_slice (sl_tupN.or sl_list) pa pl ph, fun m δ σ H Q R n h q => ha m δ σ H _ _ n h fun m v d H1 n1 s1 d1 h1 => hl m δ σ H1 _ _ n1 h1 fun m l H2 n2 s2 h2 => hh m δ σ H2 _ _ n2 h2 fun m u H3 n3 s3 h3 => ?_⟩
  have d3 := Dn.stp ((s2.trans s3).mono fun c z => Or.inl (F.zok.zo c z) (b := ow σ δ c)) d v d1
  have st := (s1.trans s2).trans s3
  unfold dSl at h3
  split at h3
  · rename_i ds
    obtain ⟨z, a, vs, rfl, t, ll⟩ := dn_tupT d3
    refine .inl ⟨a, vs, rfl, by rw [F.K]; exact t, fun w => ?_, fun w p o hp od => ?_⟩
    · rw [ll.length] at w
      exact q _ _ (.tup ds) H3 n3 st d3 (by rw [cut_whole w.1 w.2] at h3; exact h3)
    · exact q _ _ _ _ (n3.same F.zok (same_upd hp)) (st.trans (.same (same_upd hp))) (dn_newT (ll.cut _ _) (Nat.le_trans (cutD_length _ _ _) z) hp od) h3
  · obtain ⟨z, a, vs, rfl, p, t, ll⟩ := dn_lst.mp d3
    exact .inr ⟨a, vs, rfl, .inl (.inl t), fun p hp => q _ _ _ _ (n3.same F.zok (same_upd hp)) (st.trans (.same (same_upd hp))) (dn_newL (ll.cut _ _) (Nat.le_trans (cutD_length _ _ _) z) hp (n3.fresh F.zok hp)) h3⟩
  · exact h3.elim
end
end DL

namespace DL
open PySem L2
/-! ### statements -/
structure EndsD where
  nx : Nat → Env → Prop
  rt : Nat → D → Prop
  bk : Nat → Env → Prop := fun _ _ => False
  ct : Nat → Env → Prop := fun _ _ => False
abbrev TSd := EndsD → Nat → Env → Prop
structure EOk (Z : Zs) (D : EndsD) (R : Ends) : Prop where
  nx : ∀ m δ σ H, Nv Z m δ σ H → D.nx m δ → R.nx σ H
  rt : ∀ m d v H, Stp (zone Z) Z.H0 H → Gi Z m H → Dn Z Z.O H d v → D.rt m d → R.rt v H
  bk : ∀ m δ σ H, Nv Z m δ σ H → D.bk m δ → R.bk σ H
  ct : ∀ m δ σ H, Nv Z m δ σ H → D.ct m δ → R.ct σ H
structure DS (Z : Zs) (X : Cx) (st : Stmt) (t : TSd) : Prop where
  ex : ∃ T : TS, PS X st T ∧ ∀ (m : Nat) (δ : Env) (σ : L2.St) (H : Hp) (D : EndsD) (R : Ends), Nv Z m δ σ H → t D m δ → EOk Z D R → T R σ H
structure DSs (Z : Zs) (X : Cx) (st : List Stmt) (t : TSd) : Prop where
  ex : ∃ T : TS, PSs X st T ∧ ∀ (m : Nat) (δ : Env) (σ : L2.St) (H : Hp) (D : EndsD) (R : Ends), Nv Z m δ σ H → t D m δ → EOk Z D R → T R σ H
section
variable {L : Ls} {Z : Zs} {X : Cx} {k : Nat} {ε : Nat → Str → Prop} {e : Expr} {te : TD} {st : Stmt} {rest : List Stmt} {t u : TSd} {pos : Pos}
@[simp] def rNext : TSd := fun D m δ => D.nx m δ
@[simp] def rSeq (t u : TSd) : TSd := fun D m δ => t { D with nx := u D } m δ
@[simp] def rNever : TSd := fun _ _ _ => False
theorem dss_nil : DSs Z X [] rNext := ⟨_, pss_nil, fun m δ σ H D R n h o => o.nx _ δ σ H n h⟩
theorem dss_cons (h1 : DS Z X st t) (h2 : DSs Z X rest u) : DSs Z X (st :: rest) (rSeq t u) := by
  obtain ⟨T, p, h⟩ := h1.ex
  obtain ⟨U, p', h'⟩ := h2.ex
  exact ⟨_, pss_cons p p', fun m δ σ H D R n g o => h m δ σ H _ _ n g ⟨fun m' δ' σ' H' n' g' => h' m' δ' σ' H' D R n' g' o, o.rt, o.bk, o.ct⟩⟩
theorem dss_one (h1 : DS Z X st t) : DSs Z X [st] t := by
  obtain ⟨T, p, h⟩ := h1.ex
  exact ⟨T, pss_one p, h⟩
theorem dss_never : DSs Z X rest rNever := ⟨_, pss_never, fun _ _ _ _ _ _ _ h _ => h.elim⟩
theorem ds_never : DS Z X st rNever := ⟨_, ps_never, fun _ _ _ _ _ _ _ h _ => h.elim⟩
theorem ds_pass : DS Z X (.Pass pos) rNext := ⟨_, ps_pass, fun m δ σ H D R n h o => o.nx _ δ σ H n h⟩
@[simp] def rBreak : TSd := fun D m δ => D.bk m δ
@[simp] def rCont : TSd := fun D m δ => D.ct m δ
theorem ds_break : DS Z X (.Break pos) rBreak := ⟨_, ps_break, fun m δ σ H D R n h o => o.bk _ δ σ H n h⟩
theorem ds_cont : DS Z X (.Continue pos) rCont := ⟨_, ps_continue, fun m δ σ H D R n h o => o.ct _ δ σ H n h⟩
@[simp] def rRet (te : TD) : TSd := fun D m δ => te m δ D.rt
theorem ds_ret (he : DE Z X e te) : DS Z X (.Return (some e) pos) (rRet te) := by
  obtain ⟨T, p, h⟩ := he.ex
  exact ⟨_, ps_ret p, fun m δ σ H D R n g o => h m δ σ H _ _ n g fun m v d H1 n1 s1 d1 q => o.rt _ d v H1 n1.stp n1.gi (Dn.mono (fun a z => Or.inl z) d v d1) q⟩
@[simp] def rDrop (te : TD) : TSd := fun D m δ => te m δ fun m _ => D.nx m δ
theorem ds_expr (he : DE Z X e te) (hs : swapsWith e none pos.line X.env = pure false := by rfl) : DS Z X (.Expr e pos) (rDrop te) := by
  obtain ⟨T, p, h⟩ := he.ex
  exact ⟨_, ps_expr p hs, fun m δ σ H D R n g o => h m δ σ H _ _ n g fun m v d H1 n1 s1 d1 q => o.nx _ δ σ H1 n1 q⟩
@[simp] def rIfS (c : TB) (t u : TSd) : TSd := fun D m δ => c m δ fun m b => if b = true then t D m δ else u D m δ
theorem ds_if {c : Expr} {a b : List Stmt} {tc : TB} (hc : DT Z X c tc) (ha : DSs Z X a t) (hb : DSs Z X b u) : DS Z X (.If c a b pos) (rIfS tc t u) := by
  obtain ⟨S, p0, h0⟩ := hc.ex
  obtain ⟨T, p, h⟩ := ha.ex
  obtain ⟨U, p', h'⟩ := hb.ex
  refine ⟨_, ps_if p0 p p', fun m δ σ H D R n g o => h0 m δ σ H _ _ n g fun m c H1 n1 s1 g1 => ?_⟩
  cases c with
  | true => exact iteT (h m δ σ H1 D R n1 (by simpa using g1) o)
  | false => exact iteF (h' m δ σ H1 D R n1 (by simpa using g1) o)

/-! ### stores -/
theorem ow_set_val {σ : L2.St} {δ : Env} {i : Nat} {d : D} {x : Option V} : ∀ a, ow (σ.set i x) (δ.set i (.val d)) a → ow σ δ a := by
  rintro a ⟨j, ds, h1, h2⟩
  by_cases hj : i = j
  · subst hj
    by_cases hl : i < δ.length
    · rw [List.getElem?_set_self hl] at h1; cases h1
    · rw [List.getElem?_eq_none (by rw [List.length_set]; omega)] at h1; cases h1
  · rw [List.getElem?_set_ne hj] at h1 h2
    exact ⟨j, ds, h1, h2⟩
theorem OO_set_val {σ : L2.St} {δ : Env} {i : Nat} {d : D} {x : Option V} : ∀ a, OO Z (σ.set i x) (δ.set i (.val d)) a → OO Z σ δ a := fun a h => h.imp id (ow_set_val a)
theorem Nv.setV {δ : Env} {σ : L2.St} {H : Hp} {i : Nat} {d : D} {v : V} (n : Nv Z m δ σ H) (hd : Dn Z (OO Z σ δ) H d v) : Nv Z m (δ.set i (.val d)) (σ.set i (some v)) H := by
  have sub := OO_set_val (Z := Z) (σ := σ) (δ := δ) (i := i) (d := d) (x := some v)
  have ne : ∀ {j : Nat} {ds : List D}, (δ.set i (.val d))[j]? = some (.own ds) → i ≠ j ∧ δ[j]? = some (.own ds) := by
    intro j ds h
    by_cases hj : i = j
    · subst hj
      by_cases hl : i < δ.length
      · rw [List.getElem?_set_self hl] at h; cases h
      · rw [List.getElem?_eq_none (by rw [List.length_set]; omega)] at h; cases h
    · rw [List.getElem?_set_ne hj] at h; exact ⟨hj, h⟩
  refine ⟨by rw [List.length_set, List.length_set]; exact n.len, fun j c h => ?_, fun j ds h => ?_, fun j l ds es a h1 h2 h3 h4 => ?_, n.gi, n.stp, n.trk, fun p hp => Dn.mono sub _ _ (n.gho p hp)⟩
  · by_cases hj : i = j
    · subst hj
      by_cases hl : i < δ.length
      · rw [List.getElem?_set_self hl] at h; cases h
        exact ⟨v, List.getElem?_set_self (by rw [n.len]; exact hl), Dn.mono sub d v hd⟩
      · rw [List.getElem?_eq_none (by rw [List.length_set]; omega)] at h; cases h
    · rw [List.getElem?_set_ne hj] at h
      obtain ⟨w, h1, h2⟩ := n.val j c h
      exact ⟨w, by rw [List.getElem?_set_ne hj]; exact h1, Dn.mono sub c w h2⟩
  · obtain ⟨hj, h⟩ := ne h
    obtain ⟨a, vs, h1, h2, h3, h4⟩ := n.own j ds h
    exact ⟨a, vs, by rw [List.getElem?_set_ne hj]; exact h1, h2, DnL.mono sub ds vs h3, h4⟩
  · obtain ⟨hj, h1⟩ := ne h1
    obtain ⟨hl, h2⟩ := ne h2
    rw [List.getElem?_set_ne hj] at h3
    rw [List.getElem?_set_ne hl] at h4
    exact n.sep j l ds es a h1 h2 h3 h4
/-- x = e -/
@[simp] def rSet (i : Nat) (te : TD) : TSd := fun D m δ => te m δ fun m d => D.nx m (δ.set i (.val d))
theorem ds_set (F : XF L Z X k ε) (i : Nat) {x : Str} {pos' : Pos} (he : DE Z X e te) (hi : X.N[i]? = some x := by rfl) (hx : Loc X.env.scope x := by first | exact Or.inl rfl | exact Or.inr rfl) (hs : swapsWith e (some (.Name x pos')) pos.line X.env = pure false := by rfl) (hf : X.fn x = true ∨ X.env.scope.names.lookup x = some .local := by first | exact .inl rfl | exact .inr rfl) :
    DS Z X (.Assign [.Name x pos'] e pos) (rSet i te) := by
  obtain ⟨T, p, h⟩ := he.ex
  exact ⟨_, ps_set F.nd hi hx p hs hf, fun m δ σ H D R n g o => h m δ σ H _ _ n g fun m v d H1 n1 s1 d1 q => o.nx _ _ _ H1 (n1.setV d1) q⟩
/-! ### targets: a name, or a tuple of names -/
inductive Tgt where | one (i : Nat) | many (is : List Nat)
@[simp] def Tgt.is : Tgt → List Nat
  | .one i => [i]
  | .many is => is
def hNs : List Nat → TGs
  | [] => gNil
  | i :: is => gCons (gName i) (hNs is)
def hT (K : PySem.W.Frag) : Tgt → TG
  | .one i => gName i
  | .many is => gTup K is.length (hNs is)
@[simp] def setsE : Env → List Nat → List D → Env
  | δ, i :: is, d :: ds => setsE (δ.set i (.val d)) is ds
  | δ, _, _ => δ
/-- what a target asks of the data, and what it makes of the slots -/
@[simp] def gD : Tgt → D → Env → (Env → Prop) → Prop
  | .one i, d, δ, Q => Q (δ.set i (.val d))
  | .many is, .tup ds, δ, Q => ds.length = is.length ∧ Q (setsE δ is ds)
  | .many is, .tpw ds, δ, Q => ds.length = is.length ∧ Q (setsE δ is ds)
  | .many _, _, _, _ => False
@[simp] def wipeE (δ : Env) : List Nat → Env
  | [] => δ
  | v :: vs => (wipeE δ vs).set v .no
theorem wipe_set {σ : L2.St} {i : Nat} {x : Option V} : ∀ {vs : List Nat}, i ∈ vs → wipe (σ.set i x) vs = wipe σ vs
  | v :: vs, h => by
    unfold wipe
    by_cases e : i = v
    · subst e
      by_cases h' : i ∈ vs
      · rw [wipe_set h']
      · have key : ∀ (us : List Nat), i ∉ us → wipe (σ.set i x) us = (wipe σ us).set i x := by
          intro us
          induction us with
          | nil => intro _; rfl
          | cons u us ih =>
            intro hn
            simp only [List.mem_cons, not_or] at hn
            unfold wipe
            rw [ih hn.2, List.set_comm _ _ hn.1]
        rw [key vs h', List.set_set]
    · rw [wipe_set ((List.mem_cons.mp h).resolve_left e)]
theorem wipeE_set {σ : Env} {i : Nat} {x : Slot} : ∀ {vs : List Nat}, i ∈ vs → wipeE (σ.set i x) vs = wipeE σ vs
  | v :: vs, h => by
    unfold wipeE
    by_cases e : i = v
    · subst e
      by_cases h' : i ∈ vs
      · rw [wipeE_set h']
      · have key : ∀ (us : List Nat), i ∉ us → wipeE (σ.set i x) us = (wipeE σ us).set i x := by
          intro us
          induction us with
          | nil => intro _; rfl
          | cons u us ih =>
            intro hn
            simp only [List.mem_cons, not_or] at hn
            unfold wipeE
            rw [ih hn.2, List.set_comm _ _ hn.1]
        rw [key vs h', List.set_set]
    · rw [wipeE_set ((List.mem_cons.mp h).resolve_left e)]
theorem wipeE_length (σ : Env) : ∀ vs : List Nat, (wipeE σ vs).length = σ.length
  | [] => rfl
  | v :: vs => by unfold wipeE; rw [List.length_set, wipeE_length σ vs]
theorem Nv.unset {δ : Env} {σ : L2.St} {H : Hp} {i : Nat} (n : Nv Z m δ σ H) : Nv Z m (δ.set i .no) (σ.set i none) H := by
  have ne : ∀ {j : Nat} {s : Slot}, s ≠ .no → (δ.set i .no)[j]? = some s → i ≠ j ∧ δ[j]? = some s := by
    intro j s hs h
    by_cases hj : i = j
    · subst hj
      by_cases hl : i < δ.length
      · rw [List.getElem?_set_self hl] at h; cases h; exact absurd rfl hs
      · rw [List.getElem?_eq_none (by rw [List.length_set]; omega)] at h; cases h
    · rw [List.getElem?_set_ne hj] at h; exact ⟨hj, h⟩
  have sub : ∀ a, OO Z (σ.set i none) (δ.set i .no) a → OO Z σ δ a := by
    rintro a (h | ⟨j, ds, h1, h2⟩)
    · exact .inl h
    · obtain ⟨hj, h1⟩ := ne (by intro z; cases z) h1
      rw [List.getElem?_set_ne hj] at h2
      exact .inr ⟨j, ds, h1, h2⟩
  refine ⟨by rw [List.length_set, List.length_set]; exact n.len, fun j c h => ?_, fun j ds h => ?_, fun j l ds es a h1 h2 h3 h4 => ?_, n.gi, n.stp, n.trk, fun p hp => Dn.mono sub _ _ (n.gho p hp)⟩
  · obtain ⟨hj, h⟩ := ne (by intro z; cases z) h
    obtain ⟨w, h1, h2⟩ := n.val j c h
    exact ⟨w, by rw [List.getElem?_set_ne hj]; exact h1, Dn.mono sub c w h2⟩
  · obtain ⟨hj, h⟩ := ne (by intro z; cases z) h
    obtain ⟨a, vs, h1, h2, h3, h4⟩ := n.own j ds h
    exact ⟨a, vs, by rw [List.getElem?_set_ne hj]; exact h1, h2, DnL.mono sub ds vs h3, h4⟩
  · obtain ⟨hj, h1⟩ := ne (by intro z; cases z) h1
    obtain ⟨hl, h2⟩ := ne (by intro z; cases z) h2
    rw [List.getElem?_set_ne hj] at h3
    rw [List.getElem?_set_ne hl] at h4
    exact n.sep j l ds es a h1 h2 h3 h4
theorem Nv.wipe {δ : Env} {σ : L2.St} {H : Hp} (n : Nv Z m δ σ H) : ∀ vs : List Nat, Nv Z m (wipeE δ vs) (L2.wipe σ vs) H
  | [] => n
  | v :: vs => (Nv.wipe n vs).unset
/-- what was written into the slots of us is wiped away by vs -/
structure Wp (us : List Nat) (δ δ' : Env) (σ σ' : L2.St) : Prop where
  s : ∀ vs, (∀ i ∈ us, i ∈ vs) → L2.wipe σ' vs = L2.wipe σ vs
  e : ∀ vs, (∀ i ∈ us, i ∈ vs) → wipeE δ' vs = wipeE δ vs
theorem sets_sem : ∀ (is : List Nat) (ds : List D) (vs : List V) {Z : Zs} {δ : Env} {σ : L2.St} {H : Hp} {R : L2.St → Hp → Prop}, Nv Z m δ σ H → DnL Z (OO Z σ δ) H ds vs → ds.length = is.length →
    (∀ σ', Nv Z m (setsE δ is ds) σ' H → Wp is δ (setsE δ is ds) σ σ' → R σ' H) → hNs is vs σ H R
  | [], ds, vs, Z, δ, σ, H, R, n, h, e, q => by
    have : ds = [] := List.eq_nil_of_length_eq_zero e
    subst this
    exact ⟨h.of_nil, q σ n ⟨fun _ _ => rfl, fun _ _ => rfl⟩⟩
  | i :: is, [], vs, Z, δ, σ, H, R, n, h, e, q => by simp at e
  | i :: is, d :: ds, vs, Z, δ, σ, H, R, n, h, e, q => by
    obtain ⟨v, r, rfl, h1, h2⟩ := h.of_cons
    refine ⟨v, r, rfl, ?_⟩
    refine sets_sem is ds r (n.setV h1) (DnL.mono OO_set_val ds r h2) (by simpa using e) fun σ' n' w => q σ' n' ⟨fun vs hv => ?_, fun vs hv => ?_⟩
    · rw [w.s vs fun j hj => hv j (List.mem_cons_of_mem _ hj)]
      exact wipe_set (hv i List.mem_cons_self)
    · exact (w.e vs fun j hj => hv j (List.mem_cons_of_mem _ hj)).trans (wipeE_set (hv i List.mem_cons_self))
theorem tgt_sem {τ : Tgt} {d : D} {v : V} {δ : Env} {σ : L2.St} {H : Hp} {Q : Env → Prop} {R : L2.St → Hp → Prop} (n : Nv Z m δ σ H) (hd : Dn Z (OO Z σ δ) H d v) (h : gD τ d δ Q)
    (q : ∀ δ' σ', Nv Z m δ' σ' H → Wp τ.is δ δ' σ σ' → Q δ' → R σ' H) : hT Z.K τ v σ H R := by
  cases τ with
  | one i => exact q _ _ (n.setV hd) ⟨fun vs hv => wipe_set (hv i List.mem_cons_self), fun vs hv => wipeE_set (hv i List.mem_cons_self)⟩ h
  | many is =>
    unfold gD at h
    split at h
    · rename_i he
      cases he
    · rename_i is' ds he
      cases he
      obtain ⟨e, h⟩ := h
      obtain ⟨_, a, vs, rfl, t, l⟩ := dn_tupT hd
      exact ⟨a, vs, rfl, t, by rw [l.length]; exact e, sets_sem _ ds vs n l e fun σ' n' w => q _ σ' n' w h⟩
    · rename_i is' ds he
      cases he
      obtain ⟨e, h⟩ := h
      obtain ⟨_, a, vs, rfl, t, l⟩ := dn_tpw.mp hd
      exact ⟨a, vs, rfl, t, by rw [l.length]; exact e, sets_sem _ ds vs n l e fun σ' n' w => q _ σ' n' w h⟩
    · exact h.elim
theorem pgs_z : PGs X [] (hNs []) := pgs_nil
theorem pgs_s (F : X.N.Nodup) (i : Nat) {x : Str} {is : List Nat} {es : List Expr} (h : PGs X es (hNs is)) (hi : X.N[i]? = some x := by rfl) (hx : Loc X.env.scope x := by first | exact Or.inl rfl | exact Or.inr rfl) (hf : X.fn x = true ∨ X.env.scope.names.lookup x = some .local := by first | exact .inl rfl | exact .inr rfl) : PGs X (.Name x pos :: es) (hNs (i :: is)) :=
  pgs_cons (pg_name F hi hx hf) h
theorem tg_one (F : X.N.Nodup) (i : Nat) {x : Str} (hi : X.N[i]? = some x := by rfl) (hx : Loc X.env.scope x := by first | exact Or.inl rfl | exact Or.inr rfl) (hf : X.fn x = true ∨ X.env.scope.names.lookup x = some .local := by first | exact .inl rfl | exact .inr rfl) : PG X (.Name x pos) (hT X.K (.one i)) := pg_name F hi hx hf
theorem tg_many (hc : X.calm = true) {es : List Expr} {k : Nat} {is : List Nat} (h : PGs X es (hNs is)) (hn : (assignEach es X.env).length = is.length := by rfl) (hst : (assignEach es X.env).findIdx? (·.1) = none := by rfl) : PG X (.Tuple es k pos) (hT X.K (.many is)) := pg_tup hc h hn hst
/-- a, b = e by a tuple that stands -/
@[simp] def rAsg (τ : Tgt) (te : TD) : TSd := fun D m δ => te m δ fun m d => gD τ d δ (D.nx m)
theorem ds_asg (F : XF L Z X k ε) {tg : Expr} (τ : Tgt) (he : DE Z X e te) (hg : PG X tg (hT X.K τ)) (hs : swapsWithSole [tg] e pos.line X.env = pure false := by rfl) (hw : swappedStores [tg] e X.env = pure none := by rfl)
    (h1 : (assignEach [tg] X.env).map (·.2) = [assign tg X.env] := by rfl) : DS Z X (.Assign [tg] e pos) (rAsg τ te) := by
  obtain ⟨T, p, h⟩ := he.ex
  refine ⟨_, ps_asg p hg hs hw h1, fun m δ σ H D R n g o => h m δ σ H _ _ n g fun m v d H1 n1 s1 d1 q => ?_⟩
  rw [F.K]
  exact tgt_sem n1 d1 q fun δ' σ' n' _ q' => o.nx _ δ' σ' H1 n' q'
end
end DL

namespace DL
open PySem L2
/-! ### more that must stand: an address of one's own, values -/
def Zs.plus (Z : Zs) (p : Addr) : Zs := { Z with O := fun a => Z.O a ∨ a = p }
def Zs.gh (Z : Zs) (G : List (D × V)) : Zs := { Z with G := G ++ Z.G }
/-- Z' says all that Z says -/
structure Ext (Z Z' : Zs) : Prop where
  L : Z'.L = Z.L
  st : Z'.st = Z.st
  H0 : Z'.H0 = Z.H0
  O : ∀ a, Z.O a → Z'.O a
  G : ∀ p ∈ Z.G, p ∈ Z'.G
  N : ∀ a, Z'.O a → Z.O a ∨ Fr0 Z.H0 a
theorem Ext.refl (Z : Zs) : Ext Z Z := ⟨rfl, rfl, rfl, fun _ h => h, fun _ h => h, fun _ h => .inl h⟩
theorem Ext.trans {Z Z1 Z2 : Zs} (a : Ext Z Z1) (b : Ext Z1 Z2) : Ext Z Z2 := ⟨b.L.trans a.L, b.st.trans a.st, b.H0.trans a.H0, fun c h => b.O c (a.O c h), fun p h => b.G p (a.G p h), fun c h => (b.N c h).elim (a.N c) fun h => .inr (by rw [← a.H0]; exact h)⟩
theorem Ext.plus (Z : Zs) (p : Addr) (h0 : Fr0 Z.H0 p) : Ext Z (Z.plus p) := ⟨rfl, rfl, rfl, fun _ h => .inl h, fun _ h => h, fun a h => h.imp id fun e => by rw [e]; exact h0⟩
theorem Ext.gh (Z : Zs) (G : List (D × V)) : Ext Z (Z.gh G) := ⟨rfl, rfl, rfl, fun _ h => h, fun _ h => List.mem_append_right _ h, fun _ h => .inl h⟩
section
variable {L : Ls} {Z Z' : Zs} {X : Cx} {k : Nat} {ε : Nat → Str → Prop} {e : Expr} {te : TD} {st : Stmt} {rest : List Stmt} {t u : TSd} {pos : Pos} {δ : Env} {σ : L2.St} {H H' : Hp}
theorem Ext.zone (x : Ext Z Z') : DL.zone Z' = DL.zone Z := by
  funext a
  unfold DL.zone
  rw [x.st]
theorem Ext.gi (x : Ext Z Z') (g : Gi Z' m H) : Gi Z m H := ⟨by have := g.tabs; rw [Zs.T, x.L] at this; exact this, fun s b c e => g.rng s b c (x.st.trans e)⟩
theorem Ext.gi' (x : Ext Z Z') (g : Gi Z m H) : Gi Z' m H := ⟨by have := g.tabs; rw [Zs.T, x.L]; exact this, fun s b c e => g.rng s b c (x.st.symm.trans e)⟩
theorem Ext.OO (x : Ext Z Z') : ∀ a, DL.OO Z σ δ a → DL.OO Z' σ δ a := fun a h => h.imp (x.O a) id
/-- forget -/
theorem Ext.nv (x : Ext Z Z') (n : Nv Z' m δ σ H) : Nv Z m δ σ H :=
  ⟨n.len, fun i d h => let ⟨v, h1, h2⟩ := n.val i d h; ⟨v, h1, Dn.zs x.L.symm x.st.symm d v (Dn.mono x.OO d v h2)⟩,
   fun i ds h => let ⟨a, vs, h1, h2, h3, h4, h5, h6⟩ := n.own i ds h; ⟨a, vs, h1, h2, DnL.zs x.L.symm x.st.symm ds vs (DnL.mono x.OO ds vs h3), fun z => h4 (x.O _ z), by rw [← x.H0]; exact h5, h6⟩,
   n.sep, x.gi n.gi, by have := n.stp; rw [x.zone, x.H0] at this; exact this, fun a h => n.trk a (x.O a h), fun p hp => Dn.zs x.L.symm x.st.symm _ _ (Dn.mono x.OO _ _ (n.gho p (x.G p hp)))⟩
theorem XF.ext (F : XF L Z X k ε) (x : Ext Z Z') : XF L Z' X k ε :=
  ⟨x.L.trans F.hL, ⟨fun a h => x.O a (F.zok.zo a (by rw [x.zone] at h; exact h)), by rw [x.H0]; exact F.zok.gi.imp fun _ g => x.gi' g, fun s g c e h => by
      rw [x.st] at e
      rcases x.N c h with h | h
      · exact F.zok.cO s g c e h
      · obtain ⟨gs, cs, l, t, _, _, h3, _⟩ := F.zok.rex e
        obtain ⟨_, z⟩ := h _ h3; cases z⟩, by rw [Zs.K, x.L]; exact F.K, F.nd, F.calm, F.room, F.pass, by
    have := F.tk
    have e : (fun (cls : Value) (d : Option Addr) (_ : L2.St) (H : Hp) => ∃ m c, cls = .ref (Z'.cls c) ∧ d = none ∧ ε m c ∧ Stp (DL.zone Z') Z'.H0 H ∧ Gi Z' m H) = (fun cls d _ H => ∃ m c, cls = .ref (Z.cls c) ∧ d = none ∧ ε m c ∧ Stp (DL.zone Z) Z.H0 H ∧ Gi Z m H) := by
      funext cls d s H
      rw [x.zone, x.H0, Zs.cls, x.L]
      exact propext ⟨fun ⟨m, c, a1, a2, a3, a4, a5⟩ => ⟨m, c, a1, a2, a3, a4, x.gi a5⟩, fun ⟨m, c, a1, a2, a3, a4, a5⟩ => ⟨m, c, a1, a2, a3, a4, x.gi' a5⟩⟩
    rw [e]; exact this, by rw [Zs.w, x.L]; exact F.W⟩
/-- values that stand are laid down -/
theorem Nv.gh {G : List (D × V)} (n : Nv Z m δ σ H) (h : ∀ p ∈ G, Dn Z (OO Z σ δ) H p.1 p.2) : Nv (Z.gh G) m δ σ H :=
  ⟨n.len, fun i d h => let ⟨v, h1, h2⟩ := n.val i d h; ⟨v, h1, Dn.zs (Z := Z) (Z' := Z.gh G) (P := OO Z σ δ) rfl rfl d v h2⟩,
   fun i ds h => let ⟨a, vs, h1, h2, h3, h4, h5, h6⟩ := n.own i ds h; ⟨a, vs, h1, h2, DnL.zs (Z := Z) (Z' := Z.gh G) (P := OO Z σ δ) rfl rfl ds vs h3, h4, h5, h6⟩,
   n.sep, (Ext.gh Z G).gi' n.gi, n.stp, n.trk, fun p hp => by
     rcases List.mem_append.mp hp with hp | hp
     · exact Dn.zs (Z := Z) (Z' := Z.gh G) (P := OO Z σ δ) rfl rfl _ _ (h p hp)
     · exact Dn.zs (Z := Z) (Z' := Z.gh G) (P := OO Z σ δ) rfl rfl _ _ (n.gho p hp)⟩
theorem OO_plus {p : Addr} : ∀ a, OO (Z.plus p) σ δ a ↔ OO Z σ δ a ∨ a = p := fun a =>
  ⟨fun h => h.elim (fun h => h.elim (fun h => .inl (.inl h)) .inr) fun h => .inl (.inr h), fun h => h.elim (fun h => h.elim (fun h => .inl (.inl h)) .inr) fun h => .inl (.inr h)⟩
theorem Dn.plus {p : Addr} (n : H p = none) {d : D} {v : V} (h : Dn Z (OO Z σ δ) H d v) : Dn (Z.plus p) (OO (Z.plus p) σ δ) H d v :=
  Dn.zs (Z := Z) (Z' := Z.plus p) rfl rfl d v (Dn.mono (fun a => (OO_plus a).mp) d v (Dn.fresh n d v h))
theorem DnL.plus {p : Addr} (n : H p = none) {ds : List D} {vs : List V} (h : DnL Z (OO Z σ δ) H ds vs) : DnL (Z.plus p) (OO (Z.plus p) σ δ) H ds vs :=
  DnL.zs (Z := Z) (Z' := Z.plus p) rfl rfl ds vs (DnL.mono (fun a => (OO_plus a).mp) ds vs (DnL.fresh n ds vs h))
theorem Nv.h0 (n : Nv Z m δ σ H) {p : Addr} (hp : H p = none) : Fr0 Z.H0 p := by
  intro o q
  by_cases t : Nt o
  · obtain ⟨o', e, _⟩ := n.stp.there p o q t
    rw [hp] at e; cases e
  · exact Classical.byContradiction fun z => t fun ps e => z ⟨ps, e⟩
/-- a new object is laid at p, which no data knows -/
theorem Nv.plus {p : Addr} {o : HO} (n : Nv Z m δ σ H) (z : Zok Z) (hp : H p = none) (nt : Nt o := by intro _ z; cases z) : Nv (Z.plus p) m δ σ (upd H p o) := by
  have s : Stp (OO (Z.plus p) σ δ) H (upd H p o) := .same (same_upd hp)
  refine ⟨n.len, fun i d h => ?_, fun i ds h => ?_, n.sep, (Ext.plus Z p (n.h0 hp)).gi' (n.gi.same (same_upd hp)), n.stp.trans (.same (same_upd hp)), fun a h => ?_, fun q hq => Dn.stp s _ _ (Dn.plus hp (n.gho q hq))⟩
  · obtain ⟨v, h1, h2⟩ := n.val i d h
    exact ⟨v, h1, Dn.stp s d v (Dn.plus hp h2)⟩
  · obtain ⟨a, vs, h1, h2, h3, h4, h5, h6⟩ := n.own i ds h
    exact ⟨a, vs, h1, same_upd hp _ _ h2, DnL.stp s ds vs (DnL.plus hp h3), fun r => r.elim h4 (ne_of_none h2 hp), h5, h6⟩
  · rcases h with h | rfl
    · obtain ⟨o', e, nt'⟩ := n.trk a h
      exact ⟨o', same_upd hp _ _ e, nt'⟩
    · exact ⟨o, upd_same, nt⟩
theorem Nv.notC (n : Nv Z m δ σ H) (z : Zok Z) {p : Addr} (hp : Fr0 Z.H0 p) : ∀ s g c, Z.st = some (s, g, c) → p ≠ c := fun s g c e q => by
  obtain ⟨gs, cs, l, t, h1, h2, h3, _⟩ := z.rex e
  rw [← q] at h3; obtain ⟨_, z⟩ := hp _ h3; cases z
/-- the object at p, which no data knows, changes -/
theorem Nv.poke {p : Addr} {xs ys : List V} (n : Nv Z m δ σ H) (z : Zok Z) (hO : Z.O p) (hz : ¬ zone Z p) (h0 : Fr0 Z.H0 p) (h : H p = some (.lst xs)) : Nv Z m δ σ (upd H p (.lst ys)) := by
  have s : Stp (OO Z σ δ) H (upd H p (.lst ys)) := .own (Or.inl hO) h
  refine ⟨n.len, fun i d q => ?_, fun i ds q => ?_, n.sep, n.gi.upd h hz (n.notC z h0), ?_, fun a q => ?_, fun q hq => Dn.stp s _ _ (n.gho q hq)⟩
  · obtain ⟨v, h1, h2⟩ := n.val i d q
    exact ⟨v, h1, Dn.stp s d v h2⟩
  · obtain ⟨a, vs, h1, h2, h3, h4, h5, h6⟩ := n.own i ds q
    exact ⟨a, vs, h1, by rw [upd_ne (fun e => h4 (by rw [e]; exact hO))]; exact h2, DnL.stp s ds vs h3, h4, h5, h6⟩
  · have m := n.stp
    have ne : ∀ a o, Z.H0 a = some o → Nt o → a ≠ p := fun a o e nt q => by rw [q] at e; obtain ⟨ps, z⟩ := h0 _ e; exact nt ps z
    exact Stp.off m ne
  · obtain ⟨o', e, nt⟩ := n.trk a q
    by_cases ha : a = p
    · exact ⟨.lst ys, by rw [ha]; exact upd_same, fun _ z => nomatch z⟩
    · exact ⟨o', by rw [upd_ne ha]; exact e, nt⟩
/-- a list at p that no data knows goes into a slot -/
theorem Nv.setO {W : Zs} {p : Addr} {i : Nat} {ds : List D} {vs : List V} (n : Nv Z m δ σ H) (x : Ext W Z) (hp : Z.O p) (hW : ∀ a, Z.O a → W.O a ∨ a = p) (nW : ¬ W.O p) (no : ¬ ow σ δ p) (h0 : Fr0 W.H0 p) (h : H p = some (.lst vs)) (hl : DnL Z (OO Z σ δ) H ds vs)
    (z : ds.length ≤ sizeLine) : Nv W m (δ.set i (.own ds)) (σ.set i (some (.ref p))) H := by
  have ne : ∀ {j : Nat} {s : Slot}, i ≠ j → (δ.set i (.own ds))[j]? = some s → δ[j]? = some s := fun hj h => by rw [List.getElem?_set_ne hj] at h; exact h
  have sub : ∀ a, OO W (σ.set i (some (.ref p))) (δ.set i (.own ds)) a → OO Z σ δ a := by
    rintro a (h | ⟨j, es, h1, h2⟩)
    · exact .inl (x.O a h)
    · by_cases hj : i = j
      · subst hj
        by_cases hl : i < δ.length
        · rw [List.getElem?_set_self (by rw [n.len]; exact hl)] at h2; cases h2
          exact .inl hp
        · rw [List.getElem?_eq_none (by rw [List.length_set]; omega)] at h1; cases h1
      · rw [List.getElem?_set_ne hj] at h1 h2
        exact .inr ⟨j, es, h1, h2⟩
  have dn : ∀ d v, Dn Z (OO Z σ δ) H d v → Dn W (OO W (σ.set i (some (.ref p))) (δ.set i (.own ds))) H d v := fun d v h => Dn.zs x.L.symm x.st.symm d v (Dn.mono sub d v h)
  have dnl : ∀ d v, DnL Z (OO Z σ δ) H d v → DnL W (OO W (σ.set i (some (.ref p))) (δ.set i (.own ds))) H d v := fun d v h => DnL.zs x.L.symm x.st.symm d v (DnL.mono sub d v h)
  refine ⟨by rw [List.length_set, List.length_set]; exact n.len, fun j c q => ?_, fun j es q => ?_, fun j l es fs a h1 h2 h3 h4 => ?_, x.gi n.gi, by have := n.stp; rw [x.zone, x.H0] at this; exact this, fun a q => n.trk a (x.O a q), fun q hq => dn _ _ (n.gho q (x.G q hq))⟩
  · by_cases hj : i = j
    · subst hj
      by_cases hl : i < δ.length
      · rw [List.getElem?_set_self hl] at q; cases q
      · rw [List.getElem?_eq_none (by rw [List.length_set]; omega)] at q; cases q
    · obtain ⟨w, h1, h2⟩ := n.val j c (ne hj q)
      exact ⟨w, by rw [List.getElem?_set_ne hj]; exact h1, dn c w h2⟩
  · by_cases hj : i = j
    · subst hj
      by_cases hlt : i < δ.length
      · rw [List.getElem?_set_self hlt] at q; cases q
        exact ⟨p, vs, List.getElem?_set_self (by rw [n.len]; exact hlt), h, dnl _ _ hl, nW, h0, z⟩
      · rw [List.getElem?_eq_none (by rw [List.length_set]; omega)] at q; cases q
    · obtain ⟨a, ws, h1, h2, h3, h4, h5, h6⟩ := n.own j es (ne hj q)
      exact ⟨a, ws, by rw [List.getElem?_set_ne hj]; exact h1, h2, dnl _ _ h3, fun w => h4 (x.O a w), by rw [← x.H0]; exact h5, h6⟩
  · have npj : ∀ {j : Nat} {es : List D} {a : Addr}, δ[j]? = some (.own es) → σ[j]? = some (some (.ref a)) → a ≠ p := fun {j es a} q1 q2 e => no ⟨j, es, q1, by rw [← e]; exact q2⟩
    by_cases hj : i = j
    · by_cases hl : i = l
      · exact hj.symm.trans hl
      · subst hj
        rw [List.getElem?_set_ne hl] at h2 h4
        by_cases hlt : i < δ.length
        · rw [List.getElem?_set_self (by rw [n.len]; exact hlt)] at h3; cases h3
          exact absurd rfl (npj h2 h4)
        · rw [List.getElem?_eq_none (by rw [List.length_set]; omega)] at h1; cases h1
    · by_cases hl : i = l
      · subst hl
        rw [List.getElem?_set_ne hj] at h1 h3
        by_cases hlt : i < δ.length
        · rw [List.getElem?_set_self (by rw [n.len]; exact hlt)] at h4; cases h4
          exact absurd rfl (npj h1 h3)
        · rw [List.getElem?_eq_none (by rw [List.length_set]; omega)] at h2; cases h2
      · rw [List.getElem?_set_ne hj] at h1 h3
        rw [List.getElem?_set_ne hl] at h2 h4
        exact n.sep j l es fs a h1 h2 h3 h4
/-- the list that is in slot i changes -/
theorem Nv.pokeO {i : Nat} {ds es : List D} {a : Addr} {vs ws : List V} (n : Nv Z m δ σ H) (z : Zok Z) (hi : δ[i]? = some (.own ds)) (hs : σ[i]? = some (some (.ref a))) (h : H a = some (.lst vs)) (hl : DnL Z (OO Z σ δ) H es ws) (hz : es.length ≤ sizeLine) :
    Nv Z m (δ.set i (.own es)) σ (upd H a (.lst ws)) := by
  have hlt : i < δ.length := by
    rcases Nat.lt_or_ge i δ.length with q | q
    · exact q
    · rw [List.getElem?_eq_none q] at hi; cases hi
  obtain ⟨a', vs', h1, h2, h3, h4, h5, h6⟩ := n.own i ds hi
  rw [hs] at h1; cases h1
  have sub : ∀ b, OO Z σ (δ.set i (.own es)) b → OO Z σ δ b := by
    rintro b (q | ⟨j, fs, q1, q2⟩)
    · exact .inl q
    · by_cases hj : i = j
      · subst hj
        exact .inr ⟨i, ds, hi, q2⟩
      · rw [List.getElem?_set_ne hj] at q1
        exact .inr ⟨j, fs, q1, q2⟩
  have s : Stp (OO Z σ δ) H (upd H a (.lst ws)) := .own (Or.inr ⟨i, ds, hi, hs⟩) h
  have nz : ¬ zone Z a := fun q => h4 (z.zo a q)
  have m := n.stp
  have ne0 : ∀ b o, Z.H0 b = some o → Nt o → b ≠ a := fun b o e nt q => by rw [q] at e; obtain ⟨ps, z⟩ := h5 _ e; exact nt ps z
  refine ⟨by rw [List.length_set]; exact n.len, fun j c q => ?_, fun j fs q => ?_, fun j l fs gs b q1 q2 q3 q4 => ?_, n.gi.upd h nz (n.notC z h5), ?_, fun b q => ?_, fun q hq => Dn.mono sub _ _ (Dn.stp s _ _ (n.gho q hq))⟩
  · by_cases hj : i = j
    · subst hj; rw [List.getElem?_set_self hlt] at q; cases q
    · rw [List.getElem?_set_ne hj] at q
      obtain ⟨w, q1, q2⟩ := n.val j c q
      exact ⟨w, q1, Dn.mono sub c w (Dn.stp s c w q2)⟩
  · by_cases hj : i = j
    · subst hj; rw [List.getElem?_set_self hlt] at q; cases q
      exact ⟨a, ws, hs, upd_same, DnL.mono sub _ _ (DnL.stp s _ _ hl), h4, h5, hz⟩
    · rw [List.getElem?_set_ne hj] at q
      obtain ⟨b, us, q1, q2, q3, q4, q5, q6⟩ := n.own j fs q
      have nb : b ≠ a := fun e => hj (n.sep i j ds fs a hi q hs (by rw [← e]; exact q1))
      exact ⟨b, us, q1, by rw [upd_ne nb]; exact q2, DnL.mono sub _ _ (DnL.stp s _ _ q3), q4, q5, q6⟩
  · have up : ∀ {j : Nat} {fs : List D}, (δ.set i (.own es))[j]? = some (.own fs) → ∃ fs', δ[j]? = some (.own fs') := fun {j fs} q => by
      by_cases hj : i = j
      · subst hj; exact ⟨ds, hi⟩
      · rw [List.getElem?_set_ne hj] at q; exact ⟨fs, q⟩
    obtain ⟨f', q1⟩ := up q1
    obtain ⟨g', q2⟩ := up q2
    exact n.sep j l f' g' b q1 q2 q3 q4
  · exact Stp.off m ne0
  · obtain ⟨o', e, nt⟩ := n.trk b q
    by_cases hb : b = a
    · exact ⟨.lst ws, by rw [hb]; exact upd_same, fun _ z => nomatch z⟩
    · exact ⟨o', by rw [upd_ne hb]; exact e, nt⟩
/-- the list in slot i is no more changed: it is data like any -/
theorem Nv.freeze {i : Nat} {ds : List D} (n : Nv Z m δ σ H) (hi : δ[i]? = some (.own ds)) : Nv Z m (δ.set i (.val (.lst ds))) σ H := by
  have hlt : i < δ.length := by
    rcases Nat.lt_or_ge i δ.length with q | q
    · exact q
    · rw [List.getElem?_eq_none q] at hi; cases hi
  obtain ⟨a, vs, h1, h2, h3, h4, h5, h6⟩ := n.own i ds hi
  have nj : ∀ {j : Nat} {es : List D}, (δ.set i (.val (.lst ds)))[j]? = some (.own es) → i ≠ j ∧ δ[j]? = some (.own es) := fun {j es} q => by
    by_cases hj : i = j
    · subst hj; rw [List.getElem?_set_self hlt] at q; cases q
    · rw [List.getElem?_set_ne hj] at q; exact ⟨hj, q⟩
  have sub : ∀ b, OO Z σ (δ.set i (.val (.lst ds))) b → OO Z σ δ b := by
    rintro b (q | ⟨j, es, q1, q2⟩)
    · exact .inl q
    · exact .inr ⟨j, es, (nj q1).2, q2⟩
  have na : ¬ OO Z σ (δ.set i (.val (.lst ds))) a := by
    rintro (q | ⟨j, es, q1, q2⟩)
    · exact h4 q
    · exact (nj q1).1 (n.sep i j ds es a hi (nj q1).2 h1 q2)
  refine ⟨by rw [List.length_set]; exact n.len, fun j c q => ?_, fun j es q => ?_, fun j l es fs b q1 q2 q3 q4 => n.sep j l es fs b (nj q1).2 (nj q2).2 q3 q4, n.gi, n.stp, n.trk, fun q hq => Dn.mono sub _ _ (n.gho q hq)⟩
  · by_cases hj : i = j
    · subst hj; rw [List.getElem?_set_self hlt] at q; cases q
      exact ⟨.ref a, h1, dn_lst.mpr ⟨h6, a, vs, rfl, na, h2, DnL.mono sub _ _ h3⟩⟩
    · rw [List.getElem?_set_ne hj] at q
      obtain ⟨w, q1, q2⟩ := n.val j c q
      exact ⟨w, q1, Dn.mono sub c w q2⟩
  · obtain ⟨hj, q⟩ := nj q
    obtain ⟨b, us, q1, q2, q3, q4⟩ := n.own j es q
    exact ⟨b, us, q1, q2, DnL.mono sub _ _ q3, q4⟩
end
end DL

namespace DL
open PySem L2
section
variable {L : Ls} {Z Z' : Zs} {X : Cx} {k : Nat} {ε : Nat → Str → Prop} {e : Expr} {es : List Expr} {te : TD} {st : Stmt} {rest : List Stmt} {t u : TSd} {pos : Pos} {δ : Env} {σ : L2.St} {H H' : Hp}
/-! ### what runs, whatever term of rules shows it -/
theorem DE.run (h : DE Z X e te) {m : Nat} {Q : Nat → D → Prop} {R : VK} (n : Nv Z m δ σ H) (q : te m δ Q) (r : ∀ m' v d H', Nv Z m' δ σ H' → Stp (zone Z) H H' → Dn Z (OO Z σ δ) H' d v → Q m' d → R v H') {pins : List (Addr × Obj)} {s : Shared} (I : Inv X pins σ H s) :
    wpAny (model X.prog X.w) X.A (eval e X.env) (EP X pins σ R) X.xe s := by
  obtain ⟨T, p, h⟩ := h.ex
  exact p.run pins s σ H R I (h m δ σ H Q R n q r)
theorem DSs.run {body : List Stmt} (h : DSs Z X body t) {m : Nat} {B : EndsD} {R : Ends} (n : Nv Z m δ σ H) (q : t B m δ) (o : EOk Z B R) {pins : List (Addr × Obj)} {s : Shared} (I : Inv X pins σ H s) :
    wpAny (model X.prog X.w) X.A (execs body X.env) (SP X pins R) X.xe s := by
  obtain ⟨T, p, h⟩ := h.ex
  exact p.run pins s σ H R I (h m δ σ H B R n q o)
def cSs (X : Cx) (body : List Stmt) : TS := fun R σ H => ∀ (pins : List (Addr × Obj)) (s : Shared), Inv X pins σ H s → wpAny (model X.prog X.w) X.A (execs body X.env) (SP X pins R) X.xe s
theorem pss_c {body : List Stmt} : PSs X body (cSs X body) := ⟨fun pins s σ H D I h => h pins s I⟩
/-! ### new lists -/
structure DEl (Z : Zs) (X : Cx) (e : Expr) (t : TL) : Prop where
  ex : ∃ T : TE, PE X e T ∧ ∀ (m : Nat) (δ : Env) (σ : L2.St) (H : Hp) (Q : Nat → List D → Prop) (R : VK), Nv Z m δ σ H → t m δ Q →
    (∀ m' p vs ds H', Nv (Z.plus p) m' δ σ H' → Stp (zone Z) H H' → ¬ OO Z σ δ p → Fr0 Z.H0 p → H' p = some (.lst vs) → DnL (Z.plus p) (OO (Z.plus p) σ δ) H' ds vs → ds.length ≤ sizeLine → Q m' ds → R (.ref p) H') → T σ H R
@[simp] def rL (t : TL) : TD := fun m δ Q => t m δ fun m ds => Q m (.lst ds)
theorem DEl.de {t : TL} (h : DEl Z X e t) : DE Z X e (rL t) := by
  obtain ⟨T, p, h⟩ := h.ex
  refine ⟨T, p, fun m δ σ H Q R n q r => h m δ σ H _ _ n q fun m p vs ds H' n' s np h0 hp hl z hq => ?_⟩
  have x := Ext.plus Z p h0
  exact r _ _ (.lst ds) H' (x.nv n') s (dn_lst.mpr ⟨z, p, vs, rfl, np, hp, DnL.zs (Z := Z.plus p) (Z' := Z) rfl rfl ds vs (DnL.mono (fun a h => (OO_plus a).mpr (.inl h)) ds vs hl)⟩) hq
theorem el_of (F : XF L Z X k ε) {δ : Env} {σ : L2.St} {H0 H : Hp} {R : VK} {m : Nat} {Q : Nat → List D → Prop} {vs : List V} {ds : List D} (n : Nv Z m δ σ H) (s : Stp (zone Z) H0 H) (hl : DnL Z (OO Z σ δ) H ds vs) (hz : ds.length ≤ sizeLine) (q : Q m ds)
    (r : ∀ m' p vs ds H', Nv (Z.plus p) m' δ σ H' → Stp (zone Z) H0 H' → ¬ OO Z σ δ p → Fr0 Z.H0 p → H' p = some (.lst vs) → DnL (Z.plus p) (OO (Z.plus p) σ δ) H' ds vs → ds.length ≤ sizeLine → Q m' ds → R (.ref p) H') :
    ∀ p, H p = none → R (.ref p) (upd H p (.lst vs)) := fun p hp =>
  r _ p vs ds _ (n.plus F.zok hp) (s.trans (.same (same_upd hp))) (n.fresh F.zok hp) (n.h0 hp) upd_same (DnL.stp (.same (same_upd hp)) ds vs (DnL.plus hp hl)) hz q
@[simp] def rLs (t : TL) : TL := fun m δ Q => t m δ fun m ds => ds.length ≤ sizeLine ∧ Q m ds
theorem del_lst (F : XF L Z X k ε) {t : TL} (ha : DA Z X es t) : DEl Z X (.List es pos) (rLs t) := by
  obtain ⟨T, p, h⟩ := ha.ex
  refine ⟨_, pe_lst p, fun m δ σ H Q R n g q => h m δ σ H _ _ n g fun m vs ds H1 n1 s1 d1 g1 => ?_⟩
  exact ⟨by rw [d1.length]; exact g1.1, el_of F n1 s1 d1 g1.1 g1.2 q⟩
/-- list(e), e a list or a tuple -/
@[simp] def rListOf (te : TD) : TL := fun m δ Q => te m δ fun m d => match d with | .lst ds => Q m ds | .tup ds => Q m ds | _ => False
theorem del_list (F : XF L Z X k ε) {p : Pos} (he : DE Z X e te) (hm : X.mg "list" = none) (hg : Gl X "list" := by rfl) (hst : starEach [e] X.env = (false, eval e X.env) :: starEach [] X.env := by rfl) (hpl : (backTo pos (starEach [] X.env)).any (·.1) = false := by rfl) :
    DEl Z X (.Call (.Name "list" p) [e] [] pos) (rListOf te) := by
  obtain ⟨T, pe, h⟩ := he.ex
  refine ⟨_, pe_callTy call_list_of hg hm (by decide +kernel) (pa_cons pe pa_nil hst) (by decide) (by decide) hst hpl, fun m δ σ H Q R n g q => h m δ σ H _ _ n g fun m v d H1 n1 s1 d1 g1 => ?_⟩
  split at g1
  · obtain ⟨z, a, vs, rfl, p, t, l⟩ := dn_lst.mp d1
    exact ⟨a, vs, rfl, .inl (.inl (.inl t)), el_of F n1 s1 l z g1 q⟩
  · obtain ⟨z, a, vs, rfl, t, l⟩ := dn_tupT d1
    exact ⟨a, vs, rfl, .inr (by rw [F.K]; exact t), el_of F n1 s1 l z g1 q⟩
  · exact g1.elim
/-- a + b, lists -/
@[simp] def rCatOf (ta tb : TD) : TL := fun m δ Q => ta m δ fun m d => tb m δ fun m e => match d, e with | .lst a, .lst b => a.length + b.length ≤ sizeLine ∧ Q m (a ++ b) | _, _ => False
theorem del_cat (F : XF L Z X k ε) {a b : Expr} {ta tb : TD} (ha : DE Z X a ta) (hb : DE Z X b tb) : DEl Z X (.BinOp a .Add b pos) (rCatOf ta tb) := by
  obtain ⟨Ta, pa, ha⟩ := ha.ex
  obtain ⟨Tb, pb, hb⟩ := hb.ex
  refine ⟨_, pe_op op_cat pa pb, fun m δ σ H Q R n h q => ha m δ σ H _ _ n h fun m x d H1 n1 s1 d1 h1 => hb m δ σ H1 _ _ n1 h1 fun m y e H2 n2 s2 d2 h2 => ?_⟩
  have d1' := Dn.stp (s2.mono fun c z => Or.inl (F.zok.zo c z)) d x d1
  split at h2
  · obtain ⟨hz, hq⟩ := h2
    obtain ⟨_, a, vs, rfl, pa, ta, la⟩ := dn_lst.mp d1'
    obtain ⟨_, b, ws, rfl, pb, tb, lb⟩ := dn_lst.mp d2
    have l1 := la.length
    have l2 := lb.length
    exact ⟨a, b, vs, ws, rfl, rfl, ta, tb, by omega, el_of F n2 (s1.trans s2) (la.append lb) (by rw [List.length_append]; exact hz) hq q⟩
  · exact h2.elim
/-- x = a new list that the def itself will change -/
@[simp] def rOwn (i : Nat) (t : TL) : TSd := fun D m δ => t m δ fun m ds => D.nx m (δ.set i (.own ds))
theorem own_end {B : EndsD} {R : Ends} {i : Nat} {p : Addr} {vs : List V} {ds : List D} (o : EOk Z B R) (n' : Nv (Z.plus p) m δ σ H') (np : ¬ OO Z σ δ p) (h0 : Fr0 Z.H0 p) (hp : H' p = some (.lst vs)) (hl : DnL (Z.plus p) (OO (Z.plus p) σ δ) H' ds vs) (z : ds.length ≤ sizeLine)
    (hq : B.nx m (δ.set i (.own ds))) : R.nx (σ.set i (some (.ref p))) H' :=
  o.nx _ _ _ H' (n'.setO (Ext.plus Z p h0) (Or.inr rfl) (fun a h => h) (fun h => np (.inl h)) (fun h => np (.inr h)) h0 hp hl z) hq
theorem ds_own (F : XF L Z X k ε) (i : Nat) {x : Str} {pos' : Pos} {t : TL} (he : DEl Z X e t) (hi : X.N[i]? = some x := by rfl) (hx : Loc X.env.scope x := by first | exact Or.inl rfl | exact Or.inr rfl) (hs : swapsWith e (some (.Name x pos')) pos.line X.env = pure false := by rfl) (hf : X.fn x = true ∨ X.env.scope.names.lookup x = some .local := by first | exact .inl rfl | exact .inr rfl) :
    DS Z X (.Assign [.Name x pos'] e pos) (rOwn i t) := by
  obtain ⟨T, p, h⟩ := he.ex
  exact ⟨_, ps_set F.nd hi hx p hs hf, fun m δ σ H D R n g o => h m δ σ H _ _ n g fun m p vs ds H' n' s np h0 hp hl z hq => own_end o n' np h0 hp hl z hq⟩
/-! ### several at once -/
abbrev TSl := Nat → Env → (Nat → List Slot → Prop) → Prop
def SlA (Z Z' : Zs) (σ : L2.St) (δ : Env) (H : Hp) : Slot → V → Prop
  | .val d, v => (d, v) ∈ Z'.G
  | .own ds, v => ∃ p vs, v = .ref p ∧ Z'.O p ∧ ¬ OO Z σ δ p ∧ Fr0 Z.H0 p ∧ H p = some (.lst vs) ∧ (∀ q ∈ ds.zip vs, q ∈ Z'.G) ∧ vs.length = ds.length ∧ ds.length ≤ sizeLine
  | .no, _ => False
def SlL (Z Z' : Zs) (σ : L2.St) (δ : Env) (H : Hp) : List Slot → List V → Prop
  | [], vs => vs = []
  | s :: ss, vs => ∃ v r, vs = v :: r ∧ SlA Z Z' σ δ H s v ∧ (∀ ds, s = .own ds → ∀ (j : Nat) es, ss[j]? = some (.own es) → r[j]? ≠ some v) ∧ SlL Z Z' σ δ H ss r
structure DP (Z : Zs) (X : Cx) (es : List Expr) (t : TSl) : Prop where
  ex : ∃ T : TA, PA X es T ∧ ∀ (m : Nat) (δ : Env) (σ : L2.St) (H : Hp) (Q : Nat → List Slot → Prop) (R : List V → Hp → Prop), Nv Z m δ σ H → t m δ Q →
    (∀ m' vs ss Z' H', Ext Z Z' → Nv Z' m' δ σ H' → Stp (zone Z) H H' → SlL Z Z' σ δ H' ss vs → Q m' ss → R vs H') → T σ H R
def cA (X : Cx) (es : List Expr) : TA := fun σ H R => ∀ (pos : Pos) (pins : List (Addr × Obj)) (s : Shared), Inv X pins σ H s → wpAny (model X.prog X.w) X.A (spliced (backTo pos (starEach es X.env))) (AP X pins σ R) X.xe s
theorem pa_c : PA X es (cA X es) := ⟨fun pos pins s σ H Q I h => h pos pins s I⟩
theorem DP.run {t : TSl} (h : DP Z X es t) {m : Nat} {Q : Nat → List Slot → Prop} {R : List V → Hp → Prop} (n : Nv Z m δ σ H) (q : t m δ Q) (r : ∀ m' vs ss Z' H', Ext Z Z' → Nv Z' m' δ σ H' → Stp (zone Z) H H' → SlL Z Z' σ δ H' ss vs → Q m' ss → R vs H') : cA X es σ H R := by
  obtain ⟨T, p, h⟩ := h.ex
  exact fun pos pins s I => p.run pos pins s σ H R I (h m δ σ H Q R n q r)
@[simp] def pNil : TSl := fun m _ Q => Q m []
@[simp] def pVal (te : TD) (t : TSl) : TSl := fun m δ Q => te m δ fun m d => t m δ fun m ss => Q m (.val d :: ss)
@[simp] def pOwn (te : TL) (t : TSl) : TSl := fun m δ Q => te m δ fun m ds => t m δ fun m ss => Q m (.own ds :: ss)
theorem dp_nil : DP Z X [] pNil := ⟨_, pa_nil, fun m δ σ H Q R n h r => r _ [] [] Z H (.refl _) n (.refl _ _) rfl h⟩
theorem SlA.ext {Z1 : Zs} {s : Slot} {v : V} (x : Ext Z Z1) (h : SlA Z1 Z' σ δ H s v) : SlA Z Z' σ δ H s v := by
  cases s with
  | no => exact h
  | val d => exact h
  | own ds =>
    obtain ⟨p, vs, e, a1, a2, a3, a4⟩ := h
    exact ⟨p, vs, e, a1, fun z => a2 (x.OO p z), by rw [← x.H0]; exact a3, a4⟩
theorem SlL.ext {Z1 : Zs} (x : Ext Z Z1) : ∀ {ss : List Slot} {vs : List V}, SlL Z1 Z' σ δ H ss vs → SlL Z Z' σ δ H ss vs
  | [], vs, h => h
  | s :: ss, vs, h => by
    obtain ⟨v, r, e, h1, h2, h3⟩ := h
    exact ⟨v, r, e, h1.ext x, h2, h3.ext x⟩
theorem SlL.get : ∀ {ss : List Slot} {vs : List V} {j : Nat} {es : List D} {v : V}, SlL Z Z' σ δ H ss vs → ss[j]? = some (.own es) → vs[j]? = some v → SlA Z Z' σ δ H (.own es) v
  | [], vs, j, es, v, h, e, _ => by simp at e
  | s :: ss, vs, 0, es, v, h, e, e' => by
    obtain ⟨w, r, rfl, h1, h2, h3⟩ := h
    simp at e e'
    subst e e'
    exact h1
  | s :: ss, vs, j + 1, es, v, h, e, e' => by
    obtain ⟨w, r, rfl, h1, h2, h3⟩ := h
    exact SlL.get h3 (by simpa using e) (by simpa using e')
theorem dp_val (F : XF L Z X k ε) {t : TSl} (ha : DE Z X e te) (hr : ∀ Z', XF L Z' X k ε → DP Z' X es t) (hs : starEach (e :: es) X.env = (false, eval e X.env) :: starEach es X.env := by rfl) : DP Z X (e :: es) (pVal te t) := by
  obtain ⟨Ta, pa, ha⟩ := ha.ex
  refine ⟨_, pa_cons pa pa_c hs, fun m δ σ H Q R n h r => ha m δ σ H _ _ n h fun m v d H1 n1 s1 d1 h1 => ?_⟩
  have x := Ext.gh Z [(d, v)]
  refine (hr _ (F.ext x)).run (n1.gh (G := [(d, v)]) fun p hp => by cases List.mem_singleton.mp hp; exact d1) h1 fun m vs ss Z2 H2 x2 n2 s2 l2 q2 => ?_
  rw [x.zone] at s2
  exact r _ _ (.val d :: ss) Z2 H2 (x.trans x2) n2 (s1.trans s2) ⟨v, vs, rfl, x2.G _ List.mem_cons_self, (fun ds e => by cases e), l2.ext x⟩ q2
theorem mem_zip_l {α β : Type} : ∀ {as : List α} {bs : List β} {p : α × β}, p ∈ as.zip bs → ∃ i : Nat, as[i]? = some p.1 ∧ bs[i]? = some p.2
  | [], bs, p, h => by simp at h
  | a :: as, [], p, h => by simp at h
  | a :: as, b :: bs, p, h => by
    rw [List.zip_cons_cons] at h
    rcases List.mem_cons.mp h with rfl | h
    · exact ⟨0, rfl, rfl⟩
    · obtain ⟨i, h1, h2⟩ := mem_zip_l h
      exact ⟨i + 1, by simpa using h1, by simpa using h2⟩
theorem DnL.zipG {P : Addr → Prop} {ds : List D} {vs : List V} (l : DnL Z P H ds vs) : ∀ p ∈ ds.zip vs, Dn Z P H p.1 p.2 := fun p hp => by
  obtain ⟨i, h1, h2⟩ := mem_zip_l hp
  obtain ⟨w, h3, h4⟩ := l.get h1
  rw [h2] at h3; cases h3
  exact h4
theorem DnL.ofG {P : Addr → Prop} : ∀ {ds : List D} {vs : List V}, vs.length = ds.length → (∀ p ∈ ds.zip vs, Dn Z P H p.1 p.2) → DnL Z P H ds vs
  | [], vs, e, _ => by rw [List.eq_nil_of_length_eq_zero e]; exact .nil
  | d :: ds, [], e, _ => by simp at e
  | d :: ds, v :: vs, e, h => .cons (h (d, v) (by rw [List.zip_cons_cons]; exact List.mem_cons_self)) (DnL.ofG (by simpa using e) fun p hp => h p (by rw [List.zip_cons_cons]; exact List.mem_cons_of_mem _ hp))
theorem dp_own (F : XF L Z X k ε) {t : TSl} {tl : TL} (ha : DEl Z X e tl) (hr : ∀ Z', XF L Z' X k ε → DP Z' X es t) (hs : starEach (e :: es) X.env = (false, eval e X.env) :: starEach es X.env := by rfl) : DP Z X (e :: es) (pOwn tl t) := by
  obtain ⟨Ta, pa, ha⟩ := ha.ex
  refine ⟨_, pa_cons pa pa_c hs, fun m δ σ H Q R n h r => ha m δ σ H _ _ n h fun m p vs ds H1 n1 s1 np h0 hp hl hz h1 => ?_⟩
  have x := (Ext.plus Z p h0).trans (Ext.gh (Z.plus p) (ds.zip vs))
  refine (hr _ (F.ext x)).run (n1.gh (G := ds.zip vs) hl.zipG) h1 fun m ws ss Z2 H2 x2 n2 s2 l2 q2 => ?_
  rw [x.zone] at s2
  refine r _ _ (.own ds :: ss) Z2 H2 (x.trans x2) n2 (s1.trans s2) ⟨.ref p, ws, rfl, ⟨p, vs, rfl, x2.O p (Or.inr rfl), np, h0, s2.keep _ _ hp (fun _ z => nomatch z) fun z => np (Or.inl (F.zok.zo p z)), fun q hq => x2.G q (List.mem_append_left _ hq), hl.length, hz⟩, fun _ _ j es e1 e2 => ?_, l2.ext x⟩ q2
  obtain ⟨p', vs', e3, _, a2, _⟩ := l2.get e1 e2
  cases e3
  exact a2 (.inl (Or.inr rfl))
@[simp] def setsP : Env → List Nat → List Slot → Env
  | δ, i :: is, s :: ss => setsP (δ.set i s) is ss
  | δ, _, _ => δ
def setsS : L2.St → List Nat → List V → L2.St
  | σ, i :: is, v :: vs => setsS (σ.set i (some v)) is vs
  | σ, _, _ => σ
def Zs.sub (Z : Zs) (p : Addr) : Zs := { Z with O := fun a => Z.O a ∧ a ≠ p }
theorem storeAll : ∀ (is : List Nat) (ss : List Slot) (vs : List V) {Z' : Zs} {δ : Env} {σ : L2.St}, Ext Z Z' → Nv Z' m δ σ H → SlL Z Z' σ δ H ss vs → ss.length = is.length → Nv Z m (setsP δ is ss) (setsS σ is vs) H
  | [], ss, vs, Z', δ, σ, x, n, h, e => by
    have : ss = [] := List.eq_nil_of_length_eq_zero e
    subst this
    exact x.nv n
  | i :: is, [], vs, Z', δ, σ, x, n, h, e => by simp at e
  | i :: is, s :: ss, vs, Z', δ, σ, x, n, h, e => by
    obtain ⟨v, r, rfl, h1, h2, h3⟩ := h
    cases s with
    | no => exact h1.elim
    | val d =>
      refine storeAll is ss r x (n.setV (n.gho _ h1)) ?_ (by simpa using e)
      have key : ∀ {ss : List Slot} {r : List V}, SlL Z Z' σ δ H ss r → SlL Z Z' (σ.set i (some v)) (δ.set i (.val d)) H ss r := by
        intro ss
        induction ss with
        | nil => intro r h; exact h
        | cons s ss ih =>
          intro r h
          obtain ⟨w, r', rfl, a1, a2, a3⟩ := h
          refine ⟨w, r', rfl, ?_, a2, ih a3⟩
          cases s with
          | no => exact a1
          | val c => exact a1
          | own es =>
            obtain ⟨p, us, b1, b2, b3, b4⟩ := a1
            exact ⟨p, us, b1, b2, fun z => b3 (OO_set_val p z), b4⟩
      exact key h3
    | own ds =>
      obtain ⟨p, us, rfl, b2, b3, b4, b5, b6, b7, b8⟩ := h1
      have xs : Ext (Z'.sub p) Z' := ⟨rfl, rfl, rfl, fun _ h => h.1, fun _ h => h, fun a h => by
        by_cases q : a = p
        · exact .inr (by rw [q]; show Fr0 Z'.H0 p; rw [x.H0]; exact b4)
        · exact .inl ⟨h, q⟩⟩
      have n' := n.setO (W := Z'.sub p) (i := i) xs b2 (fun a h => by
        by_cases q : a = p
        · exact .inr q
        · exact .inl ⟨h, q⟩) (fun h => h.2 rfl) (fun h => b3 (.inr h)) (by show Fr0 Z'.H0 p; rw [x.H0]; exact b4) b5 (DnL.ofG b7 fun q hq => n.gho q (b6 q hq)) b8
      refine storeAll is ss r (Z' := Z'.sub p) ⟨x.L, x.st, x.H0, fun a h => ⟨x.O a h, fun q => b3 (.inl (by rw [← q]; exact h))⟩, x.G, fun a h => x.N a h.1⟩ n' ?_ (by simpa using e)
      have key : ∀ {ss : List Slot} {r : List V}, (∀ (j : Nat) es, ss[j]? = some (.own es) → r[j]? ≠ some (.ref p)) → SlL Z Z' σ δ H ss r → SlL Z (Z'.sub p) (σ.set i (some (.ref p))) (δ.set i (.own ds)) H ss r := by
        intro ss
        induction ss with
        | nil => intro r _ h; exact h
        | cons s ss ih =>
          intro r hn h
          obtain ⟨w, r', rfl, a1, a2, a3⟩ := h
          refine ⟨w, r', rfl, ?_, a2, ih (fun j es e1 => by have := hn (j + 1) es (by simpa using e1); simpa using this) a3⟩
          cases s with
          | no => exact a1
          | val c => exact a1
          | own es =>
            obtain ⟨p', us', c1, c2, c3, c4⟩ := a1
            subst c1
            have npp : p' ≠ p := fun q => by
              have := hn 0 es rfl
              simp [q] at this
            refine ⟨p', us', rfl, ⟨c2, npp⟩, ?_, c4⟩
            rintro (z | ⟨j, fs, z1, z2⟩)
            · exact c3 (.inl z)
            · by_cases hj : i = j
              · subst hj
                by_cases hlt : i < δ.length
                · rw [List.getElem?_set_self (by rw [n.len]; exact hlt)] at z2; cases z2
                  exact npp rfl
                · rw [List.getElem?_eq_none (by rw [List.length_set]; omega)] at z1; cases z1
              · rw [List.getElem?_set_ne hj] at z1 z2
                exact c3 (.inr ⟨j, fs, z1, z2⟩)
      exact key (h2 ds rfl) h3
@[simp] def rPar (is : List Nat) (t : TSl) : TSd := fun D m δ => t m δ fun m ss => ss.length = is.length ∧ D.nx m (setsP δ is ss)
theorem SlL.length : ∀ {ss : List Slot} {vs : List V}, SlL Z Z' σ δ H ss vs → vs.length = ss.length
  | [], vs, h => by have h : vs = [] := h; rw [h]; rfl
  | s :: ss, vs, h => by
    obtain ⟨v, r, rfl, _, _, h3⟩ := h
    rw [List.length_cons, List.length_cons, SlL.length h3]
/-- a, b = e1, e2 by two locals -/
theorem ds_par2 (F : XF L Z X k ε) (i j : Nat) {x y : Str} {a b : Expr} {px py pt : Pos} {kt k2 pt2} {t : TSl} (ha : DP Z X [a, b] t) (hij : i ≠ j := by decide) (hi : X.N[i]? = some x := by rfl) (hj : X.N[j]? = some y := by rfl)
    (hx : X.env.scope.names.lookup x = some .local := by rfl) (hy : X.env.scope.names.lookup y = some .local := by rfl)
    (hw : swappedStores [.Tuple [.Name x px, .Name y py] kt pt] (.Tuple [a, b] k2 pt2) X.env = pure (some [x, y]) := by rfl)
    (hs : swapsWithSole [.Tuple [.Name x px, .Name y py] kt pt] (.Tuple [a, b] k2 pt2) pos.line X.env = pure false := by rfl) :
    DS Z X (.Assign [.Tuple [.Name x px, .Name y py] kt pt] (.Tuple [a, b] k2 pt2) pos) (rPar [i, j] t) := by
  refine ⟨_, ps_par F.calm F.nd hi hj hij hx hy (pa_c (X := X)) hw hs, fun m δ σ H D R n g o => ha.run n g fun m vs ss Z' H' x n' s l q => ?_⟩
  have lv := l.length
  rw [q.1] at lv
  match vs, lv with
  | [v, w], _ => exact ⟨v, w, rfl, o.nx _ _ _ H' (storeAll [i, j] ss [v, w] x n' l q.1) q.2⟩
theorem ds_par3 (F : XF L Z X k ε) (i j l : Nat) {x y z : Str} {a b c : Expr} {px py pz pt : Pos} {kt k2 pt2} {t : TSl} (ha : DP Z X [a, b, c] t) (hij : i ≠ j := by decide) (hil : i ≠ l := by decide) (hjl : j ≠ l := by decide) (hi : X.N[i]? = some x := by rfl) (hj : X.N[j]? = some y := by rfl) (hl : X.N[l]? = some z := by rfl)
    (hx : X.env.scope.names.lookup x = some .local := by rfl) (hy : X.env.scope.names.lookup y = some .local := by rfl) (hz : X.env.scope.names.lookup z = some .local := by rfl)
    (hw : swappedStores [.Tuple [.Name x px, .Name y py, .Name z pz] kt pt] (.Tuple [a, b, c] k2 pt2) X.env = pure (some [x, y, z]) := by rfl)
    (hs : swapsWithSole [.Tuple [.Name x px, .Name y py, .Name z pz] kt pt] (.Tuple [a, b, c] k2 pt2) pos.line X.env = pure false := by rfl) :
    DS Z X (.Assign [.Tuple [.Name x px, .Name y py, .Name z pz] kt pt] (.Tuple [a, b, c] k2 pt2) pos) (rPar [i, j, l] t) := by
  refine ⟨_, ps_par3 F.calm F.nd hi hj hl hij hil hjl hx hy hz (pa_c (X := X)) hw hs, fun m δ σ H D R n g o => ha.run n g fun m vs ss Z' H' x n' s l' q => ?_⟩
  have lv := l'.length
  rw [q.1] at lv
  match vs, lv with
  | [u, v, w], _ => exact ⟨u, v, w, rfl, o.nx _ _ _ H' (storeAll [i, j, l] ss [u, v, w] x n' l' q.1) q.2⟩
theorem hNs_of : ∀ (is : List Nat) (vs : List V) {σ : L2.St} {R : L2.St → Hp → Prop}, vs.length = is.length → R (setsS σ is vs) H → hNs is vs σ H R
  | [], vs, σ, R, e, h => by
    have : vs = [] := List.eq_nil_of_length_eq_zero e
    subst this
    exact ⟨rfl, h⟩
  | i :: is, [], σ, R, e, h => by simp at e
  | i :: is, v :: vs, σ, R, e, h => ⟨v, vs, rfl, hNs_of is vs (by simpa using e) h⟩
/-- a, b, .. = e1, e2, .. by way of a tuple -/
theorem ds_parT (F : XF L Z X k ε) {tg : Expr} (is : List Nat) {x1} {p1 : Pos} {t : TSl} (ha : DP Z X es t) (hg : PG X tg (hT X.K (.many is))) (hlen : is.length ≤ 1000 := by decide) (hs : swapsWithSole [tg] (.Tuple es x1 p1) pos.line X.env = pure false := by rfl) (hw : swappedStores [tg] (.Tuple es x1 p1) X.env = pure none := by rfl)
    (h1 : (assignEach [tg] X.env).map (·.2) = [assign tg X.env] := by rfl) : DS Z X (.Assign [tg] (.Tuple es x1 p1) pos) (rPar is t) := by
  refine ⟨_, ps_asg (pe_tup (pa_c (X := X))) hg hs hw h1, fun m δ σ H D R n g o => ha.run n g fun m vs ss Z' H' x n' s l q => ?_⟩
  have lv := l.length
  rw [q.1] at lv
  have zl : vs.length ≤ sizeLine := by rw [lv, sizeLine_eq]; omega
  refine ⟨zl, fun p hp => ⟨p, vs, rfl, .inl (.inl upd_same), lv, hNs_of is vs lv ?_⟩⟩
  have zk : Zok Z' := (F.ext x).zok
  have key : ∀ {ss : List Slot} {vs : List V}, SlL Z Z' σ δ H' ss vs → SlL Z Z' σ δ (upd H' p (.tup vs)) ss vs := fun {ss vs} h => by
    have gen : ∀ (o' : HO) {ss : List Slot} {vs : List V}, SlL Z Z' σ δ H' ss vs → SlL Z Z' σ δ (upd H' p o') ss vs := by
      intro o' ss
      induction ss with
      | nil => intro vs h; exact h
      | cons s ss ih =>
        intro vs h
        obtain ⟨w, r', rfl, a1, a2, a3⟩ := h
        refine ⟨w, r', rfl, ?_, a2, ih a3⟩
        cases s with
        | no => exact a1
        | val c => exact a1
        | own es =>
          obtain ⟨p', us', c1, c2, c3, c4, c5, c6⟩ := a1
          exact ⟨p', us', c1, c2, c3, c4, same_upd hp _ _ c5, c6⟩
    exact gen _ h
  exact o.nx _ _ _ _ (storeAll is ss vs x (n'.same zk (same_upd hp)) (key l) q.1) q.2
/-! ### the def's own lists change -/
@[simp] def rApp (i : Nat) (te : TD) : TSd := fun D m δ => match δ[i]? with | some (.own ds) => te m δ fun m d => ds.length < sizeLine ∧ D.nx m (δ.set i (.own (ds ++ [d]))) | _ => False
theorem ds_app (F : XF L Z X k ε) (i : Nat) {x : Str} {p1 p2 p3 : Pos} (he : DE Z X e te) (hN : X.N[i]? = some x := by rfl) (hv : Vis X.env.scope x := by first | exact Or.inl rfl | exact Or.inr (Or.inl rfl) | exact Or.inr (Or.inr rfl))
    (hd : (x == ("__debug__" : Str)) = false := by decide) (hcd : (x == ("__classdict__" : Str)) = false := by decide)
    (hst : starEach [e] X.env = (false, eval e X.env) :: starEach [] X.env := by rfl) (hl1 : (p2.endLine == p3.line) = true := by rfl)
    (hf1 : ((backTo p3 (starEach [e] X.env)).all (fun x => !x.1) && (backToKw p3 (keywordEach [] X.env)).all (fun x => x.1.isSome) && decide (([e] : List Expr).length + ([] : List Keyword).length + (if ([] : List Keyword).isEmpty then 0 else 1) < 30)) = true := by rfl) : DS Z X (.Expr (.Call (.Attribute (.Name x p1) "append" p2) [e] [] p3) pos) (rApp i te) := by
  obtain ⟨T, p, h⟩ := he.ex
  refine ⟨_, ps_expr (pe_bm PySem.F.plainAttrs_list PySem.F.slot_list_append PySem.F.type_list_append mt_append (pe_var hN hv hd hcd) (pa_cons p pa_nil hst) (by rfl) hf1 hl1 hst rfl), fun m δ σ H B R n g o => ?_⟩
  unfold rApp at g
  split at g
  · rename_i ds hi
    obtain ⟨a, vs, h1, h2, h3, h4, h5, h6⟩ := n.own i ds hi
    refine ⟨.ref a, h1, .inl ⟨rfl, _, .inl (.inl h2)⟩, h m δ σ H _ _ n g fun m v d H1 n1 s1 d1 q => ?_⟩
    obtain ⟨b, ws, e1, e2, e3, _⟩ := n1.own i ds hi
    rw [h1] at e1; cases e1
    refine ⟨a, ws, v, rfl, rfl, e2, by rw [e3.length]; exact q.1, ?_⟩
    exact o.nx _ _ _ _ (n1.pokeO F.zok hi h1 e2 (e3.append (.cons d1 .nil)) (by rw [List.length_append]; exact q.1)) q.2
  · exact g.elim
/-- x.append(y.pop(e)) -/
@[simp] def rAppPop (i j : Nat) (te : TD) : TSd := fun B m δ => match δ[i]?, δ[j]? with
  | some (.own ds), some (.own es) => te m δ fun m d => match d with
    | .int z => ∃ (a : Nat) (y : D), z = (a : Int) ∧ a < 2 ^ 62 ∧ es[a]? = some y ∧ ds.length < sizeLine ∧ B.nx m ((δ.set j (.own (es.eraseIdx a))).set i (.own (ds ++ [y])))
    | _ => False
  | _, _ => False
theorem ds_appPop (F : XF L Z X k ε) (i j : Nat) {x y : Str} {p1 p2 p3 p4 p5 p6 : Pos} (he : DE Z X e te) (hij : i ≠ j := by decide) (hN : X.N[i]? = some x := by rfl) (hv : Vis X.env.scope x := by first | exact Or.inl rfl | exact Or.inr (Or.inl rfl) | exact Or.inr (Or.inr rfl))
    (hN' : X.N[j]? = some y := by rfl) (hv' : Vis X.env.scope y := by first | exact Or.inl rfl | exact Or.inr (Or.inl rfl) | exact Or.inr (Or.inr rfl))
    (hd : (x == ("__debug__" : Str)) = false := by decide) (hcd : (x == ("__classdict__" : Str)) = false := by decide) (hd' : (y == ("__debug__" : Str)) = false := by decide) (hcd' : (y == ("__classdict__" : Str)) = false := by decide)
    (hst : starEach [e] X.env = (false, eval e X.env) :: starEach [] X.env := by rfl) (hl1 : (p2.endLine == p3.line) = true := by rfl) (hl2 : (p5.endLine == p6.line) = true := by rfl)
    (hf2 : ((backTo p6 (starEach [e] X.env)).all (fun x => !x.1) && (backToKw p6 (keywordEach [] X.env)).all (fun x => x.1.isSome) && decide (([e] : List Expr).length + ([] : List Keyword).length + (if ([] : List Keyword).isEmpty then 0 else 1) < 30)) = true := by rfl) :
    DS Z X (.Expr (.Call (.Attribute (.Name x p1) "append" p2) [.Call (.Attribute (.Name y p4) "pop" p5) [e] [] p6] [] p3) pos) (rAppPop i j te) := by
  obtain ⟨T, p, h⟩ := he.ex
  refine ⟨_, ps_expr (pe_bm PySem.F.plainAttrs_list PySem.F.slot_list_append PySem.F.type_list_append mt_append (pe_var hN hv hd hcd) (pa_cons (pe_bm PySem.F.plainAttrs_list PySem.F.slot_list_pop PySem.F.type_list_pop mt_popAt (pe_var hN' hv' hd' hcd') (pa_cons p pa_nil hst) (by rfl) hf2 hl2 hst rfl) pa_nil) (by rfl) (by rfl) hl1), fun m δ σ H B R n g o => ?_⟩
  unfold rAppPop at g
  split at g
  · rename_i ds es hi hj
    obtain ⟨a, vs, h1, h2, h3, h4, h5, h6⟩ := n.own i ds hi
    obtain ⟨b, ws, k1, k2, k3, k4, k5, k6⟩ := n.own j es hj
    refine ⟨.ref a, h1, .inl ⟨rfl, _, .inl (.inl h2)⟩, .ref b, k1, .inl ⟨rfl, _, .inl (.inl k2)⟩, h m δ σ H _ _ n g fun m v d H1 n1 s1 d1 q => ?_⟩
    cases d <;> first | exact q.elim | skip
    rename_i z
    obtain ⟨m, y, rfl, hm, hy, hz, q⟩ := q
    obtain ⟨a', vs', e1, e2, e3, e4, e5, e6⟩ := n1.own i ds hi
    rw [h1] at e1; cases e1
    obtain ⟨b', ws', f1, f2, f3, f4, f5, f6⟩ := n1.own j es hj
    rw [k1] at f1; cases f1
    have nab : a ≠ b := fun z => hij (n1.sep i j ds es a hi hj h1 (by rw [z]; exact k1))
    obtain ⟨w, hw, dw⟩ := f3.get hy
    have hml : m < ws'.length := by
      rcases Nat.lt_or_ge m ws'.length with q | q
      · exact q
      · rw [List.getElem?_eq_none q] at hw; cases hw
    refine ⟨b, ws', (m : Int), m, w, rfl, by rw [dn_int.mp d1], f2, by omega, by omega, ?_, hw, a, vs', w, rfl, rfl, by rw [upd_ne nab]; exact e2, by rw [e3.length]; exact hz, ?_⟩
    · unfold seqIndex?
      simp
      omega
    · have n2 := n1.pokeO F.zok hj k1 f2 (f3.eraseIdx m) (Nat.le_trans (by rw [List.length_eraseIdx]; split <;> omega) f6)
      have hi2 : (δ.set j (.own (es.eraseIdx m)))[i]? = some (.own ds) := by rw [List.getElem?_set_ne (Ne.symm hij)]; exact hi
      obtain ⟨a2, vs2, g1, g2, g3, g4, g5, g6⟩ := n2.own i ds hi2
      rw [h1] at g1; cases g1
      have eqv : vs2 = vs' := by
        rw [upd_ne nab, e2] at g2
        cases g2; rfl
      subst eqv
      have sb : Stp (OO Z σ δ) H1 (upd H1 b (.lst (ws'.eraseIdx m))) := .own (Or.inr ⟨j, es, hj, k1⟩) f2
      have sub : ∀ c, OO Z σ (δ.set j (.own (es.eraseIdx m))) c → OO Z σ δ c := by
        rintro c (q | ⟨l, fs, q1, q2⟩)
        · exact .inl q
        · by_cases hl : j = l
          · subst hl; exact .inr ⟨j, es, hj, q2⟩
          · rw [List.getElem?_set_ne hl] at q1; exact .inr ⟨l, fs, q1, q2⟩
      exact o.nx _ _ _ _ (n2.pokeO F.zok hi2 h1 g2 (g3.append (.cons (Dn.mono sub y w (Dn.stp sb y w dw)) .nil)) (by rw [List.length_append]; exact hz)) q
  · exact g.elim
/-- from here on the list in slot i is data like any -/
@[simp] def rFrz (i : Nat) (t : TSd) : TSd := fun D m δ => match δ[i]? with | some (.own ds) => t D m (δ.set i (.val (.lst ds))) | _ => False
theorem dss_frz (i : Nat) {body : List Stmt} (h : DSs Z X body t) : DSs Z X body (rFrz i t) := by
  obtain ⟨T, p, h⟩ := h.ex
  refine ⟨T, p, fun m δ σ H D R n g o => ?_⟩
  unfold rFrz at g
  split at g
  · rename_i ds hi
    exact h _ _ σ H D R (n.freeze hi) g o
  · exact g.elim
end
end DL

namespace DL
open PySem L2
section
variable {L : Ls} {Z Z' : Zs} {X : Cx} {k : Nat} {ε : Nat → Str → Prop} {e : Expr} {es : List Expr} {te : TD} {tg iter : Expr} {pos : Pos} {δ : Env} {σ : L2.St} {H H' : Hp}
/-! ### what is walked -/
/-- J gives just the data ds, as long as the values G stand -/
structure ItD (L : Ls) (st : Option (Addr × Addr × Addr)) (J : It) (ds : List D) (G : List (D × V)) : Prop where
  stop : ∀ (Z : Zs) (P : Addr → Prop) (H : Hp), Z.L = L → Z.st = st → (∀ p ∈ G, Dn Z P H p.1 p.2) → J.stop ds.length H
  go : ∀ (Z : Zs) (P : Addr → Prop) (H : Hp) (i : Nat) (d : D), Z.L = L → Z.st = st → (∀ p ∈ G, Dn Z P H p.1 p.2) → ds[i]? = some d → (∀ a, H a = none → ¬ P a) →
    J.go i H ∧ ∀ x H', J.yld i H x H' → Same H H' ∧ Dn Z P H' d x
structure DI (Z : Zs) (X : Cx) (tg iter : Expr) (t : TL) : Prop where
  ex : ∃ wi : TI, PI X tg iter wi ∧ ∀ (m : Nat) (δ : Env) (σ : L2.St) (H : Hp) (Q : Nat → List D → Prop) (R : It → Hp → Prop), Nv Z m δ σ H → t m δ Q →
    (∀ m' J H1 ds G, Nv Z m' δ σ H1 → Stp (zone Z) H H1 → (∀ p ∈ G, Dn Z (OO Z σ δ) H1 p.1 p.2) → ItD Z.L Z.st J ds G → ds.length ≤ sizeLine → Q m' ds → R J H1) → wi σ H R
theorem SqL_inj {K : PySem.W.Frag} {H : Hp} {a : Addr} {xs : List V} (h : H a = some (.lst xs)) : SqL K H a xs := .inl (.inl h)
/-- a list or a tuple -/
theorem pi_seq {l : Expr} {tl : TE} (hl : PE X l tl) : PI X tg l (fun σ H R => tl σ H fun x H1 => ∃ a, x = .ref a ∧ (((∃ xs, SqL X.K H1 a xs) ∧ R (Itl X.K a) H1) ∨ ((∃ xs, SqT X.K H1 a xs) ∧ R (Itt X.K a) H1))) := by
  have c : PE X l (fun σ H R => ∀ (pins : List (Addr × Obj)) (s : Shared), Inv X pins σ H s → wpAny (model X.prog X.w) X.A (eval l X.env) (EP X pins σ R) X.xe s) := ⟨fun pins s σ H Q I h => h pins s I⟩
  refine ⟨fun pins s σ H R I h => ?_⟩
  refine thn (hl.run pins s σ H _ I h) fun v s1 ⟨x, H1, I1, r1, a, e, q1⟩ => ?_
  subst e
  have one : PE X l (fun σ' H' R' => σ' = σ ∧ H' = H ∧ R' (.ref a) H1 ∧ False) := ⟨fun _ _ _ _ _ _ z => z.2.2.2.elim⟩
  rcases q1 with ⟨⟨xs, hq⟩, q⟩ | ⟨⟨xs, hq⟩, q⟩
  · cases r1
    obtain ⟨its, rv, p, hz⟩ := I1.list hq
    refine wpAny_pyIter_list p.isList ?_
    refine ⟨s1.heap.objs.size, [s1.heap.objs.size], _, _, H1, rfl, I1.kept (t' := s1.toks) fun b o e => Heap.get?_push_of_some _ e, turn_list a _, ⟨_, Heap.get?_push_size _ rfl, rfl, rfl⟩, fun b hb => ?_, q⟩
    rw [List.mem_singleton.mp hb]
    exact I1.fpOk (Nat.le_refl _) (I1.hok.fresh (Nat.le_refl _))
  · cases r1
    obtain ⟨its, rv, p, hz⟩ := I1.tuple hq
    refine wpAny_pyIter_tuple (show s1.heap.IsTuple a its.toArray from p) ?_
    refine ⟨s1.heap.objs.size, [s1.heap.objs.size], _, _, H1, rfl, I1.kept (t' := s1.toks) fun b o e => Heap.get?_push_of_some _ e, turn_tuple a _, ⟨_, Heap.get?_push_size _ rfl, rfl, rfl⟩, fun b hb => ?_, q⟩
    rw [List.mem_singleton.mp hb]
    exact I1.fpOk (Nat.le_refl _) (I1.hok.fresh (Nat.le_refl _))
@[simp] def rIt (te : TD) : TL := fun m δ Q => te m δ fun m d => match d with | .lst ds => Q m ds | .tup ds => Q m ds | _ => False
theorem itl_D {a : Addr} {ds : List D} {v : V} (hv : v = .ref a) {L : Ls} {st : Option (Addr × Addr × Addr)} {K : PySem.W.Frag} (hK : K = L.K) : ItD L st (Itl K a) ds [(.lst ds, v)] where
  stop := fun Z P H hL hs h => by
    obtain ⟨z, b, vs, e, p, t, l⟩ := dn_lst.mp (h _ List.mem_cons_self)
    rw [hv] at e; cases e
    exact ⟨vs, SqL_inj t, by rw [l.length]; exact Nat.le_refl _⟩
  go := fun Z P H i d hL hs h hi hp => by
    obtain ⟨z, b, vs, e, p, t, l⟩ := dn_lst.mp (h _ List.mem_cons_self)
    rw [hv] at e; cases e
    obtain ⟨w, hw, dw⟩ := l.get hi
    refine ⟨⟨vs, w, SqL_inj t, hw⟩, fun x H' y => ?_⟩
    obtain ⟨e, y⟩ := y
    subst e
    have := y vs (SqL_inj t)
    rw [hw] at this; cases this
    exact ⟨Same.refl _, dw⟩
theorem itt_D {a : Addr} {ds : List D} {v : V} (hv : v = .ref a) {L : Ls} {st : Option (Addr × Addr × Addr)} {K : PySem.W.Frag} (hK : K = L.K) : ItD L st (Itt K a) ds [(.tup ds, v)] where
  stop := fun Z P H hL hs h => by
    obtain ⟨z, b, vs, e, t, l⟩ := dn_tupT (h _ List.mem_cons_self)
    rw [hv] at e; cases e
    rw [Zs.K, hL, ← hK] at t
    exact ⟨vs, t, by rw [l.length]; exact Nat.le_refl _⟩
  go := fun Z P H i d hL hs h hi hp => by
    obtain ⟨z, b, vs, e, t, l⟩ := dn_tupT (h _ List.mem_cons_self)
    rw [hv] at e; cases e
    rw [Zs.K, hL, ← hK] at t
    obtain ⟨w, hw, dw⟩ := l.get hi
    refine ⟨⟨vs, w, t, hw⟩, fun x H' y => ?_⟩
    obtain ⟨e, y⟩ := y
    subst e
    have := y vs t
    rw [hw] at this; cases this
    exact ⟨Same.refl _, dw⟩
theorem di_seq (F : XF L Z X k ε) (he : DE Z X e te) : DI Z X tg e (rIt te) := by
  obtain ⟨T, p, h⟩ := he.ex
  refine ⟨_, pi_seq p, fun m δ σ H Q R n q r => h m δ σ H _ _ n q fun m v d H1 n1 s1 d1 q1 => ?_⟩
  have hK : X.K = Z.L.K := F.K
  split at q1
  · rename_i ds
    obtain ⟨z, a, vs, e, pa, t, l⟩ := dn_lst.mp d1
    exact ⟨a, e, .inl ⟨⟨vs, SqL_inj t⟩, r _ _ H1 ds [(.lst ds, v)] n1 s1 (fun p hp => by cases List.mem_singleton.mp hp; exact d1) (itl_D e hK) z q1⟩⟩
  · rename_i ds
    obtain ⟨z, a, vs, e, t, l⟩ := dn_tupT d1
    exact ⟨a, e, .inr ⟨⟨vs, by rw [hK]; exact t⟩, r _ _ H1 ds [(.tup ds, v)] n1 s1 (fun p hp => by cases List.mem_singleton.mp hp; exact d1) (itt_D e hK) z q1⟩⟩
  · exact q1.elim
/-- a list of the def's own that stands still through the loop -/
def rItO (i : Nat) : TL := fun m δ Q => match δ[i]? with | some (.own ds) => Q m ds | _ => False
/-- range(n), range(a, b) -/
def ups (a : Int) (n : Nat) : List D := (List.range n).map fun (i : Nat) => D.int (a + (i : Int))
theorem ups_length (a : Int) (n : Nat) : (ups a n).length = n := by simp [ups]
theorem itr_D {L : Ls} {st : Option (Addr × Addr × Addr)} (a : Int) (n : Nat) : ItD L st (Itr a n) (ups a n) [] where
  stop := fun Z P H _ _ _ => by rw [ups_length]; exact Nat.le_refl n
  go := fun Z P H i d _ _ _ hi hp => by
    unfold ups at hi
    rw [List.getElem?_map] at hi
    cases q : (List.range n)[i]? with
    | none => rw [q] at hi; cases hi
    | some j =>
      rw [q] at hi
      cases hi
      obtain ⟨h1, h2⟩ := List.getElem?_eq_some_iff.mp q
      rw [List.length_range] at h1
      rw [List.getElem_range] at h2
      subst h2
      refine ⟨h1, fun x H' y => ?_⟩
      obtain ⟨e, y⟩ := y
      subst e
      exact ⟨Same.refl _, dn_int.mpr y⟩
@[simp] def rRng1 (t : TL) : TL := fun m δ Q => t m δ fun m ds => match ds with | [.int j] => -(2 ^ 62) ≤ j ∧ j ≤ 16777216 ∧ Q m (ups 0 j.toNat) | _ => False
@[simp] def rRng2 (t : TL) : TL := fun m δ Q => t m δ fun m ds => match ds with | [.int i, .int j] => -(2 ^ 61) ≤ i ∧ i < 2 ^ 61 ∧ -(2 ^ 62) ≤ j ∧ j - i ≤ 16777216 ∧ Q m (ups i (j - i).toNat) | _ => False
theorem di_rng1 (F : XF L Z X k ε) {a : Expr} {t : TL} {p : Pos} (ha : DA Z X [a] t) (hm : X.mg "range" = none) (hg : Gl X "range" := by rfl) (hs : starEach [a] X.env = [(false, eval a X.env)] := by rfl) : DI Z X tg (.Call (.Name "range" p) [a] [] pos) (rRng1 t) := by
  obtain ⟨T, pa, h⟩ := ha.ex
  refine ⟨_, pi_range1 hg hm pa hs, fun m δ σ H Q R n q r => h m δ σ H _ _ n q fun m vs ds H1 n1 s1 d1 q1 => ?_⟩
  split at q1
  · obtain ⟨q2, q3, q4⟩ := q1
    obtain ⟨v, rfl, hv⟩ := d1.one
    rw [dn_int.mp hv]
    exact ⟨_, rfl, q2, by omega, r _ _ H1 _ [] n1 s1 (fun p hp => by cases hp) (itr_D 0 _) (by rw [ups_length, sizeLine_eq]; omega) q4⟩
  · exact q1.elim
theorem di_rng2 (F : XF L Z X k ε) {a b : Expr} {t : TL} {p : Pos} (ha : DA Z X [a, b] t) (hm : X.mg "range" = none) (hg : Gl X "range" := by rfl) (hs : starEach [a, b] X.env = (false, eval a X.env) :: [(false, eval b X.env)] := by rfl) (hs2 : starEach [b] X.env = [(false, eval b X.env)] := by rfl) : DI Z X tg (.Call (.Name "range" p) [a, b] [] pos) (rRng2 t) := by
  obtain ⟨T, pa, h⟩ := ha.ex
  refine ⟨_, pi_range2 hg hm pa hs hs2, fun m δ σ H Q R n q r => h m δ σ H _ _ n q fun m vs ds H1 n1 s1 d1 q1 => ?_⟩
  split at q1
  · obtain ⟨q2, q3, q4, q5, q6⟩ := q1
    obtain ⟨v, w, rfl, hv, hw⟩ := d1.two
    rw [dn_int.mp hv, dn_int.mp hw]
    exact ⟨_, _, rfl, ⟨by omega, by omega, by omega, by omega⟩, r _ _ H1 _ [] n1 s1 (fun p hp => by cases hp) (itr_D _ _) (by rw [ups_length, sizeLine_eq]; omega) q6⟩
  · exact q1.elim
/-- zip of two lists, of two tuples -/
def zipD (as bs : List D) : List D := (as.zip bs).map fun p => D.tpw [p.1, p.2]
theorem zipD_length (as bs : List D) : (zipD as bs).length = min as.length bs.length := by simp [zipD]
theorem zipD_get {as bs : List D} {i : Nat} {d : D} (h : (zipD as bs)[i]? = some d) : ∃ a b, as[i]? = some a ∧ bs[i]? = some b ∧ d = .tpw [a, b] := by
  unfold zipD at h
  rw [List.getElem?_map] at h
  cases q : (as.zip bs)[i]? with
  | none => rw [q] at h; cases h
  | some p =>
    rw [q] at h
    cases h
    rw [List.getElem?_zip_eq_some] at q
    exact ⟨p.1, p.2, q.1, q.2, rfl⟩
theorem pair_new {P : Addr → Prop} {T : Addr} {a b : D} {x y : V} (hx : Dn Z P H a x) (hy : Dn Z P H b y) (hT : H T = none) : Dn Z P (upd H T (.tup [x, y])) (.tpw [a, b]) (.ref T) :=
  dn_newW (.cons hx (.cons hy .nil)) (by show 2 ≤ sizeLine; rw [sizeLine_eq]; decide) hT
theorem itz_D {a b : Addr} {as bs : List D} {v w : V} (hv : v = .ref a) (hw : w = .ref b) {L : Ls} {st : Option (Addr × Addr × Addr)} {K : PySem.W.Frag} (hK : K = L.K) : ItD L st (Itz K a b) (zipD as bs) [(.lst as, v), (.lst bs, w)] where
  stop := fun Z P H hL hs h => by
    obtain ⟨z, c, vs, e, p, t, l⟩ := dn_lst.mp (h _ List.mem_cons_self)
    rw [hv] at e; cases e
    obtain ⟨z', c', vs', e', p', t', l'⟩ := dn_lst.mp (h _ (List.mem_cons_of_mem _ List.mem_cons_self))
    rw [hw] at e'; cases e'
    refine ⟨vs, vs', SqL_inj t, SqL_inj t', ?_⟩
    rw [l.length, l'.length, zipD_length]
    omega
  go := fun Z P H i d hL hs h hi hp => by
    obtain ⟨z, c, vs, e, p, t, l⟩ := dn_lst.mp (h _ List.mem_cons_self)
    rw [hv] at e; cases e
    obtain ⟨z', c', vs', e', p', t', l'⟩ := dn_lst.mp (h _ (List.mem_cons_of_mem _ List.mem_cons_self))
    rw [hw] at e'; cases e'
    obtain ⟨x, y, h1, h2, rfl⟩ := zipD_get hi
    obtain ⟨x', hx, dx⟩ := l.get h1
    obtain ⟨y', hy, dy⟩ := l'.get h2
    refine ⟨⟨vs, vs', x', y', SqL_inj t, SqL_inj t', hx, hy⟩, fun q H' y => ?_⟩
    obtain ⟨T, u, w, e, hT, e2, y1, y2⟩ := y
    subst e e2
    have e1 := y1 vs (SqL_inj t)
    have e2 := y2 vs' (SqL_inj t')
    rw [hx] at e1; cases e1
    rw [hy] at e2; cases e2
    exact ⟨same_upd hT, pair_new dx dy hT⟩
theorem itzT_D {a b : Addr} {as bs : List D} {v w : V} (hv : v = .ref a) (hw : w = .ref b) {L : Ls} {st : Option (Addr × Addr × Addr)} {K : PySem.W.Frag} (hK : K = L.K) : ItD L st (RZ.ItzT K a b) (zipD as bs) [(.tup as, v), (.tup bs, w)] where
  stop := fun Z P H hL hs h => by
    obtain ⟨z, c, vs, e, t, l⟩ := dn_tupT (h _ List.mem_cons_self)
    rw [hv] at e; cases e
    obtain ⟨z', c', vs', e', t', l'⟩ := dn_tupT (h _ (List.mem_cons_of_mem _ List.mem_cons_self))
    rw [hw] at e'; cases e'
    rw [Zs.K, hL, ← hK] at t t'
    refine ⟨vs, vs', t, t', ?_⟩
    rw [l.length, l'.length, zipD_length]
    omega
  go := fun Z P H i d hL hs h hi hp => by
    obtain ⟨z, c, vs, e, t, l⟩ := dn_tupT (h _ List.mem_cons_self)
    rw [hv] at e; cases e
    obtain ⟨z', c', vs', e', t', l'⟩ := dn_tupT (h _ (List.mem_cons_of_mem _ List.mem_cons_self))
    rw [hw] at e'; cases e'
    rw [Zs.K, hL, ← hK] at t t'
    obtain ⟨x, y, h1, h2, rfl⟩ := zipD_get hi
    obtain ⟨x', hx, dx⟩ := l.get h1
    obtain ⟨y', hy, dy⟩ := l'.get h2
    refine ⟨⟨vs, vs', x', y', t, t', hx, hy⟩, fun q H' y => ?_⟩
    obtain ⟨T, u, w, e, hT, e2, y1, y2⟩ := y
    subst e e2
    have e1 := y1 vs t
    have e2 := y2 vs' t'
    rw [hx] at e1; cases e1
    rw [hy] at e2; cases e2
    exact ⟨same_upd hT, pair_new dx dy hT⟩
@[simp] def rZip (t : TL) : TL := fun m δ Q => t m δ fun m ds => match ds with | [.lst as, .lst bs] => Q m (zipD as bs) | [.tup as, .tup bs] => Q m (zipD as bs) | _ => False
theorem di_zip (F : XF L Z X k ε) {a b : Expr} {elts : List Expr} {kk : Nat} {tpos : Pos} {t : TL} {p : Pos} (ha : DA Z X [a, b] t) (hm : X.mg "zip" = none) (hg : Gl X "zip" := by rfl) (hs : starEach [a, b] X.env = (false, eval a X.env) :: starEach [b] X.env := by rfl) (hpl : (backTo pos (starEach [b] X.env)).any (·.1) = false := by rfl) :
    DI Z X (.Tuple elts kk tpos) (.Call (.Name "zip" p) [a, b] [] pos) (rZip t) := by
  obtain ⟨T, pa, h⟩ := ha.ex
  refine ⟨_, RZ.pi_zipA hg hm pa hs hpl, fun m δ σ H Q R n q r => h m δ σ H _ _ n q fun m vs ds H1 n1 s1 d1 q1 => ?_⟩
  have hK : X.K = Z.L.K := F.K
  split at q1
  · rename_i as bs
    obtain ⟨v, w, rfl, hv, hw⟩ := d1.two
    obtain ⟨z, c, vs, e, p, t, l⟩ := dn_lst.mp hv
    obtain ⟨z', c', vs', e', p', t', l'⟩ := dn_lst.mp hw
    refine ⟨c, c', vs, vs', by rw [e, e'], .inl ⟨SqL_inj t, SqL_inj t', r _ _ H1 _ [(.lst as, v), (.lst bs, w)] n1 s1 (fun p hp => ?_) (itz_D e e' hK) (by rw [zipD_length]; omega) q1⟩⟩
    rcases List.mem_cons.mp hp with rfl | hp
    · exact hv
    · cases List.mem_singleton.mp hp; exact hw
  · rename_i as bs
    obtain ⟨v, w, rfl, hv, hw⟩ := d1.two
    obtain ⟨z, c, vs, e, t, l⟩ := dn_tupT hv
    obtain ⟨z', c', vs', e', t', l'⟩ := dn_tupT hw
    refine ⟨c, c', vs, vs', by rw [e, e'], .inr ⟨by rw [hK]; exact t, by rw [hK]; exact t', r _ _ H1 _ [(.tup as, v), (.tup bs, w)] n1 s1 (fun p hp => ?_) (itzT_D e e' hK) (by rw [zipD_length]; omega) q1⟩⟩
    rcases List.mem_cons.mp hp with rfl | hp
    · exact hv
    · cases List.mem_singleton.mp hp; exact hw
  · exact q1.elim
/-! ### for -/
def rLoop (τ : Tgt) (tb : TSd) (B : EndsD) : List D → Nat → Env → Prop
  | [], m, δ => B.nx m δ
  | d :: ds, m, δ => gD τ d δ fun δ' => tb { B with nx := rLoop τ tb B ds, ct := rLoop τ tb B ds, bk := B.nx } m δ'
@[simp] def rFor (τ : Tgt) (ti : TL) (tb : TSd) : TSd := fun B m δ => ti m δ fun m ds => rLoop τ tb B ds m δ
theorem ds_for (F : XF L Z X k ε) (τ : Tgt) {body : List Stmt} {ti : TL} {tb : TSd} (hi : DI Z X tg iter ti) (hg : PG X tg (hT X.K τ)) (hb : ∀ Z', XF L Z' X k ε → DSs Z' X body tb)
    (hs : ∀ x, foldedSetIterable iter X.env x = pure x := by intro _; rfl) : DS Z X (.For tg iter body [] pos) (rFor τ ti tb) := by
  obtain ⟨wi, pi, h⟩ := hi.ex
  refine ⟨_, ps_for F.pass F.calm pi hg (pss_c (X := X) (body := body)) hs, fun m δ σ H B R n q o => h m δ σ H _ _ n q fun m J H1 ds G n1 s1 hG it hz q1 => ?_⟩
  have x := Ext.gh Z G
  have F' := F.ext x
  have hb' := hb _ F'
  have hK : X.K = (Z.gh G).K := F.K
  refine ⟨fun i w σ H => w = ds.length - i ∧ i ≤ ds.length ∧ ∃ m δ, Nv (Z.gh G) m δ σ H ∧ rLoop τ tb B (ds.drop i) m δ, ⟨ds.length, rfl, Nat.zero_le _, m, δ, n1.gh hG, q1⟩, ?_⟩
  rintro i w σ' H' ⟨rfl, hi, m', δ', n', q'⟩
  have gh : ∀ p ∈ G, Dn (Z.gh G) (OO (Z.gh G) σ' δ') H' p.1 p.2 := fun p hp => n'.gho p (List.mem_append_left _ hp)
  by_cases hlt : i < ds.length
  · have hd : ds[i]? = some ds[i] := List.getElem?_eq_getElem hlt
    obtain ⟨hgo, hy⟩ := it.go (Z.gh G) _ H' i ds[i] rfl rfl gh hd (fun a ha => n'.fresh F'.zok ha)
    rw [List.drop_eq_getElem_cons hlt] at q'
    refine .inr ⟨hgo, fun σ2 H2 => ∃ m2 δ2, Nv (Z.gh G) m2 δ2 σ2 H2 ∧ rLoop τ tb B (ds.drop (i + 1)) m2 δ2, fun σ2 H2 ⟨m2, δ2, n2, q2⟩ => ⟨ds.length - (i + 1), by omega, rfl, hlt, m2, δ2, n2, q2⟩, fun y H2 hyl => ?_⟩
    obtain ⟨sm, dx⟩ := hy y H2 hyl
    have n2 := n'.same F'.zok sm
    rw [hK]
    refine tgt_sem n2 dx q' fun δ3 σ3 n3 _ q3 pins s I => ?_
    exact hb'.run (B := { B with nx := rLoop τ tb B (ds.drop (i + 1)), ct := rLoop τ tb B (ds.drop (i + 1)), bk := B.nx })
      (R := { R with nx := fun σ2 H2 => ∃ m2 δ2, Nv (Z.gh G) m2 δ2 σ2 H2 ∧ rLoop τ tb B (ds.drop (i + 1)) m2 δ2, ct := fun σ2 H2 => ∃ m2 δ2, Nv (Z.gh G) m2 δ2 σ2 H2 ∧ rLoop τ tb B (ds.drop (i + 1)) m2 δ2, bk := R.nx }) n3 q3
      ⟨fun m4 δ4 σ4 H4 n4 q4 => ⟨m4, δ4, n4, q4⟩, fun m4 d v H4 st gi dv hr => o.rt _ d v H4 st (x.gi gi) (Dn.zs (Z := Z.gh G) (Z' := Z) rfl rfl d v dv) hr, fun m4 δ4 σ4 H4 n4 q4 => o.nx _ _ _ _ (x.nv n4) q4, fun m4 δ4 σ4 H4 n4 q4 => ⟨m4, δ4, n4, q4⟩⟩ I
  · have e : i = ds.length := by omega
    subst e
    rw [List.drop_length] at q'
    exact .inl ⟨it.stop (Z.gh G) _ H' rfl rfl gh, o.nx _ _ _ _ (x.nv n') q'⟩
/-! ### while -/
def rWhile (c : TB) (tb : TSd) : TSd := fun B m δ => ∃ W : Nat → Nat → Env → Prop, (∃ w, W w m δ) ∧ ∀ w m δ, W w m δ →
  c m δ fun m b => if b = true then tb { B with nx := fun m δ' => ∃ w', w' < w ∧ W w' m δ', ct := fun m δ' => ∃ w', w' < w ∧ W w' m δ', bk := B.nx } m δ else B.nx m δ
theorem ds_while (F : XF L Z X k ε) {c : Expr} {body : List Stmt} {tc : TB} {tb : TSd} (hc : DT Z X c tc) (hb : DSs Z X body tb) : DS Z X (.While c body [] pos) (rWhile tc tb) := by
  obtain ⟨S, p0, h0⟩ := hc.ex
  obtain ⟨T, p, h⟩ := hb.ex
  refine ⟨_, ps_while F.pass p0 p, fun m δ σ H B R n q o => ?_⟩
  obtain ⟨W, ⟨w0, hw0⟩, turn⟩ := q
  refine ⟨fun w σ H => ∃ m δ, Nv Z m δ σ H ∧ W w m δ, ⟨w0, m, δ, n, hw0⟩, ?_⟩
  rintro w σ H ⟨m, δ, n, hw⟩
  refine h0 m δ σ H _ _ n (turn w m δ hw) fun m1 b H1 n1 s1 q1 => ?_
  cases b with
  | false => exact iteF (o.nx _ _ _ _ n1 (by simpa using q1))
  | true =>
    refine iteT ⟨fun σ' H' => ∃ w', w' < w ∧ ∃ m' δ', Nv Z m' δ' σ' H' ∧ W w' m' δ', fun σ' H' z => z, ?_⟩
    exact h m1 δ σ H1 { B with nx := fun m δ' => ∃ w', w' < w ∧ W w' m δ', ct := fun m δ' => ∃ w', w' < w ∧ W w' m δ', bk := B.nx }
      { R with nx := fun σ' H' => ∃ w', w' < w ∧ ∃ m' δ', Nv Z m' δ' σ' H' ∧ W w' m' δ', ct := fun σ' H' => ∃ w', w' < w ∧ ∃ m' δ', Nv Z m' δ' σ' H' ∧ W w' m' δ', bk := R.nx } n1 (by simpa using q1)
      ⟨fun m' δ' σ' H' n' ⟨w', l, hw'⟩ => ⟨w', l, m', δ', n', hw'⟩, o.rt, o.nx, fun m' δ' σ' H' n' ⟨w', l, hw'⟩ => ⟨w', l, m', δ', n', hw'⟩⟩
end
end DL

namespace DL
open PySem L2
section
variable {L : Ls} {Z Z' : Zs} {X : Cx} {k : Nat} {ε : Nat → Str → Prop} {e : Expr} {es : List Expr} {te : TD} {tg iter elt : Expr} {ifs : List Expr} {scope : Scope} {pos : Pos} {δ : Env} {σ : L2.St} {H H' : Hp}
/-! ### comprehensions -/
/-- a clause's tests -/
structure DTs (Z : Zs) (X : Cx) (ifs : List Expr) (t : TB) : Prop where
  ex : ∃ T : TT, PTs X ifs T ∧ ∀ (m : Nat) (δ : Env) (σ : L2.St) (H : Hp) (Q : Nat → Bool → Prop) (R : Bool → Hp → Prop), Nv Z m δ σ H → t m δ Q →
    (∀ m' b H', Nv Z m' δ σ H' → Stp (zone Z) H H' → Q m' b → R b H') → T σ H R
@[simp] def rYes : TB := fun m _ Q => Q m true
theorem dts_nil : DTs Z X [] rYes := ⟨_, pts_nil, fun m δ σ H Q R n h r => r _ true H n (.refl _ _) h⟩
theorem dts_one {t : TB} (h : DT Z X e t) : DTs Z X [e] t := by
  obtain ⟨T, p, h⟩ := h.ex
  exact ⟨T, pts_one p, h⟩
theorem XF.blk (F : XF L Z X k ε) {s : Shared} {H : Hp} {cenv : PySem.Env} {fp : List Addr} : XF L Z (X.blk s H scope cenv fp) k (fun _ _ => False) :=
  ⟨F.hL, F.zok, F.K, F.nd, F.calm, F.room, PassesOwn.never, fun u s' x => by
    obtain ⟨a, B, sI, pins, σ, H, cls, d, _, _, _, _, _, _, _, _, m, c, _, _, z, _⟩ := x
    exact z.elim, F.W⟩
def rLcGo (τ : Tgt) (tt : TB) (te : TD) : List D → List D → Nat → Env → (Nat → List D → Prop) → Prop
  | [], acc, m, _, Q => Q m acc
  | d :: ds, acc, m, δ, Q => gD τ d δ fun δ2 => tt m δ2 fun m b => if b = true then te m δ2 fun m y => rLcGo τ tt te ds (acc ++ [y]) m δ Q else rLcGo τ tt te ds acc m δ Q
@[simp] def noOwn (δ : Env) (vs : List Nat) : Bool := vs.all fun i => match δ[i]? with | some (.own _) => false | _ => true
@[simp] def rLc (τ : Tgt) (vs : List Nat) (ti : TL) (tt : TB) (te : TD) : TL := fun m δ Q => noOwn δ vs = true ∧ ti m δ fun m ds => rLcGo τ tt te ds [] m (wipeE δ vs) Q
theorem wipe_idem (σ : L2.St) (vs : List Nat) : L2.wipe (L2.wipe σ vs) vs = L2.wipe σ vs := by
  have key : ∀ (us : List Nat), (∀ u ∈ us, u ∈ vs) → L2.wipe (L2.wipe σ us) vs = L2.wipe σ vs := by
    intro us
    induction us with
    | nil => intro _; rfl
    | cons u us ih =>
      intro h
      show L2.wipe ((L2.wipe σ us).set u none) vs = _
      rw [wipe_set (h u List.mem_cons_self)]
      exact ih fun v hv => h v (List.mem_cons_of_mem _ hv)
  exact key vs fun _ h => h
theorem wipeE_idem (σ : Env) (vs : List Nat) : wipeE (wipeE σ vs) vs = wipeE σ vs := by
  have key : ∀ (us : List Nat), (∀ u ∈ us, u ∈ vs) → wipeE (wipeE σ us) vs = wipeE σ vs := by
    intro us
    induction us with
    | nil => intro _; rfl
    | cons u us ih =>
      intro h
      show wipeE ((wipeE σ us).set u .no) vs = _
      rw [wipeE_set (h u List.mem_cons_self)]
      exact ih fun v hv => h v (List.mem_cons_of_mem _ hv)
  exact key vs fun _ h => h
theorem wipeE_out {δ : Env} {i : Nat} : ∀ {vs : List Nat}, i ∉ vs → (wipeE δ vs)[i]? = δ[i]?
  | [], _ => rfl
  | v :: vs, h => by
    simp only [List.mem_cons, not_or] at h
    show ((wipeE δ vs).set v .no)[i]? = _
    rw [List.getElem?_set_ne (Ne.symm h.1)]
    exact wipeE_out h.2
theorem OO_wp {us vs : List Nat} {δ2 : Env} {σ2 : L2.St} (hv : ∀ i ∈ us, i ∈ vs) (no : noOwn δ vs = true) (w : Wp us (wipeE δ vs) δ2 (L2.wipe σ vs) σ2) : ∀ a, OO Z σ δ a → OO Z σ2 δ2 a := by
  rintro a (h | ⟨i, ds, h1, h2⟩)
  · exact .inl h
  · have ni : i ∉ vs := fun hi => by
      unfold noOwn at no
      rw [List.all_eq_true] at no
      have := no i hi
      rw [h1] at this
      cases this
    refine .inr ⟨i, ds, ?_, ?_⟩
    · have q := w.e vs hv
      rw [wipeE_idem] at q
      rw [← wipeE_out (δ := δ2) ni, q, wipeE_out ni]; exact h1
    · have q := w.s vs hv
      rw [wipe_idem] at q
      rw [← wipe_out (σ := σ2) ni, q, wipe_out ni]; exact h2
def cT (Y : Shared → Hp → Addr → List (Str × Addr) → List Addr → Cx) (ifs : List Expr) : TT := fun σ H R => ∀ (s0 : Shared) (H0 : Hp) (C : Addr) (cl : List (Str × Addr)) (fp : List Addr) (pins : List (Addr × Obj)) (s : Shared), Inv (Y s0 H0 C cl fp) pins σ H s →
    wpAny (model (Y s0 H0 C cl fp).prog (Y s0 H0 C cl fp).w) (Y s0 H0 C cl fp).A (forIn ifs true fun c r => if r = true then do let ok ← isTrue c (Y s0 H0 C cl fp).env (eval c (Y s0 H0 C cl fp).env); pure (ForInStep.yield ok) else pure (ForInStep.yield r)) (TP (Y s0 H0 C cl fp) pins σ R) (Y s0 H0 C cl fp).xe s
def cE (Y : Shared → Hp → Addr → List (Str × Addr) → List Addr → Cx) (e : Expr) : TE := fun σ H R => ∀ (s0 : Shared) (H0 : Hp) (C : Addr) (cl : List (Str × Addr)) (fp : List Addr) (pins : List (Addr × Obj)) (s : Shared), Inv (Y s0 H0 C cl fp) pins σ H s →
    wpAny (model (Y s0 H0 C cl fp).prog (Y s0 H0 C cl fp).w) (Y s0 H0 C cl fp).A (eval e (Y s0 H0 C cl fp).env) (EP (Y s0 H0 C cl fp) pins σ R) (Y s0 H0 C cl fp).xe s
/-- the block's contexts -/
abbrev blkY (X : Cx) (scope : Scope) : Shared → Hp → Addr → List (Str × Addr) → List Addr → Cx := fun s H C cl fp => X.blk s H scope (compEnvC scope cl C X.env) fp
theorem lc_sem (F : XF L Z X k ε) {τ : Tgt} {vs : List Nat} {wi : TI} {tt : TB} {te : TD} {ti : TL} (hτ : ∀ i ∈ τ.is, i ∈ vs)
    (hi : ∀ (m : Nat) (δ : Env) (σ : L2.St) (H : Hp) (Q : Nat → List D → Prop) (R : It → Hp → Prop), Nv Z m δ σ H → ti m δ Q →
      (∀ m' J H1 ds G, Nv Z m' δ σ H1 → Stp (zone Z) H H1 → (∀ p ∈ G, Dn Z (OO Z σ δ) H1 p.1 p.2) → ItD Z.L Z.st J ds G → ds.length ≤ sizeLine → Q m' ds → R J H1) → wi σ H R)
    (ht : ∀ Z' s H C cl fp, XF L Z' (blkY X scope s H C cl fp) k (fun _ _ => False) → DTs Z' (blkY X scope s H C cl fp) ifs tt)
    (he : ∀ Z' s H C cl fp, XF L Z' (blkY X scope s H C cl fp) k (fun _ _ => False) → DE Z' (blkY X scope s H C cl fp) elt te)
    {m : Nat} {Q : Nat → List D → Prop} {R : VK} (n : Nv Z m δ σ H) (q : rLc τ vs ti tt te m δ Q)
    (r : ∀ m' p vs ds H', Nv (Z.plus p) m' δ σ H' → Stp (zone Z) H H' → ¬ OO Z σ δ p → Fr0 Z.H0 p → H' p = some (.lst vs) → DnL (Z.plus p) (OO (Z.plus p) σ δ) H' ds vs → ds.length ≤ sizeLine → Q m' ds → R (.ref p) H') :
    tLc wi (hT X.K τ) (cT (blkY X scope) ifs) (cE (blkY X scope) elt) vs σ H R := by
  obtain ⟨no, q⟩ := q
  refine hi m δ σ H _ _ n q fun m1 J H1 ds G n1 s1 hG it hz q1 p hp => ?_
  have hK : X.K = Z.L.K := F.K
  have np : ¬ OO Z σ δ p := n1.fresh F.zok hp
  have h0 : Fr0 Z.H0 p := n1.h0 hp
  have nzp : ¬ zone Z p := fun z => np (.inl (F.zok.zo p z))
  have xp := Ext.plus Z p h0
  have Fp := F.ext xp
  have zp : zone (Z.plus p) = zone Z := xp.zone
  -- the turn's state
  refine ⟨fun i w H2 => w = ds.length - i ∧ i ≤ ds.length ∧ ∃ mm acc ws, acc.length ≤ i ∧ Nv ((Z.plus p).gh (G ++ acc.zip ws)) mm δ σ H2 ∧ Stp (zone Z) H H2 ∧ ws.length = acc.length ∧ H2 p = some (.lst ws) ∧ rLcGo τ tt te (ds.drop i) acc mm (wipeE δ vs) Q,
    ⟨ds.length, rfl, Nat.zero_le _, m1, [], [], Nat.le_refl _, ?_, s1.trans (.same (same_upd hp)), rfl, upd_same, q1⟩, ?_⟩
  · refine (n1.plus F.zok hp).gh fun g hg => ?_
    rw [List.zip_nil_left, List.append_nil] at hg
    exact Dn.stp (.same (same_upd hp)) _ _ (Dn.plus hp (hG g hg))
  · rintro i w H2 ⟨rfl, hi, m2, acc, ws, ha, n2, s2, hw, hp2, q2⟩
    have xi : Ext (Z.plus p) ((Z.plus p).gh (G ++ acc.zip ws)) := Ext.gh _ _
    have Fi := Fp.ext xi
    have zi : zone ((Z.plus p).gh (G ++ acc.zip ws)) = zone Z := xi.zone.trans zp
    have gG : ∀ g ∈ G, Dn ((Z.plus p).gh (G ++ acc.zip ws)) (OO ((Z.plus p).gh (G ++ acc.zip ws)) σ δ) H2 g.1 g.2 := fun g hg => n2.gho g (List.mem_append_left _ (List.mem_append_left _ hg))
    by_cases hlt : i < ds.length
    · have hd : ds[i]? = some ds[i] := List.getElem?_eq_getElem hlt
      obtain ⟨hgo, hy⟩ := it.go ((Z.plus p).gh (G ++ acc.zip ws)) _ H2 i ds[i] rfl rfl gG hd (fun a ha => n2.fresh Fi.zok ha)
      rw [List.drop_eq_getElem_cons hlt] at q2
      refine .inr ⟨hgo, fun H5 => ∃ mm acc ws, acc.length ≤ i + 1 ∧ Nv ((Z.plus p).gh (G ++ acc.zip ws)) mm δ σ H5 ∧ Stp (zone Z) H H5 ∧ ws.length = acc.length ∧ H5 p = some (.lst ws) ∧ rLcGo τ tt te (ds.drop (i + 1)) acc mm (wipeE δ vs) Q, fun H5 z => ⟨ds.length - (i + 1), by omega, rfl, hlt, z⟩, fun x H3 hyl => ?_⟩
      obtain ⟨sm, dx⟩ := hy x H3 hyl
      have n3 := n2.same Fi.zok sm
      have sub0 : ∀ a, OO ((Z.plus p).gh (G ++ acc.zip ws)) (L2.wipe σ vs) (wipeE δ vs) a → OO ((Z.plus p).gh (G ++ acc.zip ws)) σ δ a := by
        rintro a (h | ⟨j, fs, h1, h2⟩)
        · exact .inl h
        · have nj : j ∉ vs := fun hj => by
            have key : ∀ (us : List Nat), j ∈ us → ∀ fs, (wipeE δ us)[j]? ≠ some (.own fs) := by
              intro us
              induction us with
              | nil => intro h; cases h
              | cons u us ih =>
                intro h fs z
                have z : ((wipeE δ us).set u .no)[j]? = some (.own fs) := z
                by_cases e : u = j
                · subst e
                  by_cases hl : u < (wipeE δ us).length
                  · rw [List.getElem?_set_self hl] at z; cases z
                  · rw [List.getElem?_eq_none (by rw [List.length_set]; omega)] at z; cases z
                · rw [List.getElem?_set_ne e] at z
                  exact ih ((List.mem_cons.mp h).resolve_left (Ne.symm e)) fs z
            exact key vs hj fs h1
          rw [wipeE_out nj] at h1
          rw [wipe_out nj] at h2
          exact .inr ⟨j, fs, h1, h2⟩
      rw [show X.K = ((Z.plus p).gh (G ++ acc.zip ws)).K from hK]
      refine tgt_sem (n3.wipe vs) (Dn.mono sub0 _ _ dx) q2 fun δ2 σ2 n4 w q3 => ⟨by rw [w.s vs hτ, wipe_idem], fun s0 H0 C cl fp pins s I => ?_⟩
      obtain ⟨TT, pT, hTt⟩ := (ht _ s0 H0 C cl fp Fi.blk).ex
      refine pT.run pins s σ2 H3 _ I (hTt _ δ2 σ2 H3 _ _ n4 q3 fun m b H4 n5 s5 q4 => ?_)
      have n3' : Nv ((Z.plus p).gh (G ++ acc.zip ws)) _ δ σ H4 := n3.go Fi.zok s5 n5.gi
      rw [zi] at s5
      have s4 := (s2.trans (.same sm)).trans s5
      have hp4 : H4 p = some (.lst ws) := s5.keep _ _ (sm _ _ hp2) (fun _ z => nomatch z) nzp
      cases b with
      | false => exact iteF ⟨_, acc, ws, Nat.le_succ_of_le ha, n3', s4, hw, hp4, by simpa using q4⟩
      | true =>
        refine iteT fun s0' H0' C' cl' fp' pins' s' I' => ?_
        refine (he _ s0' H0' C' cl' fp' Fi.blk).run n5 (by simpa using q4) (fun m y d H6 n6 s6 d6 q5 => ?_) I'
        have n7 : Nv ((Z.plus p).gh (G ++ acc.zip ws)) _ δ σ H6 := n3'.go Fi.zok s6 n6.gi
        rw [zi] at s6
        have hp6 : H6 p = some (.lst ws) := s6.keep _ _ hp4 (fun _ z => nomatch z) nzp
        have nzi : ¬ zone ((Z.plus p).gh (G ++ acc.zip ws)) p := by rw [zi]; exact nzp
        have hOp : ((Z.plus p).gh (G ++ acc.zip ws)).O p := Or.inr rfl
        have n8 := n7.poke (ys := ws ++ [y]) Fi.zok hOp nzi h0 hp6
        have d7 : Dn ((Z.plus p).gh (G ++ acc.zip ws)) (OO ((Z.plus p).gh (G ++ acc.zip ws)) σ δ) (upd H6 p (.lst (ws ++ [y]))) d y :=
          Dn.stp (.own (Or.inl hOp) hp6) d y (Dn.mono (OO_wp hτ no w) d y d6)
        have n9 := n8.gh (G := [(d, y)]) fun g hg => by cases List.mem_singleton.mp hg; exact d7
        refine ⟨ws, hp6, by rw [hw]; omega, _, acc ++ [d], ws ++ [y], by rw [List.length_append]; exact Nat.succ_le_succ ha, ?_, ?_, by rw [List.length_append, List.length_append, hw]; rfl, upd_same, q5⟩
        · refine Ext.nv (Z' := ((Z.plus p).gh (G ++ acc.zip ws)).gh [(d, y)]) ⟨rfl, rfl, rfl, fun _ h => h, fun g hg => ?_, fun _ h => .inl h⟩ n9
          rw [List.zip_append hw.symm] at hg
          show g ∈ [(d, y)] ++ ((G ++ acc.zip ws) ++ _)
          rcases List.mem_append.mp hg with hg | hg
          · rcases List.mem_append.mp hg with hg | hg
            · exact List.mem_append_right _ (List.mem_append_left _ (List.mem_append_left _ hg))
            · rcases List.mem_append.mp hg with hg | hg
              · exact List.mem_append_right _ (List.mem_append_left _ (List.mem_append_right _ hg))
              · exact List.mem_append_left _ (by simpa using hg)
          · exact List.mem_append_right _ (List.mem_append_right _ hg)
        · have hp0 : Fr0 H p := fun o z => by
            by_cases t : Nt o
            · obtain ⟨o', e, _⟩ := s1.there p o z t
              rw [hp] at e; cases e
            · exact Classical.byContradiction fun z => t fun ps e => z ⟨ps, e⟩
          exact Stp.off (s4.trans s6) fun a o e nt q => by rw [q] at e; obtain ⟨ps, z⟩ := hp0 _ e; exact nt ps z
    · have e : i = ds.length := by omega
      subst e
      rw [List.drop_length] at q2
      refine .inl ⟨it.stop ((Z.plus p).gh (G ++ acc.zip ws)) _ H2 rfl rfl gG, r _ p ws acc H2 (xi.nv n2) s2 np h0 hp2 ?_ (by omega) q2⟩
      exact DnL.zs (Z := (Z.plus p).gh (G ++ acc.zip ws)) (Z' := Z.plus p) rfl rfl acc ws (DnL.ofG hw fun g hg => n2.gho g (List.mem_append_left _ (List.mem_append_right _ hg)))
/-- [elt for tg in iter if ..] -/
theorem del_lc (F : XF L Z X k ε) (τ : Tgt) (own : List (Str × Nat)) {ti : TL} {tt : TB} {te : TD} (hi : DI Z X tg iter ti)
    (hg : ∀ s H C cl fp, (blkY X scope s H C cl fp).N.Nodup → (blkY X scope s H C cl fp).calm = true → PG (blkY X scope s H C cl fp) tg (hT X.K τ))
    (ht : ∀ Z' s H C cl fp, XF L Z' (blkY X scope s H C cl fp) k (fun _ _ => False) → DTs Z' (blkY X scope s H C cl fp) ifs tt)
    (he : ∀ Z' s H C cl fp, XF L Z' (blkY X scope s H C cl fp) k (fun _ _ => False) → DE Z' (blkY X scope s H C cl fp) elt te)
    (ok : blkC X.N X.env.scope scope own = true := by kernel_rfl) (hτ : (τ.is.all fun i => (own.map (·.2)).contains i) = true := by decide) (hs : ∀ x, foldedSetIterable iter X.env x = pure x := by intro _; rfl) :
    DEl Z X (.ListComp elt [⟨tg, iter, ifs, 0⟩] scope pos) (rLc τ (own.map (·.2)) ti tt te) := by
  obtain ⟨wi, pi, hi⟩ := hi.ex
  have hτ' : ∀ i ∈ τ.is, i ∈ own.map (·.2) := fun i h => by
    rw [List.all_eq_true] at hτ
    simpa using hτ i h
  refine ⟨_, pe_lc (tt := cT (blkY X scope) ifs) (te := cE (blkY X scope) elt) F.calm F.nd pi (blkOk_by ok) (fun s H C cl fp => hg s H C cl fp F.nd F.calm) (fun s0 H0 C cl fp => ⟨fun pins s σ H Q I h => h s0 H0 C cl fp pins s I⟩) (fun s0 H0 C cl fp => ⟨fun pins s σ H Q I h => h s0 H0 C cl fp pins s I⟩) hs, ?_⟩
  exact fun m δ σ H Q R n q r => lc_sem F hτ' hi ht he n q r
/-- x = [..], x a local on the same line -/
theorem dsl_lc (F : XF L Z X k ε) (i : Nat) (τ : Tgt) (own : List (Str × Nat)) {y : Str} {py spos : Pos} {ti : TL} {tt : TB} {te : TD} (hi : DI Z X tg iter ti)
    (hg : ∀ s H C cl fp, (blkY X scope s H C cl fp).N.Nodup → (blkY X scope s H C cl fp).calm = true → PG (blkY X scope s H C cl fp) tg (hT X.K τ))
    (ht : ∀ Z' s H C cl fp, XF L Z' (blkY X scope s H C cl fp) k (fun _ _ => False) → DTs Z' (blkY X scope s H C cl fp) ifs tt)
    (he : ∀ Z' s H C cl fp, XF L Z' (blkY X scope s H C cl fp) k (fun _ _ => False) → DE Z' (blkY X scope s H C cl fp) elt te)
    (hy : X.N[i]? = some y := by rfl) (hyl : X.env.scope.names.lookup y = some .local := by rfl) (hsw : swapsWith (.ListComp elt [⟨tg, iter, ifs, 0⟩] scope pos) (some (.Name y py)) spos.line X.env = pure true := by exact sw_true rfl rfl rfl (by decide +kernel))
    (ok : blkC X.N X.env.scope scope own = true := by kernel_rfl) (hτ : (τ.is.all fun i => (own.map (·.2)).contains i) = true := by decide) (hs : ∀ x, foldedSetIterable iter X.env x = pure x := by intro _; rfl) :
    DS Z X (.Assign [.Name y py] (.ListComp elt [⟨tg, iter, ifs, 0⟩] scope pos) spos) (rSet i (rL (rLc τ (own.map (·.2)) ti tt te))) ∧ DS Z X (.Assign [.Name y py] (.ListComp elt [⟨tg, iter, ifs, 0⟩] scope pos) spos) (rOwn i (rLc τ (own.map (·.2)) ti tt te)) := by
  obtain ⟨wi, pi, hi⟩ := hi.ex
  have hτ' : ∀ i ∈ τ.is, i ∈ own.map (·.2) := fun i h => by
    rw [List.all_eq_true] at hτ
    simpa using hτ i h
  have P := ps_setLc (i := i) (tt := cT (blkY X scope) ifs) (te := cE (blkY X scope) elt) F.calm F.nd hy hyl hsw pi (blkOk_by ok) (fun s H C cl fp => hg s H C cl fp F.nd F.calm) (fun s0 H0 C cl fp => ⟨fun pins s σ H Q I h => h s0 H0 C cl fp pins s I⟩) (fun s0 H0 C cl fp => ⟨fun pins s σ H Q I h => h s0 H0 C cl fp pins s I⟩) hs
  refine ⟨⟨_, P, fun m δ σ H B R n q o => lc_sem F hτ' hi ht he n q fun m p vs ds H' n' s np h0 hp hl z hq => ?_⟩, ⟨_, P, fun m δ σ H B R n q o => lc_sem F hτ' hi ht he n q fun m p vs ds H' n' s np h0 hp hl z hq => own_end o n' np h0 hp hl z hq⟩⟩
  have x := Ext.plus Z p h0
  exact o.nx _ _ _ H' ((x.nv n').setV (dn_lst.mpr ⟨z, p, vs, rfl, np, hp, DnL.zs (Z := Z.plus p) (Z' := Z) rfl rfl ds vs (DnL.mono (fun a h => (OO_plus a).mpr (.inl h)) ds vs hl)⟩)) hq
end
end DL

namespace DL
open PySem L2
/-! ### what a def promises -/
abbrev Spd := List D → Nat → (Nat → D → Prop) → (Nat → Str → Prop) → Prop
def prom (L : Ls) (n : Nat) (S : Spd) : Sp := fun vs H Q E => ∃ (Z : Zs) (m : Nat) (ds : List D) (Qd : Nat → D → Prop) (εd : Nat → Str → Prop),
  Z.L = L ∧ Z.H0 = H ∧ Z.G = [] ∧ ds.length = n ∧ Zok Z ∧ (∀ a, Z.O a → ∃ o, H a = some o ∧ Nt o) ∧ Gi Z m H ∧ DnL Z Z.O H ds vs ∧ S ds m Qd εd ∧
  (∀ m' d v H', Qd m' d → Stp (zone Z) H H' → Gi Z m' H' → Dn Z Z.O H' d v → Q v H') ∧ (∀ m' c H', εd m' c → Stp (zone Z) H H' → Gi Z m' H' → E (.ref (L.cls c)) none H')
theorem prom_len {L : Ls} {n : Nat} {S : Spd} {vs : List V} {H : Hp} {Q : VK} {E : XK} (h : prom L n S vs H Q E) : vs.length = n := by
  obtain ⟨Z, m, ds, Qd, εd, _, _, _, e, _, _, _, l, _⟩ := h
  rw [l.length, e]
/-- a def of the text keeps the promise S -/
structure FnD (P : Program) (w : World) (K : PySem.W.Frag) (mg : Str → Option Value) (base : Heap) (L : Ls) (k : Nat) (x : Str) (n : Nat) (S : Spd) : Prop where
  ex : ∃ (f : Addr) (fd : FuncData) (ps : List Str), ps.length = n ∧ FnOk P w K mg base (L2.CX P w) k f fd ps (prom L n S) ∧ mg x = some (.ref f) ∧ PySem.W.keepIn K (.ref f) = true ∧ Binds K fd ps []
theorem FnD.mono {P : Program} {w : World} {K : PySem.W.Frag} {mg : Str → Option Value} {base : Heap} {L : Ls} {j k : Nat} {x : Str} {n : Nat} {S : Spd} (h : FnD P w K mg base L j x n S) (hj : j ≤ k) : FnD P w K mg base L k x n S := by
  obtain ⟨f, fd, ps, h1, h2, h3⟩ := h.ex
  exact ⟨f, fd, ps, h1, h2.mono hj, h3⟩
section
variable {L : Ls} {Z Z' : Zs} {X : Cx} {k : Nat} {ε : Nat → Str → Prop} {e : Expr} {es : List Expr} {te : TD} {t : TL} {pos : Pos} {δ : Env} {σ : L2.St} {H H' : Hp}
@[simp] def rFn (n : Nat) (S : Spd) (ε : Nat → Str → Prop) (t : TL) : TD := fun m δ Q => t m δ fun m ds => ds.length = n ∧ S ds m Q ε
@[simp] def rFn0 (S : Spd) (ε : Nat → Str → Prop) : TD := fun m _ Q => S [] m Q ε
theorem OO_own : ∀ a, Z.O a → OO Z σ δ a := fun _ h => .inl h
/-- the call's promise, from the caller's state -/
theorem prom_at (F : XF L Z X k ε) {S : Spd} {n : Nat} {ds : List D} {vs : List V} {m : Nat} {Q : Nat → D → Prop} {R : VK} (nv : Nv Z m δ σ H) (hl : DnL Z (OO Z σ δ) H ds vs) (hn : ds.length = n) (h : S ds m Q ε)
    (q : ∀ m' v d H', Nv Z m' δ σ H' → Stp (zone Z) H H' → Dn Z (OO Z σ δ) H' d v → Q m' d → R v H') :
    prom L n S vs H R (fun cls d H' => ∃ m c, cls = .ref (Z.cls c) ∧ d = none ∧ ε m c ∧ Stp (zone Z) Z.H0 H' ∧ Gi Z m H') := by
  refine ⟨⟨L, Z.st, OO Z σ δ, H, []⟩, m, ds, Q, ε, rfl, rfl, rfl, hn, ⟨fun a h => .inl (F.zok.zo a h), ⟨m, ?_⟩, fun s g c e h => ?_⟩, fun a h => nv.trk' F.zok h, ⟨by have := nv.gi.tabs; rw [Zs.T, F.hL] at this; exact this, nv.gi.rng⟩, DnL.zs (Z := Z) (Z' := ⟨L, Z.st, OO Z σ δ, H, []⟩) F.hL.symm rfl ds vs hl, h, fun m' d v H' hq st gi dv => ?_, fun m' c H' hc st gi => ?_⟩
  · exact ⟨by have := nv.gi.tabs; rw [Zs.T, F.hL] at this; exact this, nv.gi.rng⟩
  · rcases h with h | ⟨i, ds, h1, h2⟩
    · exact F.zok.cO s g c e h
    · obtain ⟨a, vs, h3, _, _, _, h5, _⟩ := nv.own i ds h1
      rw [h2] at h3; cases h3
      obtain ⟨gs, cs, l, t, _, _, h6, _⟩ := F.zok.rex e
      obtain ⟨_, z⟩ := h5 _ h6; cases z
  · have g' : Gi Z m' H' := ⟨by have := gi.tabs; rw [Zs.T, F.hL]; exact this, gi.rng⟩
    exact q _ v d H' (nv.go F.zok st g') st (Dn.zs (Z' := Z) (Z := ⟨L, Z.st, OO Z σ δ, H, []⟩) F.hL rfl d v dv) hq
  · have g' : Gi Z m' H' := ⟨by have := gi.tabs; rw [Zs.T, F.hL]; exact this, gi.rng⟩
    exact ⟨m', c, by rw [Zs.cls, F.hL], rfl, hc, nv.stp.trans st, g'⟩
theorem de_call (F : XF L Z X k ε) {S : Spd} {n : Nat} {x : Str} {p : Pos} (f : FnD X.prog X.w X.K X.mg X.base L k x n S) (ha : DA Z X (e :: es) t) (hn : (e :: es).length = n := by rfl) (hg : Gl X x := by rfl) (hdb : (x == ("__debug__" : Str)) = false := by decide)
    (hs : starEach (e :: es) X.env = (false, eval e X.env) :: starEach es X.env := by rfl) (hpl : (backTo pos (starEach es X.env)).any (·.1) = false := by rfl) : DE Z X (.Call (.Name x p) (e :: es) [] pos) (rFn n S ε t) := by
  obtain ⟨a, fd, ps, hp, ok, mg, kp, b⟩ := f.ex
  obtain ⟨T, pa, h⟩ := ha.ex
  refine ⟨_, pe_call ok F.room hg mg kp b .nil (passes_call F.tk fun _ _ _ _ h => h) pa hdb hs hpl, fun m δ σ H Q R n' q r => h m δ σ H _ _ n' q fun m vs ds H1 n1 s1 d1 g1 => ?_⟩
  rw [List.append_nil]
  exact prom_at F n1 d1 g1.1 g1.2 fun m v d H' n2 s2 dv hq => r _ v d H' n2 (s1.trans s2) dv hq
theorem de_call0 (F : XF L Z X k ε) {S : Spd} {x : Str} {p : Pos} (f : FnD X.prog X.w X.K X.mg X.base L k x 0 S) (hg : Gl X x := by rfl) (hdb : (x == ("__debug__" : Str)) = false := by decide) : DE Z X (.Call (.Name x p) [] [] pos) (rFn0 S ε) := by
  obtain ⟨a, fd, ps, hp, ok, mg, kp, b⟩ := f.ex
  refine ⟨_, pe_call0 ok F.room hg mg kp b .nil (passes_call F.tk fun _ _ _ _ h => h) hdb, fun m δ σ H Q R n' q r => ?_⟩
  exact prom_at F n' .nil rfl q r
/-! ### raise -/
structure ExD (K : PySem.W.Frag) (mg : Str → Option Value) (L : Ls) (c : Str) : Prop where
  x : PySem.W.excIn K (L.cls c) [.type "ValueError", .type "Exception", .type "BaseException", .type "object"] "ValueError.__new__" = true
  g : mg c = some (.ref (L.cls c))
  k : PySem.W.keepIn K (.ref (L.cls c)) = true
  b : PySem.W.subIn K (.ref (L.cls c)) (.type "BaseException") = some true
  t : PySem.W.typeIn K (.ref (L.cls c)) = some (.type "type")
@[simp] def rRaise (ε : Nat → Str → Prop) (c : Str) : TSd := fun _ m _ => ε m c
theorem ds_raise (F : XF L Z X k ε) {c m : Str} {j : Nat} {p p2 p3 : Pos} (E : ExD X.K X.mg L c) (hg : Gl X c := by rfl) (hdb : (c == ("__debug__" : Str)) = false := by decide) : DS Z X (.Raise (some (.Call (.Name c p) [.Constant (.str m) j p2] [] p3)) none pos) (rRaise ε c) := by
  refine ⟨_, ps_raise F.calm F.tk (pmk_own PySem.F.excBase_ValueError E.x E.g E.k (raises_own E.b E.t) hg hdb), fun m δ σ H B R n q o => ?_⟩
  exact ⟨_, c, by rw [Zs.cls, F.hL], rfl, q, n.stp, n.gi⟩
end
/-! ### a def -/
@[simp] def params (N : List Str) (ds : List D) : Env := ds.map Slot.val ++ List.replicate (N.length - ds.length) .no
theorem start_nv {Z : Zs} {N : List Str} {ds : List D} {vs : List V} {H : Hp} (hH : Z.H0 = H) (hG : Z.G = []) (z : Zok Z) (trk : ∀ a, Z.O a → ∃ o, H a = some o ∧ Nt o) (gi : Gi Z m H) (l : DnL Z Z.O H ds vs) : Nv Z m (params N ds) (L2.start N vs) H := by
  have noown : ∀ (i : Nat) (es : List D), (params N ds)[i]? ≠ some (.own es) := fun i es h => by
    have := List.mem_of_getElem? h
    unfold params at this
    rcases List.mem_append.mp this with h | h
    · obtain ⟨d, _, e⟩ := List.mem_map.mp h
      cases e
    · have := List.eq_of_mem_replicate h
      cases this
  have eO : ∀ a, OO Z (L2.start N vs) (params N ds) a → Z.O a := by
    rintro a (h | ⟨i, es, h1, h2⟩)
    · exact h
    · exact (noown i es h1).elim
  refine ⟨?_, fun i d h => ?_, fun i es h => (noown i es h).elim, fun i j es fs a h => (noown i es h).elim, gi, by rw [hH]; exact .refl _ _, trk, fun p hp => by rw [hG] at hp; cases hp⟩
  · unfold L2.start params
    rw [List.length_append, List.length_append, List.length_map, List.length_map, List.length_replicate, List.length_replicate, l.length]
  · unfold params at h
    by_cases hi : i < ds.length
    · rw [List.getElem?_append_left (by rw [List.length_map]; exact hi), List.getElem?_map] at h
      cases q : ds[i]? with
      | none => rw [q] at h; cases h
      | some c =>
        rw [q] at h
        have e : c = d := by
          have h : some (Slot.val c) = some (Slot.val d) := h
          cases h; rfl
        subst e
        obtain ⟨v, hv, dv⟩ := l.get q
        refine ⟨v, ?_, Dn.mono eO c v dv⟩
        unfold L2.start
        rw [List.getElem?_append_left (by rw [List.length_map, l.length]; exact hi), List.getElem?_map, hv]
        rfl
    · rw [List.getElem?_append_right (by rw [List.length_map]; omega)] at h
      have := List.eq_of_mem_replicate (List.mem_of_getElem? h)
      cases this
section
variable {P : Program} {w : World} {K : PySem.W.Frag} {mg : Str → Option Value} {base : Heap} {L : Ls}
/-- a def's body keeps its promise -/
theorem def_body {x qual : Str} {st : Stmt} {f : Addr} {N ps : List Str} {k n : Nat} {S : Spd} {cdv : Value} {A : Around} {outer : List PySem.Env} {s : Shared} {H : Hp} {vs : List V} {Q : VK} {E : XK} (hK : L.K = K ∧ L.w = w) (Sc : FnScope N ps (defScope st))
    (hr : Room k (cxOf (L2.CX P w) P w K mg base N qual (defScope st) f cdv A outer s H E).A)
    (body : ∀ (Z : Zs) (ε : Nat → Str → Prop), Z.H0 = H → XF L Z (cxOf (L2.CX P w) P w K mg base N qual (defScope st) f cdv A outer s H E) k ε →
      ∃ t, DSs Z (cxOf (L2.CX P w) P w K mg base N qual (defScope st) f cdv A outer s H E) (defBody st) t ∧ ∀ ds m Q, ds.length = n → S ds m Q ε → t { nx := fun m _ => Q m .non, rt := Q } m (params N ds)) (h : prom L n S vs H Q E) :
    ∃ t, PSs (cxOf (L2.CX P w) P w K mg base N qual (defScope st) f cdv A outer s H E) (defBody st) t ∧ t { nx := fun _ H' => Q .non H', rt := Q } (L2.start N vs) H := by
  obtain ⟨Z, m, ds, Qd, εd, hL, hH, hG, hl, zk, trk, gi, l, hS, hq, he⟩ := h
  have F' : XF L Z (cxOf (L2.CX P w) P w K mg base N qual (defScope st) f cdv A outer s H E) k εd := by
    refine ⟨hL, zk, by show K = Z.L.K; rw [hL]; exact hK.1.symm, Sc.nd, rfl, hr, passes_of rfl, ?_, by show w = Z.L.w; rw [hL]; exact hK.2.symm⟩
    refine Takes.imp (takes_of rfl rfl rfl rfl) fun cls d σ H' hh => ?_
    obtain ⟨m', c, rfl, rfl, hc, st', gi⟩ := hh
    have st'' := st'
    rw [hH] at st''
    rw [Zs.cls, hL]
    exact he _ c H' hc st'' gi
  obtain ⟨t, ht, imp⟩ := body Z εd hH F'
  obtain ⟨T, p, sem⟩ := ht.ex
  refine ⟨T, p, sem _ _ _ _ { nx := fun m _ => Qd m .non, rt := Qd } _ (start_nv hH hG zk trk gi l) (imp ds m Qd hl hS) ⟨fun m δ σ H' n' q => ?_, fun m d v H' st' gi dv q => ?_, fun _ _ _ _ _ z => z.elim, fun _ _ _ _ _ z => z.elim⟩⟩
  · have st' := n'.stp
    rw [hH] at st'
    exact hq _ .non .non H' q st' n'.gi (dn_non.mpr rfl)
  · rw [hH] at st'
    exact hq _ d v H' q st' gi dv
/-- THE RULE for a def: its body by the layer's rules, and that its reading follows from the promise -/
theorem def_ok {x qual : Str} {st : Stmt} {f : Addr} {fd : FuncData} {N ps : List Str} {k n : Nat} {S : Spd} (hK : L.K = K ∧ L.w = w) (F : Fun K x qual st f fd) (Sc : FnScope N ps (defScope st)) (hn : ps.length = n)
    (body : ∀ (cdv : Value) (A : Around) (outer : List PySem.Env) (s : Shared) (H : Hp) (E : XK) (Z : Zs) (ε : Nat → Str → Prop), Z.H0 = H → Room k (cxOf (L2.CX P w) P w K mg base N qual (defScope st) f cdv A outer s H E).A →
      XF L Z (cxOf (L2.CX P w) P w K mg base N qual (defScope st) f cdv A outer s H E) k ε →
      ∃ t, DSs Z (cxOf (L2.CX P w) P w K mg base N qual (defScope st) f cdv A outer s H E) (defBody st) t ∧ ∀ ds m Q, ds.length = n → S ds m Q ε → t { nx := fun m _ => Q m .non, rt := Q } m (params N ds)) :
    FnOk P w K mg base (L2.CX P w) (k + 1) f fd ps (prom L n S) :=
  F.okX Sc (fun vs H Q E h => (prom_len h).trans hn.symm) fun cdv A outer s H vs Q E hr h => def_body (x := x) hK Sc hr (fun Z ε hH F' => body cdv A outer s H E Z ε hH hr F') h
/-- a def and its code object -/
structure FunC (K : PySem.W.Frag) (x qual : Str) (st : Stmt) (f : Addr) (fd : FuncData) (c : Addr) : Prop where
  ex : ∃ (oc : Value) (od : Option Addr) (kV doc pm : Value) (an : Option Addr) (ct : Value) (osl : Array (Option Value)),
    fd = PySem.W.fnOf x qual (defArgs st) (defBody st) (defScope st) .none kV doc pm an (.ref c) ct ∧ K.lookup f = some ⟨oc, od, .func fd, osl⟩ ∧ PySem.W.codeIn K (.ref c) qual = true
  kp : PySem.W.keepIn K (.ref f) = true
theorem FunC.fu {x qual : Str} {st : Stmt} {f c : Addr} {fd : FuncData} (F : FunC K x qual st f fd c) : Fun K x qual st f fd := by
  obtain ⟨oc, od, kV, doc, pm, an, ct, osl, h1, h2, h3⟩ := F.ex
  exact ⟨⟨oc, od, kV, doc, pm, an, .ref c, ct, osl, h1, h2, h3⟩, F.kp⟩
/-- .. of a def that makes lambdas -/
theorem def_okC {x qual : Str} {st : Stmt} {f c : Addr} {fd : FuncData} {N ps : List Str} {k n : Nat} {S : Spd} (hK : L.K = K ∧ L.w = w) (F : FunC K x qual st f fd c) (Sc : FnScope N ps (defScope st)) (hn : ps.length = n)
    (body : ∀ (A : Around) (outer : List PySem.Env) (s : Shared) (H : Hp) (E : XK) (Z : Zs) (ε : Nat → Str → Prop), Z.H0 = H → Room k (cxOf (L2.CX P w) P w K mg base N qual (defScope st) f (.ref c) A outer s H E).A →
      XF L Z (cxOf (L2.CX P w) P w K mg base N qual (defScope st) f (.ref c) A outer s H E) k ε →
      ∃ t, DSs Z (cxOf (L2.CX P w) P w K mg base N qual (defScope st) f (.ref c) A outer s H E) (defBody st) t ∧ ∀ ds m Q, ds.length = n → S ds m Q ε → t { nx := fun m _ => Q m .non, rt := Q } m (params N ds)) :
    FnOk P w K mg base (L2.CX P w) (k + 1) f fd ps (prom L n S) := by
  obtain ⟨oc, od, kV, doc, pm, an, ct, osl, rfl, lk, hcd⟩ := F.ex
  exact fn_of lk hcd Sc (fun vs H Q E h => (prom_len h).trans hn.symm) fun A outer s H vs Q E hr h => def_body (x := x) hK Sc hr (fun Z ε hH F' => body A outer s H E Z ε hH hr F') h
theorem fnD_of {x : Str} {st : Stmt} {f : Addr} {fd : FuncData} {ps : List Str} {k n : Nat} {S : Spd} (F : Fun K x x st f fd) (hn : ps.length = n) (ok : FnOk P w K mg base (L2.CX P w) k f fd ps (prom L n S)) (hm : mg x = some (.ref f))
    (b : Binds K fd ps []) : FnD P w K mg base L k x n S := ⟨f, fd, ps, hn, ok, hm, F.kp, b⟩
end
end DL

namespace DL
open PySem L2
section
variable {L : Ls} {Z Z' : Zs} {X : Cx} {k : Nat} {ε : Nat → Str → Prop} {e : Expr} {es : List Expr} {te : TD} {t : TL} {pos : Pos} {δ : Env} {σ : L2.St} {H H' : Hp}
/-! ### operators by their names -/
@[simp] def dSub : D → D → (D → Prop) → Prop
  | .int i, .int j, Q => Q (.int (i - j))
  | _, _, _ => False
@[simp] def dFdiv : D → D → (D → Prop) → Prop
  | .int i, .int j, Q => CDivN i j ∧ Q (.int (i.fdiv j))
  | _, _, _ => False
@[simp] def dMod : D → D → (D → Prop) → Prop
  | .int i, .int j, Q => j ≠ 0 ∧ Q (.int (i.fmod j))
  | _, _, _ => False
@[simp] def dPow : D → D → (D → Prop) → Prop
  | .int i, .int j, Q => CPow i j ∧ Q (.int (i ^ j.toNat))
  | _, _, _ => False
@[simp] def dLe : D → D → (D → Prop) → Prop
  | .int i, .int j, Q => Q (.bl (decide (i ≤ j)))
  | _, _, _ => False
@[simp] def dGt : D → D → (D → Prop) → Prop
  | .int i, .int j, Q => Q (.bl (decide (j < i)))
  | _, _, _ => False
@[simp] def dGe : D → D → (D → Prop) → Prop
  | .int i, .int j, Q => Q (.bl (decide (j ≤ i)))
  | _, _, _ => False
theorem o_sub : BinD Z X (binaryOp .Sub) dSub := b_sub.imp fun d e Q h => by
  unfold dSub at h; split at h
  · exact ⟨trivial, h⟩
  · exact h.elim
theorem o_fdiv : BinD Z X (binaryOp .FloorDiv) dFdiv := b_fdiv.imp fun d e Q h => by
  unfold dFdiv at h; split at h
  · exact h
  · exact h.elim
theorem o_mod : BinD Z X (binaryOp .Mod) dMod := b_mod.imp fun d e Q h => by
  unfold dMod at h; split at h
  · exact h
  · exact h.elim
theorem o_pow : BinD Z X (binaryOp .Pow) dPow := b_pow.imp fun d e Q h => by
  unfold dPow at h; split at h
  · exact h
  · exact h.elim
theorem o_le : BinD Z X (compareOp .LtE) dLe := c_leI.imp fun d e Q h => by
  unfold dLe at h; split at h
  · exact ⟨trivial, h⟩
  · exact h.elim
theorem o_gt : BinD Z X (compareOp .Gt) dGt := c_gtI.imp fun d e Q h => by
  unfold dGt at h; split at h
  · exact ⟨trivial, h⟩
  · exact h.elim
theorem o_ge : BinD Z X (compareOp .GtE) dGe := c_geI.imp fun d e Q h => by
  unfold dGe at h; split at h
  · exact ⟨trivial, h⟩
  · exact h.elim
/-- in, not in, of flat things -/
@[simp] def D.fl : D → Bool
  | .non | .bl _ | .int _ | .str _ => true
  | _ => false
@[simp] def dIn : D → D → (D → Prop) → Prop
  | d, .tup ds, Q => d.fl = true ∧ ds.all D.fl = true ∧ Q (.bl (ds.any fun c => c.eqv d))
  | d, .lst ds, Q => d.fl = true ∧ ds.all D.fl = true ∧ Q (.bl (ds.any fun c => c.eqv d))
  | _, _, _ => False
@[simp] def dNin : D → D → (D → Prop) → Prop
  | d, .tup ds, Q => d.fl = true ∧ ds.all D.fl = true ∧ Q (.bl (!ds.any fun c => c.eqv d))
  | d, .lst ds, Q => d.fl = true ∧ ds.all D.fl = true ∧ Q (.bl (!ds.any fun c => c.eqv d))
  | _, _, _ => False
theorem fl_of {P : Addr → Prop} {d : D} {v : V} (h : Dn Z P H d v) (f : d.fl = true) : flatV v = true := by
  cases d <;> simp only [D.fl] at f <;> first | cases f | skip
  · rw [dn_non.mp h]; rfl
  · rw [dn_bl.mp h]; rfl
  · rw [dn_int.mp h]; rfl
  · rw [dn_str.mp h]; rfl
theorem eqv_of {P : Addr → Prop} {d c : D} {v w : V} (h : Dn Z P H d v) (h' : Dn Z P H c w) (f : d.fl = true) (f' : c.fl = true) : eqV w v = c.eqv d := by
  cases d <;> simp only [D.fl] at f <;> first | cases f | skip
  all_goals
    cases c <;> simp only [D.fl] at f' <;> first | cases f' | skip
  all_goals
    first | rw [dn_non.mp h] | rw [dn_bl.mp h] | rw [dn_int.mp h] | rw [dn_str.mp h]
    first | rw [dn_non.mp h'] | rw [dn_bl.mp h'] | rw [dn_int.mp h'] | rw [dn_str.mp h']
    first | rfl | simp [eqV, D.eqv, D.py, PyData.eqv]
theorem fls_of {P : Addr → Prop} : ∀ {ds : List D} {vs : List V}, DnL Z P H ds vs → ds.all D.fl = true → vs.all flatV = true
  | [], vs, h, f => by rw [h.of_nil]; rfl
  | d :: ds, vs, h, f => by
    obtain ⟨v, r, rfl, h1, h2⟩ := h.of_cons
    rw [List.all_cons, Bool.and_eq_true] at f ⊢
    exact ⟨fl_of h1 f.1, fls_of h2 f.2⟩
theorem in_of {P : Addr → Prop} {d : D} {v : V} (h : Dn Z P H d v) (f : d.fl = true) : ∀ {ds : List D} {vs : List V}, DnL Z P H ds vs → ds.all D.fl = true → inV v vs = ds.any fun c => c.eqv d
  | [], vs, l, g => by rw [l.of_nil]; rfl
  | c :: ds, vs, l, g => by
    obtain ⟨w, r, rfl, h1, h2⟩ := l.of_cons
    rw [List.all_cons, Bool.and_eq_true] at g
    show (eqV w v || inV v r) = (c.eqv d || ds.any fun c => c.eqv d)
    rw [eqv_of h h1 f g.1, in_of h f h2 g.2]
theorem o_in (hK : X.K = Z.K) : BinD Z X (compareOp .In) dIn := by
  refine ⟨_, op_in_seq, fun P H x y d e Q R hp hd he h q => ?_⟩
  unfold dIn at h
  split at h
  · obtain ⟨f, g, hq⟩ := h
    obtain ⟨_, a, vs, rfl, t, l⟩ := dn_tupT he
    refine ⟨a, vs, rfl, .inr (by rw [hK]; exact t), fl_of hd f, fls_of l g, ?_⟩
    rw [if_neg (by decide), in_of hd f l g]
    exact q _ _ H (Same.refl _) (dn_bl.mpr rfl) hq
  · obtain ⟨f, g, hq⟩ := h
    obtain ⟨_, a, vs, rfl, p, t, l⟩ := dn_lst.mp he
    refine ⟨a, vs, rfl, .inl (.inl (.inl t)), fl_of hd f, fls_of l g, ?_⟩
    rw [if_neg (by decide), in_of hd f l g]
    exact q _ _ H (Same.refl _) (dn_bl.mpr rfl) hq
  · exact h.elim
theorem o_nin (hK : X.K = Z.K) : BinD Z X (compareOp .NotIn) dNin := by
  refine ⟨_, op_notIn_seq, fun P H x y d e Q R hp hd he h q => ?_⟩
  unfold dNin at h
  split at h
  · obtain ⟨f, g, hq⟩ := h
    obtain ⟨_, a, vs, rfl, t, l⟩ := dn_tupT he
    refine ⟨a, vs, rfl, .inr (by rw [hK]; exact t), fl_of hd f, fls_of l g, ?_⟩
    rw [if_pos rfl, in_of hd f l g]
    exact q _ _ H (Same.refl _) (dn_bl.mpr rfl) hq
  · obtain ⟨f, g, hq⟩ := h
    obtain ⟨_, a, vs, rfl, p, t, l⟩ := dn_lst.mp he
    refine ⟨a, vs, rfl, .inl (.inl (.inl t)), fl_of hd f, fls_of l g, ?_⟩
    rw [if_pos rfl, in_of hd f l g]
    exact q _ _ H (Same.refl _) (dn_bl.mpr rfl) hq
  · exact h.elim
/-! ### an own list, read -/
@[simp] def rBrw (i : Nat) (t : TD) : TD := fun m δ Q => match δ[i]? with | some (.own ds) => t m (δ.set i (.val (.lst ds))) fun m d => d.flat = true ∧ Q m d | _ => False
@[simp] def rBrwT (i : Nat) (t : TB) : TB := fun m δ Q => match δ[i]? with | some (.own ds) => t m (δ.set i (.val (.lst ds))) Q | _ => False
theorem Nv.thaw {i : Nat} {ds : List D} (n : Nv Z m δ σ H) (z : Zok Z) (hi : δ[i]? = some (.own ds)) (n' : Nv Z m' (δ.set i (.val (.lst ds))) σ H') (s : Stp (zone Z) H H') : Nv Z m' δ σ H' := n.go z s n'.gi
theorem de_brw (F : XF L Z X k ε) (i : Nat) (h : DE Z X e te) : DE Z X e (rBrw i te) := by
  obtain ⟨T, p, h⟩ := h.ex
  refine ⟨T, p, fun m δ σ H Q R n g q => ?_⟩
  unfold rBrw at g
  split at g
  · rename_i ds hi
    exact h _ _ σ H _ R (n.freeze hi) g fun m v d H' n' s dv hq => q _ v d H' (n.thaw F.zok hi n' s) s (Dn.flat d v hq.1 dv) hq.2
  · exact g.elim
theorem dt_brw (F : XF L Z X k ε) (i : Nat) {t : TB} (h : DT Z X e t) : DT Z X e (rBrwT i t) := by
  obtain ⟨T, p, h⟩ := h.ex
  refine ⟨T, p, fun m δ σ H Q R n g q => ?_⟩
  unfold rBrwT at g
  split at g
  · rename_i ds hi
    exact h _ _ σ H _ R (n.freeze hi) g fun m b H' n' s hq => q _ b H' (n.thaw F.zok hi n' s) s hq
  · exact g.elim
end
end DL

namespace DL
open PySem L2
/-! ### the law's random state -/
abbrev kG : Key := Sum.inr ("great" : Str)
abbrev kC : Key := Sum.inr ("cells" : Str)
abbrev kL : Key := Sum.inr ("left" : Str)
abbrev kT : Key := Sum.inr ("turn" : Str)
theorem n_gc : ¬ kG = kC := fun e => absurd (Sum.inr.inj e) (by decide +kernel)
theorem n_gl : ¬ kG = kL := fun e => absurd (Sum.inr.inj e) (by decide +kernel)
theorem n_gt : ¬ kG = kT := fun e => absurd (Sum.inr.inj e) (by decide +kernel)
theorem n_cl : ¬ kC = kL := fun e => absurd (Sum.inr.inj e) (by decide +kernel)
theorem n_ct : ¬ kC = kT := fun e => absurd (Sum.inr.inj e) (by decide +kernel)
theorem n_lt : ¬ kL = kT := fun e => absurd (Sum.inr.inj e) (by decide +kernel)
def rsD (g c : Addr) (l t : Int) : List (Key × V) := [(kG, .ref g), (kC, .ref c), (kL, .int l), (kT, .int t)]
theorem rs_g (g c : Addr) (l t : Int) : valV (rsD g c l t) kG = some (.ref g) := valV_pos rfl
theorem rs_c (g c : Addr) (l t : Int) : valV (rsD g c l t) kC = some (.ref c) := (valV_neg n_gc).trans (valV_pos rfl)
theorem rs_l (g c : Addr) (l t : Int) : valV (rsD g c l t) kL = some (.int l) := (valV_neg n_gl).trans ((valV_neg n_cl).trans (valV_pos rfl))
theorem rs_t (g c : Addr) (l t : Int) : valV (rsD g c l t) kT = some (.int t) := (valV_neg n_gt).trans ((valV_neg n_ct).trans ((valV_neg n_lt).trans (valV_pos rfl)))
theorem rs_putL (g c : Addr) (l t l' : Int) : putK (rsD g c l t) kL (.int l') = rsD g c l' t := by
  unfold putK rsD
  have h1 : ¬ kT = kL := fun e => n_lt e.symm
  simp only [List.any_cons, List.any_nil, List.map_cons, List.map_nil, n_gl, n_cl, h1, if_true, if_false, decide_false, decide_true, Bool.or_false, Bool.false_or, Bool.true_or]
theorem rs_putT (g c : Addr) (l t t' : Int) : putK (rsD g c l t) kT (.int t') = rsD g c l t' := by
  unfold putK rsD
  simp only [List.any_cons, List.any_nil, List.map_cons, List.map_nil, n_gt, n_ct, n_lt, if_true, if_false, decide_false, decide_true, Bool.or_false, Bool.false_or, Bool.true_or]
section
variable {L : Ls} {Z Z' : Zs} {X : Cx} {k : Nat} {ε : Nat → Str → Prop} {e b : Expr} {te tb : TD} {pos : Pos} {δ : Env} {σ : L2.St} {H H' : Hp} {s g c : Addr} {l t : Int} {gs cs : List Int}
structure RO (s g c : Addr) (gs cs : List Int) (l t : Int) (m : Nat) (H : Hp) : Prop where
  hs : H s = some (.dK (rsD g c l t))
  hg : H g = some (.lst (gs.map V.int))
  hc : H c = some (.lst (cs.map V.int))
  g0 : ∀ x ∈ gs, 0 ≤ x
  c0 : ∀ x ∈ cs, 0 ≤ x
  l0 : 0 ≤ l
  t0 : 0 ≤ t
  gn : gs.length ≤ 63
  cn : cs.length ≤ 63
  gc : g ≠ c
  tm : t ≤ (m : Int)
theorem RO.ok (r : RO s g c gs cs l t m H) : RngOk s g c m H := ⟨gs, cs, l, t, r.hs, r.hg, r.hc, r.g0, r.c0, r.l0, r.t0, r.gn, r.cn, r.gc, r.tm⟩
theorem RngOk.ro (r : RngOk s g c m H) : ∃ gs cs l t, RO s g c gs cs l t m H := by
  obtain ⟨gs, cs, l, t, h1, h2, h3, h4, h5, h6, h7, h8, h9, h10, h11⟩ := r.ex
  exact ⟨gs, cs, l, t, h1, h2, h3, h4, h5, h6, h7, h8, h9, h10, h11⟩
theorem RO.same (r : RO s g c gs cs l t m H) (sm : Same H H') : RO s g c gs cs l t m H' := ⟨sm _ _ r.hs, sm _ _ r.hg, sm _ _ r.hc, r.g0, r.c0, r.l0, r.t0, r.gn, r.cn, r.gc, r.tm⟩
theorem RO.sg (r : RO s g c gs cs l t m H) : s ≠ g := ne_of r.hs r.hg (by intro z; cases z)
theorem RO.sc (r : RO s g c gs cs l t m H) : s ≠ c := ne_of r.hs r.hc (by intro z; cases z)
theorem rng_of {P : Addr → Prop} {v : V} (gi : Gi Z m H) (h : Dn Z P H .rng v) : ∃ s g c gs cs l t, Z.st = some (s, g, c) ∧ v = .ref s ∧ RO s g c gs cs l t m H := by
  unfold Dn at h
  obtain ⟨s, g, c, e, rfl⟩ := h
  obtain ⟨gs, cs, l, t, r⟩ := (gi.rng s g c e).ro
  exact ⟨s, g, c, gs, cs, l, t, e, rfl, r⟩
theorem tab_neK {a : Addr} {kvs : List (Key × V)} {q : Str} {P : Addr} {o' : HO} (h : H a = some (.dK kvs)) (t : LamX.TabS H P q) : LamX.TabS (upd H a o') P q := by
  obtain ⟨ps, h1, h2, h3⟩ := t
  refine ⟨ps, by rw [upd_ne (ne_of h1 h (by intro z; cases z))]; exact h1, h2, fun pos cv hc => ?_⟩
  obtain ⟨c, e1, e2⟩ := h3 pos cv hc
  exact ⟨c, e1, by rw [upd_ne (ne_of e2 h (by intro z; unfold LamX.CodeO at z; cases z))]; exact e2⟩
theorem Stp.ownK {P : Addr → Prop} {a : Addr} {xs : List (Key × V)} {o : HO} (pa : P a) (h : H a = some (.dK xs)) (nt : Nt o := by intro _ z; cases z) : Stp P H (upd H a o) :=
  ⟨fun c u e _ p => by rw [upd_ne (fun z => p (by rw [z]; exact pa))]; exact e, fun c ys e => by rw [upd_ne (ne_of e h (by intro z; cases z))]; exact e,
    fun c ob u e => by rw [upd_ne (ne_of e h (by intro z; cases z))]; exact e, fun c u e n => by
      by_cases q : c = a
      · subst q; exact ⟨o, upd_same, nt⟩
      · exact ⟨u, by rw [upd_ne q]; exact e, n⟩⟩
/-- the dict changes -/
theorem st_put (r : RO s g c gs cs l t m H) (hst : Z.st = some (s, g, c)) (gi : Gi Z m H) {m' : Nat} {l' t' : Int} (hl : 0 ≤ l') (ht : 0 ≤ t') (htm : t' ≤ (m' : Int)) : Stp (zone Z) H (upd H s (.dK (rsD g c l' t'))) ∧ Gi Z m' (upd H s (.dK (rsD g c l' t'))) := by
  refine ⟨.ownK ⟨s, g, c, hst, .inl rfl⟩ r.hs, fun p hp => tab_neK r.hs (gi.tabs p hp), fun s' g' c' e => ?_⟩
  rw [hst] at e; cases e
  exact RO.ok ⟨upd_same, by rw [upd_ne r.sg.symm]; exact r.hg, by rw [upd_ne r.sc.symm]; exact r.hc, r.g0, r.c0, hl, ht, r.gn, r.cn, r.gc, htm⟩
/-- the list of great numbers changes -/
theorem st_pop {x : Int} (r : RO s g c (x :: gs) cs l t m H) (hst : Z.st = some (s, g, c)) (gi : Gi Z m H) : Stp (zone Z) H (upd H g (.lst (gs.map V.int))) ∧ Gi Z m (upd H g (.lst (gs.map V.int))) := by
  refine ⟨.own ⟨s, g, c, hst, .inr rfl⟩ r.hg, fun p hp => tab_ne r.hg (gi.tabs p hp), fun s' g' c' e => ?_⟩
  rw [hst] at e; cases e
  exact RO.ok ⟨by rw [upd_ne r.sg]; exact r.hs, upd_same, by rw [upd_ne r.gc.symm]; exact r.hc, fun y hy => r.g0 y (List.mem_cons_of_mem _ hy), r.c0, r.l0, r.t0, by have := r.gn; simp at this; omega, r.cn, r.gc, r.tm⟩
/-- state['left'], state['turn']: some number from 0 on -/
@[simp] def rStInt (i : Nat) : TD := fun m δ Q => δ[i]? = some (.val .rng) ∧ ∀ n : Int, 0 ≤ n → Q m (.int n)
theorem de_stL (F : XF L Z X k ε) (i : Nat) {x : Str} {p1 p2 : Pos} {j : Nat} (hN : X.N[i]? = some x := by rfl) (hv : Vis X.env.scope x := by first | exact Or.inl rfl | exact Or.inr (Or.inl rfl) | exact Or.inr (Or.inr rfl)) (hd : (x == ("__debug__" : Str)) = false := by decide)
    (hcd : (x == ("__classdict__" : Str)) = false := by decide) : DE Z X (.Subscript (.Name x p1) (.Constant (.str "left") j p2) pos) (rStInt i) := by
  refine ⟨_, pe_dget F.hu (pe_var hN hv hd hcd) pe_str (fun _ _ => rfl), fun m δ σ H Q R n q r => ?_⟩
  obtain ⟨v, h1, h2⟩ := n.val i .rng q.1
  obtain ⟨s, g, c, gs, cs, l, t, hst, rfl, ro⟩ := rng_of n.gi h2
  exact ⟨_, h1, s, .int l, rfl, by rw [← rs_l g c l t]; exact DGet.k (k := kL) ro.hs, r _ _ (.int l) H n (.refl _ _) (dn_int.mpr rfl) (q.2 l ro.l0)⟩
/-- state['turn']: from 0 on, at most what is known of it -/
@[simp] def rStTurn (i : Nat) : TD := fun m δ Q => δ[i]? = some (.val .rng) ∧ ∀ n : Int, 0 ≤ n → n ≤ (m : Int) → Q m (.int n)
theorem de_stT (F : XF L Z X k ε) (i : Nat) {x : Str} {p1 p2 : Pos} {j : Nat} (hN : X.N[i]? = some x := by rfl) (hv : Vis X.env.scope x := by first | exact Or.inl rfl | exact Or.inr (Or.inl rfl) | exact Or.inr (Or.inr rfl)) (hd : (x == ("__debug__" : Str)) = false := by decide)
    (hcd : (x == ("__classdict__" : Str)) = false := by decide) : DE Z X (.Subscript (.Name x p1) (.Constant (.str "turn") j p2) pos) (rStTurn i) := by
  refine ⟨_, pe_dget F.hu (pe_var hN hv hd hcd) pe_str (fun _ _ => rfl), fun m δ σ H Q R n q r => ?_⟩
  obtain ⟨v, h1, h2⟩ := n.val i .rng q.1
  obtain ⟨s, g, c, gs, cs, l, t, hst, rfl, ro⟩ := rng_of n.gi h2
  exact ⟨_, h1, s, .int t, rfl, by rw [← rs_t g c l t]; exact DGet.k (k := kT) ro.hs, r _ _ (.int t) H n (.refl _ _) (dn_int.mpr rfl) (q.2 t ro.t0 ro.tm)⟩
/-- state['left'] = e, state['turn'] = e: a number from 0 on -/
@[simp] def rStSet (i : Nat) (te : TD) : TSd := fun B m δ => δ[i]? = some (.val .rng) ∧ te m δ fun m d => match d with | .int n => 0 ≤ n ∧ B.nx m δ | _ => False
theorem ds_stL (F : XF L Z X k ε) (i : Nat) {x : Str} {p1 p2 p3 : Pos} {j : Nat} (he : DE Z X e te) (hN : X.N[i]? = some x := by rfl) (hv : Vis X.env.scope x := by first | exact Or.inl rfl | exact Or.inr (Or.inl rfl) | exact Or.inr (Or.inr rfl)) (hd : (x == ("__debug__" : Str)) = false := by decide)
    (hcd : (x == ("__classdict__" : Str)) = false := by decide) (hs : swapsWith e (some (.Subscript (.Name x p1) (.Constant (.str "left") j p2) p3)) pos.line X.env = pure false := by rfl) : DS Z X (.Assign [.Subscript (.Name x p1) (.Constant (.str "left") j p2) p3] e pos) (rStSet i te) := by
  obtain ⟨T, pe, h⟩ := he.ex
  refine ⟨_, ps_dput F.hu (pe_var hN hv hd hcd) pe_str pe hs, fun m δ σ H B R n q o => h m δ σ H _ _ n q.2 fun m v d H1 n1 s1 d1 q1 => ?_⟩
  split at q1
  · rename_i l'
    obtain ⟨w, h1, h2⟩ := n1.val i .rng q.1
    obtain ⟨s, g, c, gs, cs, l, t, hst, rfl, ro⟩ := rng_of n1.gi h2
    obtain ⟨st, gi⟩ := st_put ro hst n1.gi (l' := l') (t' := t) q1.1 ro.t0 ro.tm
    rw [dn_int.mp d1]
    exact ⟨_, h1, s, _, rfl, by rw [← rs_putL g c l t l']; exact DPut.k (k := kL) ro.hs (by show 4 < sizeLine; rw [sizeLine_eq]; decide), o.nx _ _ _ _ (n1.go F.zok st gi) q1.2⟩
  · exact q1.elim
@[simp] def rStTurnSet (i : Nat) (te : TD) : TSd := fun B m δ => δ[i]? = some (.val .rng) ∧ te m δ fun m d => match d with | .int n => 0 ≤ n ∧ B.nx n.toNat δ | _ => False
theorem ds_stT (F : XF L Z X k ε) (i : Nat) {x : Str} {p1 p2 p3 : Pos} {j : Nat} (he : DE Z X e te) (hN : X.N[i]? = some x := by rfl) (hv : Vis X.env.scope x := by first | exact Or.inl rfl | exact Or.inr (Or.inl rfl) | exact Or.inr (Or.inr rfl)) (hd : (x == ("__debug__" : Str)) = false := by decide)
    (hcd : (x == ("__classdict__" : Str)) = false := by decide) (hs : swapsWith e (some (.Subscript (.Name x p1) (.Constant (.str "turn") j p2) p3)) pos.line X.env = pure false := by rfl) : DS Z X (.Assign [.Subscript (.Name x p1) (.Constant (.str "turn") j p2) p3] e pos) (rStTurnSet i te) := by
  obtain ⟨T, pe, h⟩ := he.ex
  refine ⟨_, ps_dput F.hu (pe_var hN hv hd hcd) pe_str pe hs, fun m δ σ H B R n q o => h m δ σ H _ _ n q.2 fun m v d H1 n1 s1 d1 q1 => ?_⟩
  split at q1
  · rename_i t'
    obtain ⟨w, h1, h2⟩ := n1.val i .rng q.1
    obtain ⟨s, g, c, gs, cs, l, t, hst, rfl, ro⟩ := rng_of n1.gi h2
    obtain ⟨st, gi⟩ := st_put ro hst n1.gi (m' := t'.toNat) (l' := l) (t' := t') ro.l0 q1.1 (by have := q1.1; omega)
    rw [dn_int.mp d1]
    exact ⟨_, h1, s, _, rfl, by rw [← rs_putT g c l t t']; exact DPut.k (k := kT) ro.hs (by show 4 < sizeLine; rw [sizeLine_eq]; decide), o.nx _ _ _ _ (n1.go F.zok st gi) q1.2⟩
  · exact q1.elim
/-- for cell in state['cells'] -/
theorem itl_ints {a : Addr} {ns : List Int} {v : V} (hv : v = .ref a) {L : Ls} {st : Option (Addr × Addr × Addr)} {K : PySem.W.Frag} (hK : K = L.K) : ItD L st (Itl K a) (ns.map D.int) [(.scr ns, v)] where
  stop := fun Z P H hL hs h => by
    have h := h _ List.mem_cons_self
    unfold Dn at h
    obtain ⟨z, b, e, t⟩ := h
    rw [hv] at e; cases e
    rw [Zs.K, hL, ← hK] at t
    have t' : SqL K H a (ns.map V.int) := by
      rcases t with ⟨_, t⟩ | ⟨o, t⟩ | t
      · exact .inl (.inl t)
      · exact .inl (.inr ⟨o, t⟩)
      · exact t H
    exact ⟨_, t', by simp⟩
  go := fun Z P H i d hL hs h hi hp => by
    have h := h _ List.mem_cons_self
    unfold Dn at h
    obtain ⟨z, b, e, t⟩ := h
    rw [hv] at e; cases e
    rw [Zs.K, hL, ← hK] at t
    have t' : SqL K H a (ns.map V.int) := by
      rcases t with ⟨_, t⟩ | ⟨o, t⟩ | t
      · exact .inl (.inl t)
      · exact .inl (.inr ⟨o, t⟩)
      · exact t H
    rw [List.getElem?_map] at hi
    cases q : ns[i]? with
    | none => rw [q] at hi; cases hi
    | some m =>
      rw [q] at hi
      cases hi
      have hw : (ns.map V.int)[i]? = some (.int m) := by rw [List.getElem?_map, q]; rfl
      refine ⟨⟨_, _, t', hw⟩, fun x H' y => ?_⟩
      obtain ⟨e, y⟩ := y
      subst e
      have := y _ t'
      rw [hw] at this; cases this
      exact ⟨Same.refl _, dn_int.mpr rfl⟩
/-- the script, walked -/
@[simp] def rScr (te : TD) : TL := fun m δ Q => te m δ fun m d => match d with | .scr ns => Q m (ns.map D.int) | _ => False
theorem di_scr (F : XF L Z X k ε) {tg : Expr} (he : DE Z X e te) : DI Z X tg e (rScr te) := by
  obtain ⟨T, p, h⟩ := he.ex
  refine ⟨_, pi_list p, fun m δ σ H Q R n q r => h m δ σ H _ _ n q fun m v d H1 n1 s1 d1 q1 => ?_⟩
  have hK : X.K = Z.L.K := F.K
  split at q1
  · rename_i ns
    have d1' := d1
    unfold Dn at d1'
    obtain ⟨z, a, e, t⟩ := d1'
    have t' : SqL Z.K H1 a (ns.map V.int) := by
      rcases t with ⟨_, t⟩ | ⟨o, t⟩ | t
      · exact .inl (.inl t)
      · exact .inl (.inr ⟨o, t⟩)
      · exact t H1
    refine ⟨a, e, ⟨_, by rw [hK]; exact t'⟩, r _ _ H1 _ [(.scr ns, v)] n1 s1 (fun p hp => by cases List.mem_singleton.mp hp; exact d1) (itl_ints e hK) (by rw [List.length_map, sizeLine_eq]; omega) q1⟩
  · exact q1.elim
@[simp] def rStCells (i : Nat) : TL := fun m δ Q => δ[i]? = some (.val .rng) ∧ ∀ cs : List Int, (∀ x ∈ cs, 0 ≤ x) → cs.length ≤ 63 → Q m (cs.map D.int)
theorem di_stC (F : XF L Z X k ε) (i : Nat) {tg : Expr} {x : Str} {p1 p2 : Pos} {j : Nat} (hN : X.N[i]? = some x := by rfl) (hv : Vis X.env.scope x := by first | exact Or.inl rfl | exact Or.inr (Or.inl rfl) | exact Or.inr (Or.inr rfl)) (hd : (x == ("__debug__" : Str)) = false := by decide)
    (hcd : (x == ("__classdict__" : Str)) = false := by decide) : DI Z X tg (.Subscript (.Name x p1) (.Constant (.str "cells") j p2) pos) (rStCells i) := by
  refine ⟨_, pi_list (pe_dget F.hu (pe_var hN hv hd hcd) pe_str (fun _ _ => rfl)), fun m δ σ H Q R n q r => ?_⟩
  have hK : X.K = Z.L.K := F.K
  obtain ⟨v, h1, h2⟩ := n.val i .rng q.1
  obtain ⟨s, g, c, gs, cs, l, t, hst, rfl, ro⟩ := rng_of n.gi h2
  refine ⟨_, h1, s, .ref c, rfl, by rw [← rs_c g c l t]; exact DGet.k (k := kC) ro.hs, c, rfl, ⟨_, SqL_inj ro.hc⟩, r _ _ H _ [(.scr cs, .ref c)] n (.refl _ _) (fun p hp => ?_) (itl_ints rfl hK) (by have := ro.cn; rw [List.length_map, sizeLine_eq]; omega) (q.2 cs ro.c0 ro.cn)⟩
  cases List.mem_singleton.mp hp
  unfold Dn
  refine ⟨ro.cn, c, rfl, .inl ⟨?_, ro.hc⟩⟩
  rintro (h | ⟨i, ds, h1, h2⟩)
  · exact F.zok.cO s g c hst h
  · obtain ⟨a, vs, h3, _, _, _, h5, _⟩ := n.own i ds h1
    rw [h2] at h3; cases h3
    obtain ⟨gs, cs, l, t, _, _, h6, _⟩ := F.zok.rex hst
    obtain ⟨_, z⟩ := h5 _ h6; cases z
/-- state['great'].pop(0) if state['great'] != [] else e -/
@[simp] def rStPop (i : Nat) (te : TD) : TD := fun m δ Q => δ[i]? = some (.val .rng) ∧ (∀ n : Int, 0 ≤ n → Q m (.int n)) ∧ te m δ Q
theorem ints_lay : ∀ ns : List Int, PyData.canLayAll0 (ns.map .int) = true
  | [] => rfl
  | n :: ns => by
    show (true && PyData.canLayAll0 (ns.map .int)) = true
    rw [ints_lay ns]; rfl
theorem ints_depth : ∀ ns : List Int, PyData.depthAll (ns.map .int) = 0
  | [] => rfl
  | n :: ns => by
    show max 0 (PyData.depthAll (ns.map .int)) = 0
    rw [ints_depth ns]; rfl
theorem ints_shaped (ns : List Int) : SeqAt.shaped (.list (ns.map .int)) = true := by
  unfold SeqAt.shaped
  rw [Bool.and_eq_true]
  refine ⟨ints_lay ns, decide_eq_true ?_⟩
  show PyData.depthAll (ns.map .int) + 1 ≤ 64
  rw [ints_depth ns]; decide
theorem dpAll_ints {K : PySem.W.Frag} : ∀ ns : List Int, DpAll K H (ns.map V.int) (ns.map .int)
  | [] => .nil
  | n :: ns => .cons (.int n) (dpAll_ints ns)
theorem de_stPop (F : XF L Z X k ε) (i : Nat) {x : Str} {p1 p2 p3 p4 p5 p6 p7 p8 p9 p10 p11 p12 : Pos} {j j2 j3 : Nat} (he : DE Z X e te) (hN : X.N[i]? = some x := by rfl) (hv : Vis X.env.scope x := by first | exact Or.inl rfl | exact Or.inr (Or.inl rfl) | exact Or.inr (Or.inr rfl)) (hd : (x == ("__debug__" : Str)) = false := by decide)
    (hcd : (x == ("__classdict__" : Str)) = false := by decide) (hl1 : (p8.endLine == p10.line) = true := by rfl) :
    DE Z X (.IfExp (.Compare (.Subscript (.Name x p1) (.Constant (.str "great") j p2) p3) [.NotEq] [.List [] p4] p5) (.Call (.Attribute (.Subscript (.Name x p6) (.Constant (.str "great") j2 p7) p9) "pop" p8) [.Constant (.int 0) j3 p11] [] p10) e p12) (rStPop i te) := by
  obtain ⟨T, pe, h⟩ := he.ex
  refine ⟨_, pe_ifExp (pt_cmpR (op_neD F.hu64) (pe_dget F.hu (pe_var hN hv hd hcd) pe_str (fun _ _ => rfl)) (pe_lst pa_nil) (nomark _))
    (pe_bm PySem.F.plainAttrs_list PySem.F.slot_list_pop PySem.F.type_list_pop mt_popAt (pe_dget F.hu (pe_var hN hv hd hcd) pe_str (fun _ _ => rfl)) (pa_cons pe_int pa_nil) (by rfl) (by rfl) hl1) pe, fun m δ σ H Q R n q r => ?_⟩
  obtain ⟨v, h1, h2⟩ := n.val i .rng q.1
  obtain ⟨s, g, c, gs, cs, l, t, hst, rfl, ro⟩ := rng_of n.gi h2
  have dg : ∀ {H : Hp}, RO s g c gs cs l t m H → DGet H s (.str "great") (some (.ref g)) := fun ro => by rw [← rs_g g c l t]; exact DGet.k (k := kG) ro.hs
  refine ⟨_, h1, s, .ref g, rfl, dg ro, by show 0 ≤ sizeLine; omega, fun p hp => ?_⟩
  have sm := same_upd (o := HO.lst []) hp
  have ro1 := ro.same sm
  have n1 := n.same F.zok sm
  refine ⟨.list (gs.map .int), .list [], .lst (SqL_inj ro1.hg) (dpAll_ints gs), .lst (SqL_inj upd_same) .nil, ints_shaped gs, ints_shaped [], _, rfl, ?_⟩
  cases gs with
  | nil =>
    refine iteF ?_
    exact h _ δ σ _ Q R n1 q.2.2 fun m v d H' n' s' dv hq => r _ v d H' n' (.trans (.same sm) s') dv hq
  | cons z gs =>
    refine iteT ⟨_, h1, s, .ref g, rfl, dg ro1, .inl ⟨rfl, _, SqL_inj ro1.hg⟩, g, (z :: gs).map V.int, 0, 0, .int z, rfl, rfl, ro1.hg, by decide, by decide, by simp [seqIndex?], rfl, ?_⟩
    obtain ⟨st, gi⟩ := st_pop ro1 hst n1.gi
    exact r _ _ (.int z) _ (n1.go F.zok st gi) (.trans (.same sm) st) (dn_int.mpr rfl) (q.2.1 z (ro.g0 z List.mem_cons_self))
end
end DL

namespace DL
open PySem L2
/-! ### the law's begin, the law -/
/-- _law_begun: a new random state -/
def spBegun (L : Ls) : Sp := fun vs H Q _ => ∃ ns : List Int, LamX.Tabs L.T H ∧ vs.length = 1 ∧ DnL ⟨L, none, fun _ => False, H, []⟩ (fun _ => False) H [.scr ns] vs ∧
  ∀ s g c H', Fr0 H s → Fr0 H g → Fr0 H c → Stp (fun _ => False) H H' → LamX.Tabs L.T H' → RngOk s g c 0 H' → Q (.ref s) H'
theorem begun_merge (g c : Addr) : mergeK [] [(kG, V.ref g), (kC, V.ref c), (kL, V.int 0), (kT, V.int 0)] = rsD g c 0 0 := by
  have a1 : ¬ (Str.ofString "great" = Str.ofString "cells") := by decide +kernel
  have a2 : ¬ (Str.ofString "great" = Str.ofString "left") := by decide +kernel
  have a3 : ¬ (Str.ofString "great" = Str.ofString "turn") := by decide +kernel
  have a4 : ¬ (Str.ofString "cells" = Str.ofString "left") := by decide +kernel
  have a5 : ¬ (Str.ofString "cells" = Str.ofString "turn") := by decide +kernel
  have a6 : ¬ (Str.ofString "left" = Str.ofString "turn") := by decide +kernel
  simp [mergeK, putK, rsD, a1, a2, a3, a4, a5, a6]
section
variable {P : Program} {w : World} {K : PySem.W.Frag} {mg : Str → Option Value} {base : Heap} {L : Ls}
theorem begun_ok {x qual : Str} {st st1 : Stmt} {e2 : Expr} {f : Addr} {fd : FuncData} {N : List Str} {k : Nat} {p1 p2 p3 p4 p5 p6 p7 p8 p9 : Pos} {j1 j2 j3 j4 j5 j6 : Nat} {t1 t2 : TL} (hK : L.K = K ∧ L.w = w) (F : Fun K x qual st f fd) (Sc : FnScope N ["script"] (defScope st))
    (hN : ∃ r, N = ("script" : Str) :: ("great" : Str) :: r)
    (hb : defBody st = [st1, .Return (some (.Dict [some (.Constant (.str "great") j1 p1), some (.Constant (.str "cells") j2 p2), some (.Constant (.str "left") j3 p3), some (.Constant (.str "turn") j4 p4)] [.Name "great" p5, e2, .Constant (.int 0) j5 p6, .Constant (.int 0) j6 p7] p8)) p9])
    (hloc : (defScope st).names.lookup ("great" : Str) = some NameKind.local)
    (h1 : ∀ (cdv : Value) (A : Around) (outer : List PySem.Env) (s : Shared) (H : Hp) (E : XK) (Z : Zs), XF L Z (cxOf (L2.CX P w) P w K mg base N qual (defScope st) f cdv A outer s H E) k (fun _ _ => False) → DS Z (cxOf (L2.CX P w) P w K mg base N qual (defScope st) f cdv A outer s H E) st1 (rOwn 1 t1))
    (h2 : ∀ (cdv : Value) (A : Around) (outer : List PySem.Env) (s : Shared) (H : Hp) (E : XK) (Z : Zs), XF L Z (cxOf (L2.CX P w) P w K mg base N qual (defScope st) f cdv A outer s H E) k (fun _ _ => False) → DEl Z (cxOf (L2.CX P w) P w K mg base N qual (defScope st) f cdv A outer s H E) e2 t2)
    (q1 : ∀ (ns : List Int) (Q : List D → Prop), (∀ gs : List Int, (∀ x ∈ gs, 0 ≤ x) → gs.length ≤ ns.length → Q (gs.map D.int)) → t1 0 (params N [.scr ns]) fun _ => Q)
    (q2 : ∀ (ns : List Int) (gs : List D) (Q : List D → Prop), (∀ gs : List Int, (∀ x ∈ gs, 0 ≤ x) → gs.length ≤ ns.length → Q (gs.map D.int)) → t2 0 ((params N [.scr ns]).set 1 (.own gs)) fun _ => Q) :
    FnOk P w K mg base (L2.CX P w) (k + 1) f fd ["script"] (spBegun L) := by
  refine F.okX Sc (fun vs H Q E h => by obtain ⟨ns, _, hl, _⟩ := h; exact hl) fun cdv A outer s H vs Q E hr h => ?_
  obtain ⟨ns, tabs, hl, l, kq⟩ := h
  obtain ⟨r, hN'⟩ := hN
  let Z : Zs := ⟨L, none, fun _ => False, H, []⟩
  have gi0 : Gi Z 0 H := ⟨tabs, fun s g c e => by cases e⟩
  have zk : Zok Z := ⟨fun a ⟨s, g, c, e, _⟩ => (by cases e), ⟨0, gi0⟩, fun s g c e => by cases e⟩
  have F' : XF L Z (cxOf (L2.CX P w) P w K mg base N qual (defScope st) f cdv A outer s H E) k (fun _ _ => False) := by
    refine ⟨rfl, zk, hK.1.symm, Sc.nd, rfl, hr, passes_of rfl, fun u s' x => ?_, hK.2.symm⟩
    obtain ⟨a, B, sI, pins, σ, H, cls, d, _, _, _, _, _, _, _, _, m, c, _, _, z, _⟩ := x
    exact z.elim
  obtain ⟨T1, P1, s1⟩ := (h1 cdv A outer s H E Z F').ex
  have nz : ∀ a, ¬ zone Z a := fun a ⟨s, g, c, e, _⟩ => by cases e
  have hNg : (cxOf (L2.CX P w) P w K mg base N qual (defScope st) f cdv A outer s H E).N[1]? = some ("great" : Str) := by show N[1]? = _; rw [hN']; rfl
  let X := cxOf (L2.CX P w) P w K mg base N qual (defScope st) f cdv A outer s H E
  let TC : TE := fun σ H R => ∀ (pins : List (Addr × Obj)) (s : Shared), Inv X pins σ H s → wpAny (model X.prog X.w) X.A (eval e2 X.env) (EP X pins σ R) X.xe s
  have PC2 : PE X e2 TC := ⟨fun pins s σ H Q I h => h pins s I⟩
  have PD : PE X (.Dict [some (.Constant (.str "great") j1 p1), some (.Constant (.str "cells") j2 p2), some (.Constant (.str "left") j3 p3), some (.Constant (.str "turn") j4 p4)] [.Name "great" p5, e2, .Constant (.int 0) j5 p6, .Constant (.int 0) j6 p7] p8)
      (tDisp [(tC (.str "great"), tVar 1), (tC (.str "cells"), TC), (tC (.str "left"), tC (.int 0)), (tC (.str "turn"), tC (.int 0))]) :=
    pe_disp (pps_cons pe_str (pe_var hNg (Or.inl hloc)) (pps_cons pe_str PC2 (pps_cons pe_str pe_int (pps_cons pe_str pe_int pps_nil)))) (by rfl) (by rfl) (fun z => by cases z) (by show 4 ≤ 15; decide)
  refine ⟨tSeq T1 (tRet (tDisp [(tC (.str "great"), tVar 1), (tC (.str "cells"), TC), (tC (.str "left"), tC (.int 0)), (tC (.str "turn"), tC (.int 0))])), by rw [hb]; exact pss_cons P1 (pss_one (ps_ret PD)), ?_⟩
  have hn0 : ns.length ≤ 63 := by
    obtain ⟨v, rfl, hv⟩ := l.one
    unfold Dn at hv
    exact hv.1
  refine s1 0 (params N [.scr ns]) (L2.start N vs) H { nx := fun _ δ => ∃ gs : List Int, (∀ x ∈ gs, 0 ≤ x) ∧ gs.length ≤ ns.length ∧ δ = (params N [.scr ns]).set 1 (.own (gs.map D.int)), rt := fun _ _ => False } _ (start_nv rfl rfl zk (fun a h => h.elim) gi0 l) (q1 ns (fun ds => ∃ gs : List Int, (∀ x ∈ gs, 0 ≤ x) ∧ gs.length ≤ ns.length ∧ (params N [.scr ns]).set 1 (.own ds) = (params N [.scr ns]).set 1 (.own (gs.map D.int))) fun gs g0 gn => ⟨gs, g0, gn, rfl⟩) ⟨fun m δ σ H1 n1 hq => ?_, fun _ _ _ _ _ _ _ z => z.elim, fun _ _ _ _ _ z => z.elim, fun _ _ _ _ _ z => z.elim⟩
  replace n1 : Nv Z 0 δ σ H1 := n1.go zk (.refl _ _) ⟨n1.gi.tabs, fun s g c e => by cases e⟩
  obtain ⟨gs, g0, gn, rfl⟩ := hq
  -- the dict
  show tDisp _ σ H1 Q
  intro p hp
  have hlen : 1 < (params N [D.scr ns]).length := by
    show 1 < (List.map Slot.val [D.scr ns] ++ List.replicate (N.length - 1) Slot.no).length
    rw [List.length_append, List.length_replicate, hN']
    simp
  have hi : ((params N [D.scr ns]).set 1 (.own (gs.map D.int)))[1]? = some (.own (gs.map D.int)) := List.getElem?_set_self hlen
  obtain ⟨g, us, e1, e2', e3, e4, e5, e6⟩ := n1.own 1 _ hi
  have hg := e3.ints
  refine ⟨.ref g, e1, fun pins s' I => ?_⟩
  have np := n1.plus (o := HO.dK []) zk hp
  have x1 := Ext.plus Z p (n1.h0 hp)
  obtain ⟨T2, P2, s2⟩ := (h2 cdv A outer s H E (Z.plus p) (F'.ext x1)).ex
  refine P2.run pins s' σ _ _ I (s2 _ _ σ _ _ _ np (q2 ns _ (fun ds => ∃ cs : List Int, ds = cs.map D.int ∧ (∀ x ∈ cs, 0 ≤ x) ∧ cs.length ≤ ns.length) fun cs c0 cn => ⟨cs, rfl, c0, cn⟩) fun m c vs ds H2 n2 st nc h0 hc hlc hz hq => ?_)
  obtain ⟨cs, rfl, c0, cn⟩ := hq
  have hcs := hlc.ints
  have st' : Stp (zone Z) (upd H1 p (.dK [])) H2 := st
  have hp2 : H2 p = some (.dK []) := st'.keep _ _ upd_same (fun _ z => nomatch z) (nz p)
  have npc : p ≠ c := fun e => nc (.inl (Or.inr e.symm))
  have npg : g ≠ p := ne_of_none e2' hp
  have hg2 : H2 g = some (.lst us) := st'.keep _ _ (by rw [upd_ne npg]; exact e2') (fun _ z => nomatch z) (nz g)
  have ngc : g ≠ c := fun e => nc (.inr ⟨1, _, hi, by rw [← e]; exact e1⟩)
  show H2 p = some (.dK []) ∧ _
  refine ⟨hp2, [(kG, .ref g), (kC, .ref c), (kL, .int 0), (kT, .int 0)], rfl, by show 4 ≤ 15; decide, ?_⟩
  rw [begun_merge]
  have h0p : Fr0 H p := n1.h0 hp
  have h0c : Fr0 H c := h0
  have stp2 := n2.stp
  have stp3 : Stp (fun _ => False) H H2 := by
    have : zone ((Z.plus p).plus c) = fun _ => False := by
      funext a
      exact propext ⟨fun ⟨s, g, c, e, _⟩ => (by cases e), fun z => z.elim⟩
    rw [this] at stp2
    exact stp2
  refine kq p g c _ h0p e5 h0c ?_ (fun q hq => tab_neK hp2 (n2.gi.tabs q hq)) ⟨gs, cs, 0, 0, upd_same, ?_, ?_, g0, c0, Int.le_refl _, Int.le_refl _, by omega, by omega, ngc, Int.le_refl _⟩
  · exact Stp.off stp3 fun a o e nt q => by rw [q] at e; obtain ⟨ps, z⟩ := h0p _ e; exact nt ps z
  · rw [upd_ne npg, hg2, hg]
  · rw [upd_ne npc.symm, hc, hcs]
/-- law's promise -/
def spLaw (L : Ls) (K : PySem.W.Frag) : Sp := fun vs H Q _ => ∃ (a : Addr) (ns : List Int), vs = [.ref a] ∧ LamX.Tabs L.T H ∧ SqL K H a (ns.map V.int) ∧ ns.length ≤ 63 ∧ ∀ H', Q (.bl true) H'
theorem law_body {qual : Str} {st : Stmt} {rest : List Stmt} {f fb : Addr} {fdb : FuncData} {N : List Str} {k : Nat} {p1 p2 p3 p4 p5 : Pos} {t : TSd} (hK : L.K = K ∧ L.w = w) (Sc : FnScope N ["script"] (defScope st))
    (i : Nat) (hi : N[i]? = some ("state" : Str)) (hloc : Loc (defScope st) ("state" : Str))
    (hN : ∃ r, N = ("script" : Str) :: r) (hscr : Loc (defScope st) ("script" : Str)) (hgl : (defScope st).names.lookup ("_law_begun" : Str) = some NameKind.globalImplicit)
    (FB : FnOk P w K mg base (L2.CX P w) k fb fdb ["script"] (spBegun L)) (mB : mg ("_law_begun" : Str) = some (.ref fb)) (kB : PySem.W.keepIn K (.ref fb) = true) (bB : Binds K fdb ["script"] [])
    (hb : defBody st = .Assign [.Name "state" p1] (.Call (.Name "_law_begun" p2) [.Name "script" p3] [] p4) p5 :: rest)
    {cdv : Value} {A : Around} {outer : List PySem.Env} {s : Shared} {H : Hp} {vs : List V} {Q : VK} {E : XK} (hr : Room k (cxOf (L2.CX P w) P w K mg base N qual (defScope st) f cdv A outer s H E).A)
    (body : ∀ (Z : Zs), XF L Z (cxOf (L2.CX P w) P w K mg base N qual (defScope st) f cdv A outer s H E) k (fun _ _ => False) → DSs Z (cxOf (L2.CX P w) P w K mg base N qual (defScope st) f cdv A outer s H E) rest t)
    (imp : ∀ ns : List Int, ns.length ≤ 63 → t { nx := fun _ _ => False, rt := fun _ d => d = .bl true } 0 ((params N [.scr ns]).set i (.val .rng))) (h : spLaw L K vs H Q E) :
    ∃ t', PSs (cxOf (L2.CX P w) P w K mg base N qual (defScope st) f cdv A outer s H E) (defBody st) t' ∧ t' { nx := fun _ H' => Q .non H', rt := Q } (L2.start N vs) H := by
  obtain ⟨a, ns, rfl, tabs, hS, hn, kq⟩ := h
  obtain ⟨r, hN'⟩ := hN
  let X := cxOf (L2.CX P w) P w K mg base N qual (defScope st) f cdv A outer s H E
  have hN0 : X.N[0]? = some ("script" : Str) := by show N[0]? = _; rw [hN']; rfl
  have visS : Vis X.env.scope ("script" : Str) := hscr.elim Or.inl fun h => Or.inr (Or.inl h)
  let TR : TS := fun R σ H => ∀ (pins : List (Addr × Obj)) (s : Shared), Inv X pins σ H s → wpAny (model X.prog X.w) X.A (execs rest X.env) (SP X pins R) X.xe s
  have PR : PSs X rest TR := ⟨fun pins s σ H D I h => h pins s I⟩
  refine ⟨tSeq (tAsg (tCall (spBegun L) [] E0 (tCons (tVar 0) tNil)) (gName i)) TR, by
    rw [hb]
    exact pss_cons (ps_set Sc.nd hi hloc (pe_call FB hr hgl mB kB bB .nil passL (pa_cons (pe_var hN0 visS) pa_nil))) PR, ?_⟩
  have hl0 : (L2.start N [V.ref a])[0]? = some (some (.ref a)) := by
    unfold L2.start
    rfl
  have scr : ∀ {P : Addr → Prop} {Z : Zs} {H' : Hp}, Z.L.K = K → (∀ b, Fr0 H b ∨ ¬ P b) → Stp (fun _ => False) H H' → Dn Z P H' (.scr ns) (.ref a) := fun {P Z H'} hZ hp st => by
    unfold Dn
    refine ⟨hn, a, rfl, ?_⟩
    rcases hS with (h | ⟨o, h⟩) | h
    · refine .inl ⟨?_, st.keep _ _ h (fun _ z => nomatch z) id⟩
      rcases hp a with z | z
      · obtain ⟨_, z⟩ := z _ h; cases z
      · exact z
    · exact .inr (.inl ⟨o, st.frzs _ _ _ h⟩)
    · refine .inr (.inr fun H2 => .inr ?_)
      rw [Zs.K, hZ]
      exact h
  refine ⟨.ref a, hl0, ns, tabs, rfl, .cons (scr hK.1 (fun b => .inr id) (.refl _ _)) .nil, fun sa g c H' hs hg hc st tb ro => ?_⟩
  intro pins s2 I
  let Z : Zs := ⟨L, some (sa, g, c), fun b => b = sa ∨ b = g, H', []⟩
  have gi : Gi Z 0 H' := ⟨tb, fun s' g' c' e => by cases e; exact ro⟩
  obtain ⟨gs, cs, l, t0, r1, r2, r3, _, _, _, _, _, _, ngc, _⟩ := id ro.ex
  have zk : Zok Z := ⟨fun b ⟨s', g', c', e, h⟩ => (by cases e; exact h), ⟨0, gi⟩, fun s' g' c' e => by
    cases e
    rintro (h | h)
    · rw [h, r1] at r3; cases r3
    · exact ngc h.symm⟩
  have F' : XF L Z X k (fun _ _ => False) := by
    refine ⟨rfl, zk, hK.1.symm, Sc.nd, rfl, hr, passes_of rfl, fun u s' x => ?_, hK.2.symm⟩
    obtain ⟨a, B, sI, pins, σ, H, cls, d, _, _, _, _, _, _, _, _, m, c, _, _, z, _⟩ := x
    exact z.elim
  have n0 : Nv Z 0 (params N [.scr ns]) (L2.start N [V.ref a]) H' := start_nv rfl rfl zk (fun b h => by
    rcases h with h | h
    · exact ⟨_, by rw [h]; exact r1, fun _ z => by cases z⟩
    · exact ⟨_, by rw [h]; exact r2, fun _ z => by cases z⟩) gi (.cons (scr hK.1 (fun b => by
      by_cases z : b = sa ∨ b = g
      · rcases z with z | z
        · exact .inl (by rw [z]; exact hs)
        · exact .inl (by rw [z]; exact hg)
      · exact .inr z) st) .nil)
  have n1 := n0.setV (i := i) (d := .rng) (v := .ref sa) (by unfold Dn; exact ⟨sa, g, c, rfl, rfl⟩)
  exact (body Z F').run n1 (imp ns hn) ⟨fun _ _ _ _ _ z => z.elim, fun m d v H2 _ _ dv e => by subst e; rw [dn_bl.mp dv]; exact kq H2, fun _ _ _ _ _ z => z.elim, fun _ _ _ _ _ z => z.elim⟩ I
theorem law_ok {x qual : Str} {st : Stmt} {rest : List Stmt} {f fb : Addr} {fd fdb : FuncData} {N : List Str} {k : Nat} {p1 p2 p3 p4 p5 : Pos} {t : TSd} (hK : L.K = K ∧ L.w = w) (F : Fun K x qual st f fd) (Sc : FnScope N ["script"] (defScope st))
    (i : Nat) (hi : N[i]? = some ("state" : Str)) (hi0 : i ≠ 0) (hloc : Loc (defScope st) ("state" : Str))
    (hN : ∃ r, N = ("script" : Str) :: r) (hscr : Loc (defScope st) ("script" : Str)) (hgl : (defScope st).names.lookup ("_law_begun" : Str) = some NameKind.globalImplicit)
    (FB : FnOk P w K mg base (L2.CX P w) k fb fdb ["script"] (spBegun L)) (mB : mg ("_law_begun" : Str) = some (.ref fb)) (kB : PySem.W.keepIn K (.ref fb) = true) (bB : Binds K fdb ["script"] [])
    (hb : defBody st = .Assign [.Name "state" p1] (.Call (.Name "_law_begun" p2) [.Name "script" p3] [] p4) p5 :: rest)
    (body : ∀ (cdv : Value) (A : Around) (outer : List PySem.Env) (s : Shared) (H : Hp) (E : XK) (Z : Zs), XF L Z (cxOf (L2.CX P w) P w K mg base N qual (defScope st) f cdv A outer s H E) k (fun _ _ => False) →
      DSs Z (cxOf (L2.CX P w) P w K mg base N qual (defScope st) f cdv A outer s H E) rest t)
    (imp : ∀ ns : List Int, ns.length ≤ 63 → t { nx := fun _ _ => False, rt := fun _ d => d = .bl true } 0 ((params N [.scr ns]).set i (.val .rng))) :
    FnOk P w K mg base (L2.CX P w) (k + 1) f fd ["script"] (spLaw L K) := by
  exact F.okX Sc (fun vs H Q E h => by obtain ⟨a, ns, rfl, _⟩ := h; rfl) fun cdv A outer s H vs Q E hr h => law_body hK Sc i hi hloc hN hscr hgl FB mB kB bB hb hr (fun Z F' => body cdv A outer s H E Z F') imp h
end
end DL

namespace DL
open PySem L2 PyProof.Rows
/-! ### t[::-1] of a tuple -/
section
variable {prog : Program} {w : World} {A : Around} {E : Value → Shared → Prop} {s : Shared}
theorem adj_back (n : Nat) : Builtin.Slice.sliceAdjust none none (-1) (n : Int) = ((n : Int) - 1, -1) := by
  have h1 : ((-1 : Int) < 0) := by omega
  unfold Builtin.Slice.sliceAdjust
  simp only [h1, if_true]
theorem places_back (n : Nat) : Builtin.Slice.slicePlaces ((n : Int) - 1) (-1) (-1) = n := by
  unfold Builtin.Slice.slicePlaces
  have h1 : ¬ ((-1 : Int) > 0) := by omega
  have h2 : -(-1 : Int) = 1 := by omega
  simp only [h1, if_false, h2, Int.ediv_one]
  split <;> omega
theorem pick_back (xs : Array Value) : ((List.range xs.size).filterMap fun (m : Nat) => xs[((xs.size : Int) - 1 + (m : Int) * (-1)).toNat]?).toArray = xs.toList.reverse.toArray := by
  have e : (fun (m : Nat) => xs[((xs.size : Int) - 1 + (m : Int) * (-1)).toNat]?) = (xs[·]?) ∘ (fun m : Nat => ((xs.size : Int) - 1 + (m : Int) * (-1)).toNat) := rfl
  rw [e, ← List.filterMap_map]
  have e2 : (List.range xs.size).map (fun m : Nat => ((xs.size : Int) - 1 + (m : Int) * (-1)).toNat) = (List.range xs.size).reverse := by
    rw [← PySem.W.krv_range]
    exact List.map_congr_left fun m hm => by
      have := List.mem_range.mp hm
      omega
  rw [e2, List.filterMap_reverse, PySem.W.krv_all]
theorem app_back {sl : Addr} {vl vu vs : Value} {n : Nat} {Q : Int × Int × Nat → Shared → Prop} (hs : s.heap.IsSliceOf sl vl vu vs) (pl : IsPart vl none) (pu : IsPart vu none) (ps : IsPart vs (some (-1)))
    (h : Q ((n : Int) - 1, -1, n) s) : wpAny (model prog w) A (Builtin.Slice.sliceApplied (.ref sl) (pure (n : Int))) Q E s := by
  obtain ⟨os, hos, hcs, hds⟩ := id hs
  unfold Builtin.Slice.sliceApplied Builtin.Slice.sliceFields
  refine wpAny_bind (wpAny_bind (wpAny_field hos hds (x := vl) rfl (wpAny_bind (wpAny_field hos hds (x := vu) rfl (wpAny_bind (wpAny_field hos hds (x := vs) rfl (wpAny_pure ?_)))))))
  refine wpAny_bind (HT.slicePart_ ps ?_)
  show wpAny _ _ (if ((-1 : Int) == 0) = true then _ else _) _ _ s
  rw [if_neg (by decide)]
  refine wpAny_bind (HT.slicePart_ pl (wpAny_bind (HT.slicePart_ pu (wpAny_bind (wpAny_pure ?_)))))
  show wpAny _ _ (match Builtin.Slice.sliceAdjust none none (-1) (n : Int) with | (lo, hi) => pure (lo, (-1 : Int), Builtin.Slice.slicePlaces lo hi (-1))) _ _ s
  rw [adj_back]
  show wpAny _ _ (pure ((n : Int) - 1, (-1 : Int), Builtin.Slice.slicePlaces ((n : Int) - 1) (-1) (-1))) _ _ s
  rw [places_back]
  exact wpAny_pure h
theorem item_back {t sl : Addr} {items : Array Value} {vl vu vs : Value} {Q : Value → Shared → Prop} (ht : IsTup s.heap t items) (hs : s.heap.IsSliceOf sl vl vu vs) (pl : IsPart vl none) (pu : IsPart vu none) (ps : IsPart vs (some (-1)))
    (h : Q (.ref s.heap.objs.size) { s with heap := s.heap.push { cls := .type "tuple", data := .seq items.toList.reverse.toArray } }) (hsz : items.size ≤ sizeLine) : wpAny (model prog w) A (getItem (.ref t) (.ref sl)) Q E s := by
  have hfit : sizeOk (.seq items.toList.reverse.toArray) := by
    show items.toList.reverse.toArray.size ≤ sizeLine
    rw [List.size_toArray, List.length_reverse, Array.length_toList]; exact hsz
  obtain ⟨os, hos, hcs, hds⟩ := id hs
  have hT : s.TypeIs (.ref sl) "slice" := ⟨os, hos, hcs⟩
  unfold getItem
  try with_reducible refine wpAny_holding ?_
  first | refine wpAny_bind (wpAny_pure ?_) | skip
  refine wpAny_bind (wpAny_sequenceKey ht.typeIs (by decide) ?_)
  refine wpAny_bind (wpAny_callSpecial?_slot (name := Str.ofString "__getitem__") ht.typeIs PyProof.Rows.slot_tuple_getitem (wpAny_call_entry PyProof.Rows.slot_tuple_getitem ht.typeIs entry_tuple_getitem ?_ (args_tuple_getitem _ _)))
  show wpAny _ _ (Builtin.Tuple.tupleItemsOf (.ref t) >>= _) _ _ s
  refine wpAny_bind (tupleItemsOf_ ht ?_)
  refine wpAny_bind (wpAny_typeOf hT ?_)
  rw [if_pos (by decide)]
  refine wpAny_bind (app_back hs pl pu ps ?_)
  have hno : ¬ ((((items.size : Int) - 1) == 0 && (-1 : Int) == 1 && items.size == items.size) = true) := by
    intro q
    rw [Bool.and_eq_true, Bool.and_eq_true] at q
    exact absurd q.1.2 (by decide)
  show wpAny _ _ (if (((items.size : Int) - 1) == 0 && (-1 : Int) == 1 && items.size == items.size) = true then _ else _) _ _ s
  rw [if_neg hno, pick_back]
  first
    | exact wpAny_bind (m := Builtin.Tuple.tupleExact _) (wpAny_newObj_type (wpAny_pure ⟨_, rfl, wpAny_pure h⟩) hfit)
    | exact wpAny_bind (m := Builtin.Tuple.tupleExact _) (wpAny_newObj_type (wpAny_bind (wpAny_pure (wpAny_pure ⟨_, rfl, wpAny_pure h⟩))) hfit)
    | exact wpAny_bind (wpAny_bind (m := Builtin.Tuple.tupleExact _) (wpAny_newObj_type (wpAny_pure (wpAny_pure ⟨_, rfl, wpAny_pure h⟩)) hfit))
    | exact wpAny_bind (wpAny_bind (m := Builtin.Tuple.tupleExact _) (wpAny_newObj_type (wpAny_pure ⟨_, rfl, wpAny_pure h⟩) hfit))
end
section
variable {L : Ls} {Z Z' : Zs} {X : Cx} {k : Nat} {ε : Nat → Str → Prop} {e : Expr} {es : List Expr} {te : TD} {t : TL} {pos : Pos} {δ : Env} {σ : L2.St} {H H' : Hp}
def tBack (K : PySem.W.Frag) (te : TE) : TE := fun σ H Q => te σ H fun x H1 => ∃ a xs, x = .ref a ∧ ((SqL K H1 a xs ∧ ∀ p, H1 p = none → Q (.ref p) (upd H1 p (.lst xs.reverse))) ∨ (SqT K H1 a xs ∧ NwT H1 xs.reverse Q))
theorem pe_back {e : Expr} {te : TE} {k : Nat} {p1 p2 p3 pos : Pos} (he : PE X e te) : PE X (.Subscript e (.Slice none none (some (.UnaryOp .USub (.Constant (.int 1) k p1) p2)) p3) pos) (tBack X.K te) := by
  refine ⟨fun pins s σ H Q I h => ?_⟩
  refine Subscript_ (thn (he.run pins s σ H _ I h) fun v s1 ⟨x, H1, I1, r1, q1⟩ => ?_)
  obtain ⟨a, xs, ex, q⟩ := q1
  subst ex
  cases r1
  have hst : PO X (some (.UnaryOp .USub (.Constant (.int 1) k p1) p2)) (tPart (tUn (rU fun i => .int (-i)) (tC (.int 1)))) := po_some (pe_un un_neg pe_int)
  refine wpAny_Slice (thn (po_none.run pins s1 σ H1 (fun o H2 => o = none ∧ H2 = H1) I1 ⟨rfl, rfl⟩) fun vl s2 ⟨l, H2, I2, pl, el, e2⟩ => ?_)
  subst el e2
  refine thn (po_none.run pins s2 σ H2 (fun o H3 => o = none ∧ H3 = H2) I2 ⟨rfl, rfl⟩) fun vu s3 ⟨u, H3, I3, pu, eu, e3⟩ => ?_
  subst eu e3
  refine thn (hst.run pins s3 σ H3 (fun o H4 => o = some (-1) ∧ H4 = H3) I3 ⟨1, rfl, -1, rfl, rfl, rfl⟩) fun vs s4 ⟨o, H4, I4, ps, eo, e4⟩ => ?_
  subst eo e4
  have I5 : Inv X pins σ H4 { s4 with heap := s4.heap.push { cls := .type "slice", data := .fields #[vl, vu, vs] } } := I4.kept (t' := s4.toks) fun b ob q => Heap.get?_push_of_some _ q
  show wpAny (model X.prog X.w) X.A (subscriptTail e (.Slice none none (some (.UnaryOp .USub (.Constant (.int 1) k p1) p2)) p3) (.ref a) (.ref s4.heap.objs.size)) (EP X pins σ Q) X.xe { s4 with heap := s4.heap.push { cls := .type "slice", data := .fields #[vl, vu, vs] } }
  rcases q with ⟨hx, q⟩ | ⟨hx, q⟩
  · obtain ⟨its, r, ht, hz⟩ := I5.list hx
    have hlen := r.length
    refine tail_any (ops := [.ref a, .ref s4.heap.objs.size]) ht.isList.typeIs (PySem.slot_list_getitem.lookup) ?_ (by with_unfolding_all rfl)
    refine wpAny_getItem_list_slice ht.isList (Heap.IsSliceOf.new _ vl vu vs) pl pu ps (by decide) ?_ (by rw [List.size_toArray]; omega)
    rw [PySem.W.krv_pick]
    exact ⟨.ref _, _, I5.laid (t' := s4.toks) (o := .lst xs.reverse) (fun b ob q => Heap.get?_push_of_some _ q) (Nat.le_refl _) ⟨by rw [List.length_reverse]; exact hz, _, 0, r.reverse, Heap.get?_push_size _ rfl⟩, rfl, q _ (I5.hok.fresh (Nat.le_refl _))⟩
  · obtain ⟨its, r, ht, hz⟩ := I5.tuple hx
    have hlen := r.length
    refine tail_any (ops := [.ref a, .ref s4.heap.objs.size]) ht.typeIs (PyProof.Rows.slot_tuple_getitem.lookup) ?_ (by with_unfolding_all rfl)
    refine item_back ht (Heap.IsSliceOf.new _ vl vu vs) pl pu ps ?_ (by rw [List.size_toArray]; omega)
    exact lay_tup (s := { s4 with heap := s4.heap.push { cls := .type "slice", data := .fields #[vl, vu, vs] } }) (tk := s4.toks) I5 (by rw [List.length_reverse]; exact hz) r.reverse q
@[simp] def rRev (te : TD) : TD := fun m δ Q => te m δ fun m d => match d with | .lst ds => Q m (.lst ds.reverse) | .tup ds => Q m (.tup ds.reverse) | _ => False
theorem de_rev (F : XF L Z X k ε) {j : Nat} {p1 p2 p3 : Pos} (h : DE Z X e te) : DE Z X (.Subscript e (.Slice none none (some (.UnaryOp .USub (.Constant (.int 1) j p1) p2)) p3) pos) (rRev te) := by
  obtain ⟨T, p, h⟩ := h.ex
  refine ⟨_, pe_back p, fun m δ σ H Q R n g q => h m δ σ H _ _ n g fun m v d H1 n1 s1 dv g1 => ?_⟩
  cases d <;> first | exact g1.elim | skip
  · rename_i ds
    obtain ⟨z, a, vs, rfl, t, l⟩ := dn_tupT dv
    exact ⟨a, vs, rfl, .inr ⟨by rw [F.K]; exact t, fun p o hp od => q _ _ _ _ (n1.same F.zok (same_upd hp)) (s1.trans (.same (same_upd hp))) (dn_newT l.reverse (by rw [List.length_reverse]; exact z) hp od) g1⟩⟩
  · rename_i ds
    obtain ⟨z, a, vs, rfl, pa, t, l⟩ := dn_lst.mp dv
    exact ⟨a, vs, rfl, .inl ⟨.inl (.inl t), fun p hp => q _ _ _ _ (n1.same F.zok (same_upd hp)) (s1.trans (.same (same_upd hp))) (dn_newL l.reverse (by rw [List.length_reverse]; exact z) hp (n1.fresh F.zok hp)) g1⟩⟩
/-! ### list(range(..)), tuple(range(..)) -/
def upsD (a b : Int) : List D := (List.range (b - a).toNat).map fun i => D.int (a + (i : Nat))
theorem upsD_rgV {P : Addr → Prop} {a b : Int} : DnL Z P H (upsD a b) (rgV a b) := by
  have e1 : upsD a b = ((List.range (b - a).toNat).map fun i : Nat => a + (i : Int)).map D.int := by unfold upsD; rw [List.map_map]; rfl
  have e2 : rgV a b = ((List.range (b - a).toNat).map fun i : Nat => a + (i : Int)).map V.int := by unfold rgV; rw [List.map_map]; rfl
  rw [e1, e2]
  exact DnL.of_ints
theorem upsD_len (a b : Int) : (upsD a b).length = (b - a).toNat := by unfold upsD; rw [List.length_map, List.length_range]
/-- an expression that makes a range -/
structure DRg (Z : Zs) (X : Cx) (e : Expr) (t : Nat → Env → (Nat → Int → Int → Prop) → Prop) : Prop where
  ex : ∃ T : L2.St → Hp → (Int → Int → Hp → Prop) → Prop, PRg X e T ∧ ∀ (m : Nat) (δ : Env) (σ : L2.St) (H : Hp) (Q : Nat → Int → Int → Prop) (R : Int → Int → Hp → Prop), Nv Z m δ σ H → t m δ Q →
    (∀ m' a b H', Nv Z m' δ σ H' → Stp (zone Z) H H' → Q m' a b → R a b H') → T σ H R
@[simp] def rRg1 (t : TD) : Nat → Env → (Nat → Int → Int → Prop) → Prop := fun m δ Q => t m δ fun m d => match d with | .int n => Q m 0 n | _ => False
@[simp] def rRg2 (t u : TD) : Nat → Env → (Nat → Int → Int → Prop) → Prop := fun m δ Q => t m δ fun m d => u m δ fun m e => match d, e with | .int i, .int j => Q m i j | _, _ => False
theorem dr_1 {p : Pos} (h : DE Z X e te) (hm : X.mg "range" = none) (hg : Gl X "range" := by rfl) (na : starEach [e] X.env = (false, eval e X.env) :: starEach [] X.env := by rfl) : DRg Z X (.Call (.Name "range" p) [e] [] pos) (rRg1 te) := by
  obtain ⟨T, p, h⟩ := h.ex
  refine ⟨_, prg_1 hg hm p na, fun m δ σ H Q R n g q => h m δ σ H _ _ n g fun m v d H1 n1 s1 dv g1 => ?_⟩
  cases d <;> first | exact g1.elim | skip
  exact ⟨_, dn_int.mp dv, q _ _ _ H1 n1 s1 g1⟩
theorem dr_2 (F : XF L Z X k ε) {e2 : Expr} {tu : TD} {p : Pos} (h : DE Z X e te) (h2 : DE Z X e2 tu) (hm : X.mg "range" = none) (hg : Gl X "range" := by rfl) (na : starEach [e, e2] X.env = (false, eval e X.env) :: starEach [e2] X.env := by rfl)
    (nb : starEach [e2] X.env = (false, eval e2 X.env) :: starEach [] X.env := by rfl) (hp : (backTo pos (starEach [e2] X.env)).any (·.1) = false := by rfl) : DRg Z X (.Call (.Name "range" p) [e, e2] [] pos) (rRg2 te tu) := by
  obtain ⟨T, p, h⟩ := h.ex
  obtain ⟨U, p2, h2⟩ := h2.ex
  refine ⟨_, prg_2 hg hm p p2 na nb hp, fun m δ σ H Q R n g q => h m δ σ H _ _ n g fun m v d H1 n1 s1 dv g1 => h2 m δ σ H1 _ _ n1 g1 fun m u c H2 n2 s2 dc g2 => ?_⟩
  cases d <;> first | exact g2.elim | skip
  cases c <;> first | exact g2.elim | skip
  exact ⟨_, _, dn_int.mp dv, dn_int.mp dc, q _ _ _ H2 n2 (s1.trans s2) g2⟩
@[simp] def rListRg (t : Nat → Env → (Nat → Int → Int → Prop) → Prop) : TD := fun m δ Q => t m δ fun m a b => RgOk a b ∧ Q m (.lst (upsD a b))
@[simp] def rTupRg (t : Nat → Env → (Nat → Int → Int → Prop) → Prop) : TD := fun m δ Q => t m δ fun m a b => RgOk a b ∧ Q m (.tup (upsD a b))
theorem rg_fit {a b : Int} (h : RgOk a b) : (upsD a b).length ≤ sizeLine := by
  rw [upsD_len, sizeLine_eq]; obtain ⟨_, _, _, _, h⟩ := h; omega
theorem de_listRg (F : XF L Z X k ε) {t : Nat → Env → (Nat → Int → Int → Prop) → Prop} {p : Pos} (h : DRg Z X e t) (hm : X.mg "list" = none) (hg : Gl X "list" := by rfl) (na : starEach [e] X.env = (false, eval e X.env) :: starEach [] X.env := by rfl) : DE Z X (.Call (.Name "list" p) [e] [] pos) (rListRg t) := by
  obtain ⟨T, p, h⟩ := h.ex
  exact ⟨_, pe_listRg F.calm hg hm p na, fun m δ σ H Q R n g q => h m δ σ H _ _ n g fun m a b H1 n1 s1 g1 =>
    ⟨g1.1, fun p hp => q _ _ _ _ (n1.same F.zok (same_upd hp)) (s1.trans (.same (same_upd hp))) (dn_newL upsD_rgV (rg_fit g1.1) hp (n1.fresh F.zok hp)) g1.2⟩⟩
theorem de_tupRg (F : XF L Z X k ε) {t : Nat → Env → (Nat → Int → Int → Prop) → Prop} {p : Pos} (h : DRg Z X e t) (hm : X.mg "tuple" = none) (hg : Gl X "tuple" := by rfl) (na : starEach [e] X.env = (false, eval e X.env) :: starEach [] X.env := by rfl) : DE Z X (.Call (.Name "tuple" p) [e] [] pos) (rTupRg t) := by
  obtain ⟨T, p, h⟩ := h.ex
  exact ⟨_, pe_tupRgN F.calm hg hm p na, fun m δ σ H Q R n g q => h m δ σ H _ _ n g fun m a b H1 n1 s1 g1 =>
    ⟨g1.1, fun p o hp od => q _ _ _ _ (n1.same F.zok (same_upd hp)) (s1.trans (.same (same_upd hp))) (dn_newT upsD_rgV (rg_fit g1.1) hp od) g1.2⟩⟩
end
end DL

namespace DL
open PySem L2 PyProof.Rows
/-! ### ascending lists of ints, with and without doubles -/
def insL (k : Int) : List Int → List Int
  | [] => [k]
  | n :: ns => if k ≤ n then k :: n :: ns else n :: insL k ns
def srt : List Int → List Int
  | [] => []
  | n :: ns => insL n (srt ns)
theorem insL_perm (k : Int) : ∀ ns : List Int, (insL k ns).Perm (k :: ns)
  | [] => .refl _
  | n :: ns => by
    unfold insL
    split
    · exact .refl _
    · exact ((insL_perm k ns).cons n).trans (.swap k n ns)
theorem srt_perm : ∀ ns : List Int, (srt ns).Perm ns
  | [] => .refl _
  | n :: ns => (insL_perm n (srt ns)).trans ((srt_perm ns).cons n)
theorem insL_up (k : Int) : ∀ {ns : List Int}, ns.Pairwise (· ≤ ·) → (insL k ns).Pairwise (· ≤ ·)
  | [], _ => by unfold insL; exact List.pairwise_singleton _ _
  | n :: ns, h => by
    unfold insL
    have h1 := List.pairwise_cons.mp h
    split
    · rename_i hk
      exact List.pairwise_cons.mpr ⟨fun m hm => by
        rcases List.mem_cons.mp hm with rfl | hm
        · exact hk
        · exact Int.le_trans hk (h1.1 m hm), h⟩
    · rename_i hk
      refine List.pairwise_cons.mpr ⟨fun m hm => ?_, insL_up k h1.2⟩
      rcases List.mem_cons.mp ((insL_perm k ns).mem_iff.mp hm) with rfl | hm
      · omega
      · exact h1.1 m hm
theorem srt_up : ∀ ns : List Int, (srt ns).Pairwise (· ≤ ·)
  | [] => .nil
  | n :: ns => insL_up n (srt_up ns)
theorem up_unique {ns ms : List Int} (p : ns.Perm ms) (h : ns.Pairwise (· ≤ ·)) (h' : ms.Pairwise (· ≤ ·)) : ns = ms := by
  induction ns generalizing ms with
  | nil => exact (List.nil_perm.mp p).symm
  | cons n ns ih =>
    cases ms with
    | nil => exact (List.perm_nil.mp p)
    | cons m ms =>
      have a := List.pairwise_cons.mp h
      have b := List.pairwise_cons.mp h'
      have e : n = m := by
        have h1 : m ∈ n :: ns := p.symm.mem_iff.mp List.mem_cons_self
        have h2 : n ∈ m :: ms := p.mem_iff.mp List.mem_cons_self
        rcases List.mem_cons.mp h1 with h1 | h1
        · exact h1.symm
        · rcases List.mem_cons.mp h2 with h2 | h2
          · exact h2
          · have := a.1 m h1
            have := b.1 n h2
            omega
      subst e
      rw [ih (List.Perm.cons_inv p) a.2 b.2]
theorem srt_of {ns ms : List Int} (p : ns.Perm ms) (h : ns.Pairwise (· ≤ ·)) : ns = srt ms := up_unique (p.trans (srt_perm ms).symm) h (srt_up ms)
theorem srt_len (ns : List Int) : (srt ns).length = ns.length := (srt_perm ns).length_eq
/-- without doubles -/
def insS (k : Int) : List Int → List Int
  | [] => [k]
  | n :: ns => if k < n then k :: n :: ns else if k = n then n :: ns else n :: insS k ns
def setI : List Int → List Int
  | [] => []
  | n :: ns => insS n (setI ns)
theorem insS_mem (k j : Int) : ∀ ns : List Int, j ∈ insS k ns ↔ j = k ∨ j ∈ ns
  | [] => by simp [insS]
  | n :: ns => by
    unfold insS
    split
    · simp
    · split
      · rename_i h; subst h; simp
      · simp [insS_mem k j ns]; grind
theorem setI_mem (j : Int) : ∀ ns : List Int, j ∈ setI ns ↔ j ∈ ns
  | [] => by simp [setI]
  | n :: ns => by
    unfold setI
    rw [insS_mem, setI_mem j ns]; simp
theorem insS_up (k : Int) : ∀ {ns : List Int}, ns.Pairwise (· < ·) → (insS k ns).Pairwise (· < ·)
  | [], _ => by unfold insS; exact List.pairwise_singleton _ _
  | n :: ns, h => by
    have h1 := List.pairwise_cons.mp h
    unfold insS
    split
    · rename_i hk
      exact List.pairwise_cons.mpr ⟨fun m hm => by
        rcases List.mem_cons.mp hm with rfl | hm
        · exact hk
        · exact Int.lt_trans hk (h1.1 m hm), h⟩
    · split
      · exact h
      · refine List.pairwise_cons.mpr ⟨fun m hm => ?_, insS_up k h1.2⟩
        rcases (insS_mem k m ns).mp hm with rfl | hm
        · omega
        · exact h1.1 m hm
theorem setI_up : ∀ ns : List Int, (setI ns).Pairwise (· < ·)
  | [] => .nil
  | n :: ns => insS_up n (setI_up ns)
theorem lt_nodup {ns : List Int} (h : ns.Pairwise (· < ·)) : ns.Nodup := h.imp fun h e => by omega
theorem nodup_len : ∀ {as bs : List Int}, as.Nodup → bs.Nodup → (∀ k, k ∈ as ↔ k ∈ bs) → as.length = bs.length := fun {as bs} h h' e =>
  ((List.perm_ext_iff_of_nodup h h').mpr e).length_eq
theorem lt_unique {as bs : List Int} (h : as.Pairwise (· < ·)) (h' : bs.Pairwise (· < ·)) (e : ∀ k, k ∈ as ↔ k ∈ bs) : as = bs :=
  up_unique ((List.perm_ext_iff_of_nodup (lt_nodup h) (lt_nodup h')).mpr e) (h.imp fun h => by omega) (h'.imp fun h => by omega)
theorem setI_of {ns ms : List Int} (h : ns.Pairwise (· < ·)) (e : ∀ k, k ∈ ns ↔ k ∈ ms) : ns = setI ms := lt_unique h (setI_up ms) fun k => (e k).trans (setI_mem k ms).symm
theorem setI_self {ns : List Int} (h : ns.Pairwise (· < ·)) : setI ns = ns := (setI_of h fun _ => .rfl).symm
theorem setI_le (ns : List Int) : (setI ns).length ≤ ns.length := by
  have key : ∀ (k : Int) (ms : List Int), (insS k ms).length ≤ ms.length + 1 := by
    intro k ms
    induction ms with
    | nil => simp [insS]
    | cons m ms ih =>
      unfold insS
      split
      · simp
      · split
        · simp
        · simp; omega
  induction ns with
  | nil => simp [setI]
  | cons n ns ih =>
    unfold setI
    have := key n (setI ns)
    simp only [List.length_cons]
    omega
/-- what a set of ints holds, told by ascending members -/
theorem setR_can {w : World} {h : Heap} {a : Addr} {ns : List Int} {c : Nat} (R : SetR w h a (fun j => decide (j ∈ ns)) c) : SetR w h a (memI (setI ns)) (setI ns).length := by
  obtain ⟨o, es, ep, t, ho, hx, hd, g, nd, hm, hb, hf, hn, r⟩ := R
  have e : es.size = (setI ns).length := by
    rw [← Array.length_toList, ← List.length_map (as := es.toList) keyOf]
    refine nodup_len nd (lt_nodup (setI_up ns)) fun k => ?_
    rw [← hm k, decide_eq_true_iff, setI_mem]
  refine ⟨o, es, ep, t, ho, hx, hd, g, nd, fun k => ?_, hb, hf, e, r⟩
  unfold memI
  rw [decide_eq_true_iff, setI_mem, ← hm k, decide_eq_true_iff]
/-! ### set(a list of ints) -/
section
variable {P : Program} {w : World} {A : Around} {E : Value → Shared → Prop} {s : Shared}
abbrev emptySet (w : World) : Obj := { cls := .type "set", dict := none, data := .set #[] 0 (.fresh 0 0 (!w.params.followText "set-order")) }
theorem set_list_ints {l : Addr} {items : Array Value} (ns : List Int) {Q : Value → Shared → Prop} (hh : A.handled = none) (hl : s.heap.IsList l items) (hit : IntsAre items.toList ns) (hb : ns.length + 1 < scanBound)
    (h : ∀ (h' : Heap) (tk c : Nat), SetR w h' s.heap.objs.size (fun j => decide (j ∈ ns)) c → (∀ b o, s.heap.get? b = some o → h'.get? b = some o) → Q (.ref s.heap.objs.size) { s with heap := h', toks := tk }) :
    wpAny (model P w) A (call (.type "set") [.ref l]) Q E s := by
  have hisz : items.size = ns.length := by
    have q := IntsAre.length hit; rw [Array.length_toList] at q; exact q
  obtain ⟨c, tl, hmro⟩ := F.called_set.mro
  have hmade := F.called_set.made; have hsub := F.called_set.sub
  refine wpAny_call (codeAny_of_tree ?_)
  show wpAny _ _ (callAny (.type "set") _) _ _ _
  refine wpAny_pure ⟨Code.quiet_builtin _ (by decide +kernel), codeAny_builtin F.entry_type_call ?_⟩
  rw [Around.under_plain (weight_type_call_type "set" [.ref l] []) rfl]
  have h1 := F.called_set.notType; have h2 := F.called_set.canCreate
  have hct := F.typeCall_set_1 (.ref l)
  repeat (any_goals (first | assumption | wp_step))
  refine codeAny_mono (code_set_led1 (.ref l) (E := E) (Q₁ := fun obj s₁ => obj = .ref s.heap.objs.size ∧ s₁ = { s with heap := s.heap.push (emptySet w) }) ⟨rfl, rfl⟩) fun r s₁ hr => ?_
  cases r with
  | error e => exact hr
  | ok fl =>
    cases fl with
    | ret obj =>
      obtain ⟨rfl, rfl⟩ := hr
      have hS : (s.heap.push (emptySet w)).get? s.heap.objs.size = some (emptySet w) := Heap.get?_push_size _ rfl
      have hT : Shared.TypeIs { s with heap := s.heap.push (emptySet w) } (.ref s.heap.objs.size) "set" := ⟨_, hS, rfl⟩
      have hli := F.called_set.init.lookup; have hbi := F.called_set.init.bind (.ref s.heap.objs.size)
      repeat (any_goals (first | assumption | wp_step))
      refine codeAny_mono (codeAny_call_builtin (R := wants (fun r s₂ => r = .none ∧ ∃ h' tk c, s₂ = { s with heap := h', toks := tk } ∧ SetR w h' s.heap.objs.size (fun j => decide (j ∈ ns)) c ∧ (∀ b o, s.heap.get? b = some o → h'.get? b = some o)) E) F.called_set.init.plain F.entry_set_init (check_set_init_1 hT ?_)) fun r₂ s₂ hr₂ => ?_
      · obtain ⟨ol, hol, hcl, nl, hdl⟩ := hl
        obtain ⟨ocls, odict, odata, oslots⟩ := ol
        simp only at hcl hdl
        subst hcl; subst hdl
        have hol' : (s.heap.push (emptySet w)).get? l = some { cls := .type "list", dict := odict, data := .seq items nl, slots := oslots } := Heap.get?_push_of_some _ hol
        have hsls := F.sub_list_set; have hslf := F.sub_list_frozenset
        have hne : (Value.type "list" == Value.type "dict") = false := by decide
        have hl1 : (s.heap.push (emptySet w)).IsList l items := ⟨_, hol', rfl, nl, rfl⟩
        unfold Builtin.«set.__init__» noKeywords Builtin.Frozenset.updateFrom
        generalize hPI : pyIter = PI
        wp_walk
        subst hPI
        refine wpAny_pyIter_list hl1 ?_
        refine wpAny_bind (wpAny_runValue ?_)
        have hlS : l < s.heap.objs.size := Heap.lt_size hol
        have hh3 : A.in1.in1.in1.handled = none := by simp [hh]
        have hneI : l ≠ (s.heap.push (emptySet w)).objs.size := by rw [Heap.size_push]; exact Nat.ne_of_lt (Nat.lt_succ_of_lt hlS)
        have hSf : s.heap.objs.size ∉ [(s.heap.push (emptySet w)).objs.size, l] := by
          rw [Heap.size_push]; simp only [List.mem_cons, List.mem_singleton, List.not_mem_nil, or_false, not_or]
          exact ⟨Nat.ne_of_lt (Nat.lt_succ_self _), Nat.ne_of_gt hlS⟩
        have hval : ∀ (i : Nat) (v : Value), items[i]? = some v → ∃ k t, ns[i]? = some k ∧ v = .int k t := fun i v hv => by
          have hi : i < ns.length := by rw [← hisz]; exact (Array.getElem?_eq_some_iff.mp hv).1
          obtain ⟨t, e⟩ := PyProof.Rows.IntsAre.int_at hit i v (by rw [Array.getElem?_toList]; exact hv)
          refine ⟨ns[i], t, List.getElem?_eq_getElem hi, ?_⟩
          rw [e, List.getD_eq_getElem?_getD, List.getElem?_eq_getElem hi] <;> rfl
        refine set_update_ints ((Walks.list hh3 _ l hneI items).toS) s.heap.objs.size hSf ns hisz hb hval (items.size - 0) 0 _ (by omega) (Nat.zero_le _) ⟨⟨_, Heap.get?_push_size _ rfl, rfl, rfl⟩, (hl1.push _)⟩ ?hS0 ?hR
        case hS0 =>
          have hget : ((s.heap.push (emptySet w)).push { cls := .type "list_iterator", data := .fields #[.ref l, .int 0 0] }).get? s.heap.objs.size = some (emptySet w) := Heap.get?_push_of_some _ hS
          exact ⟨0, Nat.le_refl 0, setR_new_at hget⟩
        case hR =>
          intro s' c' hm hc' hS'
          obtain ⟨h', g2, d', tk', os'⟩ := s'
          have eg : g2 = s.gens := hm.gens
          have ed : d' = s.drawn := hm.drawn
          have eo : os' = s.os := hm.os
          subst eg; subst ed; subst eo
          show wpAny _ _ _ _ _ _
          refine wpAny_pure ?_
          show wpAny _ _ (ret Value.none) _ _ _
          refine wpAny_pure ⟨rfl, h', tk', c', rfl, hS', fun b o e => ?_⟩
          have hb0 : b < s.heap.objs.size := Heap.lt_size e
          have hb2 : b ≠ (s.heap.push (emptySet w)).objs.size := by rw [Heap.size_push]; exact Nat.ne_of_lt (Nat.lt_succ_of_lt hb0)
          exact hm.heap b o (by simp only [List.mem_cons, List.mem_singleton, List.not_mem_nil, or_false, not_or]; exact ⟨Nat.ne_of_lt hb0, hb2⟩) (Heap.get?_push_of_some _ (Heap.get?_push_of_some _ e))
      · cases r₂ with
        | error e => exact hr₂
        | ok fl₂ =>
          cases fl₂ with
          | ret r =>
            obtain ⟨rfl, h', tk, c', rfl, hS', hk'⟩ := hr₂
            repeat (any_goals (first | assumption | wp_step))
            exact h _ _ _ hS' hk'
          | _ => exact hr₂.elim
    | _ => exact hr.elim
end
end DL

namespace DL
open PySem L2 PyProof.Rows
section
variable {L : Ls} {Z Z' : Zs} {X : Cx} {k : Nat} {ε : Nat → Str → Prop} {e : Expr} {es : List Expr} {te : TD} {t : TL} {pos : Pos} {δ : Env} {σ : L2.St} {H H' : Hp}
theorem dn_set {P : Addr → Prop} {ns : List Int} {v : V} : Dn Z P H (.set ns) v ↔ (ns.Pairwise (· < ·) ∧ ∃ a, v = .ref a ∧ ¬ P a ∧ H a = some (SetO Z.w a (memI ns) ns.length)) := by unfold Dn; exact Iff.rfl
theorem dn_newS {P : Addr → Prop} {ns : List Int} {p : Addr} (u : ns.Pairwise (· < ·)) (n : H p = none) (np : ¬ P p) : Dn Z P (upd H p (SetO Z.w p (memI ns) ns.length)) (.set ns) (.ref p) := dn_set.mpr ⟨u, p, rfl, np, upd_same⟩
/-! ### set(..) of ints -/
def rSetD (K : PySem.W.Frag) (w : World) : List V → Hp → VK → Prop := fun vs H Q => ∃ (a : Addr) (ns : List Int), vs = [.ref a] ∧ (SqL K H a (ns.map V.int) ∨ SqT K H a (ns.map V.int)) ∧ ns.length ≤ 4000 ∧
  ∀ p, H p = none → Q (.ref p) (upd H p (SetO w p (memI (setI ns)) (setI ns).length))
theorem cr_setD (hc : X.calm = true) : CallR X (.type "set") (rSetD X.K X.w) := by
  intro pins s σ H vs us Q I r h
  obtain ⟨a, ns, rfl, hs, hn, q⟩ := h
  rw [Vals.ref1 r]
  have hb : ns.length + 1 < scanBound := by unfold scanBound; omega
  rcases hs with hs | hs
  · obtain ⟨its, rv, hl, hz⟩ := I.list hs
    exact set_list_ints ns (I.ok.hd hc) hl.isList rv.ints hb fun h' tk c R k => ⟨.ref s.heap.objs.size, _, I.laid (t' := tk) k (Nat.le_refl _) (setO_new (setR_can R)), rfl, q _ (I.hok.fresh (Nat.le_refl _))⟩
  · obtain ⟨its, rv, hl, hz⟩ := I.tuple hs
    obtain ⟨o, ho, hc1, hd⟩ := hl
    exact call_set_tupI ns (I.ok.hd hc) ⟨o, ho, hc1, hd⟩ rv.ints hb fun h' tk c R _ k => ⟨.ref s.heap.objs.size, _, I.laid (t' := tk) k (Nat.le_refl _) (setO_new (setR_can R)), rfl, q _ (I.hok.fresh (Nat.le_refl _))⟩
@[simp] def dSet : List D → (D → Prop) → Prop
  | [.lst ds], Q => ∃ ns, D.ints ds = some ns ∧ ns.length ≤ 4000 ∧ Q (.set (setI ns))
  | [.tup ds], Q => ∃ ns, D.ints ds = some ns ∧ ns.length ≤ 4000 ∧ Q (.set (setI ns))
  | _, _ => False
theorem k_set (F : XF L Z X k ε) : CalD Z X (.type "set") dSet := by
  refine ⟨_, cr_setD F.calm, fun P H xs ds Q R hp gi hd hg kk => ?_⟩
  unfold dSet at hg
  split at hg
  · obtain ⟨ns, e, hn, hg⟩ := hg
    obtain ⟨v, rfl, h⟩ := hd.one
    rw [ints_map e] at h
    obtain ⟨z, a, vs, rfl, p, t, l⟩ := dn_lst.mp h
    rw [l.ints] at t
    exact ⟨a, ns, rfl, .inl (.inl (.inl t)), hn, fun p hp' => kk _ _ _ (same_upd hp') (by rw [F.W]; exact dn_newS (setI_up ns) hp' (hp p hp')) hg⟩
  · obtain ⟨ns, e, hn, hg⟩ := hg
    obtain ⟨v, rfl, h⟩ := hd.one
    rw [ints_map e] at h
    obtain ⟨z, a, vs, rfl, t, l⟩ := dn_tupT h
    rw [l.ints] at t
    exact ⟨a, ns, rfl, .inr (by rw [F.K]; exact t), hn, fun p hp' => kk _ _ _ (same_upd hp') (by rw [F.W]; exact dn_newS (setI_up ns) hp' (hp p hp')) hg⟩
  · exact hg.elim
/-! ### len of a set -/
def rLenSet (w : World) : List V → Hp → VK → Prop := fun vs H Q => ∃ (a : Addr) (S : Int → Bool) (n : Nat), vs = [.ref a] ∧ H a = some (SetO w a S n) ∧ Q (.int n) H
theorem cr_lenSet : CallR X (.builtin "len") (rLenSet X.w) := by
  intro pins s σ H vs us Q I r h
  obtain ⟨a, S, n, rfl, ha, q⟩ := h
  have R := setO_get I ha
  rw [Vals.ref1 r]
  obtain ⟨o, es, ep, t, ho, hex, hd, g, nd, hm, hb, hf, hn, _⟩ := R
  refine call_len_set ho hex hd hf (by unfold scanBound at hb; omega) ⟨.int n, H, I.tok _, ⟨_, by rw [hn]⟩, q⟩
def dLenS : List D → (D → Prop) → Prop
  | [.set ns], Q => Q (.int ns.length)
  | _, _ => False
theorem k_lenS (F : XF L Z X k ε) : CalD Z X (.builtin "len") dLenS := by
  refine ⟨_, cr_lenSet, fun P H xs ds Q R hp gi hd hg kk => ?_⟩
  unfold dLenS at hg
  split at hg
  · obtain ⟨v, rfl, h⟩ := hd.one
    obtain ⟨u, a, rfl, p, t⟩ := dn_set.mp h
    exact ⟨a, _, _, rfl, by rw [F.W]; exact t, kk _ _ H (Same.refl _) (dn_int.mpr rfl) hg⟩
  · exact hg.elim
/-- len of whatever has one -/
@[simp] def dLenA : List D → (D → Prop) → Prop
  | [.set ns], Q => Q (.int ns.length)
  | ds, Q => dLen ds Q
theorem k_lenA (F : XF L Z X k ε) : CalD Z X (.builtin "len") dLenA := ((k_lenS F).or (k_len F.K)).imp fun ds Q h => by
  unfold dLenA at h
  split at h
  · exact .inl h
  · exact .inr h
/-! ### sorted -/
@[simp] def dSorted : List D → (D → Prop) → Prop
  | [.lst ds], Q => ∃ ns, D.ints ds = some ns ∧ Q (.lst ((srt ns).map .int))
  | [.set ns], Q => ns.length < 64 ∧ Q (.lst (ns.map .int))
  | _, _ => False
def dSorted1 : List D → (D → Prop) → Prop
  | [.lst ds], Q => ∃ ns, D.ints ds = some ns ∧ Q (.lst ((srt ns).map .int))
  | _, _ => False
def dSorted2 : List D → (D → Prop) → Prop
  | [.set ns], Q => ns.length < 64 ∧ Q (.lst (ns.map .int))
  | _, _ => False
theorem k_sorted1 : CalD Z X (.builtin "sorted") dSorted1 := by
  refine ⟨_, cr_sortedI, fun P H xs ds Q R hp gi hd hg kk => ?_⟩
  unfold dSorted1 at hg
  split at hg
  · obtain ⟨ns, e, hg⟩ := hg
    obtain ⟨v, rfl, h⟩ := hd.one
    rw [ints_map e] at h
    obtain ⟨z, a, vs, rfl, p, t, l⟩ := dn_lst.mp h
    rw [l.ints] at t
    refine ⟨a, ns, rfl, .inl (.inl t), fun ns' p hP hW hp' => ?_⟩
    rw [srt_of hP hW]
    exact kk _ _ _ (same_upd hp') (dn_newL DnL.of_ints (by rw [List.length_map, srt_len]; rw [List.length_map] at z; exact z) hp' (hp p hp')) hg
  · exact hg.elim
theorem k_sorted2 (F : XF L Z X k ε) : CalD Z X (.builtin "sorted") dSorted2 := by
  refine ⟨_, cr_sortedSet F.calm, fun P H xs ds Q R hp gi hd hg kk => ?_⟩
  unfold dSorted2 at hg
  split at hg
  · obtain ⟨hn, hg⟩ := hg
    obtain ⟨v, rfl, h⟩ := hd.one
    obtain ⟨u, a, rfl, p, t⟩ := dn_set.mp h
    rename_i ns
    refine ⟨a, memI ns, ns.length, rfl, by rw [F.W]; exact t, hn, fun ms p hW hM hL hp' => ?_⟩
    have e : ms = ns := lt_unique hW u fun j => by rw [hM j]; unfold memI; rw [decide_eq_true_iff]
    subst e
    exact kk _ _ _ (same_upd hp') (dn_newL DnL.of_ints (by rw [List.length_map, sizeLine_eq]; omega) hp' (hp p hp')) hg
  · exact hg.elim
theorem k_sorted (F : XF L Z X k ε) : CalD Z X (.builtin "sorted") dSorted := (k_sorted1.or (k_sorted2 F)).imp fun ds Q h => by
  unfold dSorted at h
  split at h
  · exact .inl h
  · exact .inr h
  · exact h.elim
/-! ### sum, max, min of a list of ints -/
@[simp] def dSum : List D → (D → Prop) → Prop
  | [.lst ds], Q => ∃ ns, D.ints ds = some ns ∧ Q (.int ns.sum)
  | _, _ => False
def dMaxL : List D → (D → Prop) → Prop
  | [.lst ds], Q => ∃ ns, D.ints ds = some ns ∧ ns ≠ [] ∧ ∀ m, m ∈ ns → (∀ y, y ∈ ns → y ≤ m) → Q (.int m)
  | _, _ => False
def dMinL : List D → (D → Prop) → Prop
  | [.lst ds], Q => ∃ ns, D.ints ds = some ns ∧ ns ≠ [] ∧ ∀ m, m ∈ ns → (∀ y, y ∈ ns → m ≤ y) → Q (.int m)
  | _, _ => False
theorem k_sum (F : XF L Z X k ε) : CalD Z X (.builtin "sum") dSum := by
  refine ⟨_, cr_sum F.calm, fun P H xs ds Q R hp gi hd hg kk => ?_⟩
  unfold dSum at hg
  split at hg
  · obtain ⟨ns, e, hg⟩ := hg
    obtain ⟨v, rfl, h⟩ := hd.one
    rw [ints_map e] at h
    obtain ⟨z, a, vs, rfl, p, t, l⟩ := dn_lst.mp h
    rw [l.ints] at t
    exact ⟨a, ns, rfl, .inl (.inl t), kk _ _ H (Same.refl _) (dn_int.mpr rfl) hg⟩
  · exact hg.elim
theorem k_maxL (F : XF L Z X k ε) : CalD Z X (.builtin "max") dMaxL := by
  refine ⟨_, cr_max F.calm, fun P H xs ds Q R hp gi hd hg kk => ?_⟩
  unfold dMaxL at hg
  split at hg
  · obtain ⟨ns, e, hn, hg⟩ := hg
    obtain ⟨v, rfl, h⟩ := hd.one
    rw [ints_map e] at h
    obtain ⟨z, a, vs, rfl, p, t, l⟩ := dn_lst.mp h
    rw [l.ints] at t
    exact ⟨a, ns, rfl, .inl (.inl t), List.length_pos_iff.mpr hn, fun m h1 h2 => kk _ _ H (Same.refl _) (dn_int.mpr rfl) (hg m h1 h2)⟩
  · exact hg.elim
theorem k_minL (F : XF L Z X k ε) : CalD Z X (.builtin "min") dMinL := by
  refine ⟨_, cr_min F.calm, fun P H xs ds Q R hp gi hd hg kk => ?_⟩
  unfold dMinL at hg
  split at hg
  · obtain ⟨ns, e, hn, hg⟩ := hg
    obtain ⟨v, rfl, h⟩ := hd.one
    rw [ints_map e] at h
    obtain ⟨z, a, vs, rfl, p, t, l⟩ := dn_lst.mp h
    rw [l.ints] at t
    exact ⟨a, ns, rfl, .inl (.inl t), List.length_pos_iff.mpr hn, fun m h1 h2 => kk _ _ H (Same.refl _) (dn_int.mpr rfl) (hg m h1 h2)⟩
  · exact hg.elim
/-! ### a new list from sorted(..) or list(range(..)), to be one's own -/
end
end DL

namespace DL
open PySem L2 PyProof.Rows
/-! ### calls with keywords -/
def pick {α : Type} (is : List Nat) (l : List α) : List α := is.filterMap (l[·]?)
theorem vals_get : ∀ {vs : List V} {us : List Value} (i : Nat), Vals vs us → (vs[i]? = none ∧ us[i]? = none) ∨ ∃ v u, vs[i]? = some v ∧ us[i]? = some u ∧ RelV v u
  | _, _, i, .nil => .inl ⟨by simp, by simp⟩
  | _, _, 0, .cons r _ => .inr ⟨_, _, rfl, rfl, r⟩
  | _, _, i + 1, .cons _ rs => by simpa using vals_get i rs
theorem vals_pick {vs : List V} {us : List Value} (r : Vals vs us) : ∀ is : List Nat, Vals (pick is vs) (pick is us)
  | [] => .nil
  | i :: is => by
    unfold pick
    rcases vals_get i r with ⟨e1, e2⟩ | ⟨v, u, e1, e2, rv⟩
    · rw [List.filterMap_cons_none e1, List.filterMap_cons_none e2]; exact vals_pick r is
    · rw [List.filterMap_cons_some e1, List.filterMap_cons_some e2]; exact .cons rv (vals_pick r is)
theorem vals_app : ∀ {vs zs : List V} {us ws : List Value}, Vals vs us → Vals zs ws → Vals (vs ++ zs) (us ++ ws)
  | _, _, _, _, .nil, h => h
  | _, _, _, _, .cons r rs, h => .cons r (vals_app rs h)
section
variable {L : Ls} {Z Z' : Zs} {X : Cx} {k : Nat} {ε : Nat → Str → Prop} {e : Expr} {es : List Expr} {te : TD} {t tk : TL} {pos : Pos} {δ : Env} {σ : L2.St} {H H' : Hp} {kws : List Keyword}
theorem DnL.pick {P : Addr → Prop} {ds : List D} {vs : List V} (l : DnL Z P H ds vs) : ∀ is : List Nat, DnL Z P H (pick is ds) (pick is vs)
  | [] => .nil
  | i :: is => by
    unfold DL.pick
    cases e : ds[i]? with
    | none =>
      have e2 : vs[i]? = none := by
        rw [List.getElem?_eq_none_iff] at e ⊢
        rw [l.length]; exact e
      rw [List.filterMap_cons_none e, List.filterMap_cons_none e2]; exact DnL.pick l is
    | some d =>
      obtain ⟨v, e2, h⟩ := l.get e
      rw [List.filterMap_cons_some e, List.filterMap_cons_some e2]; exact .cons h (DnL.pick l is)
structure DKs (Z : Zs) (X : Cx) (kws : List Keyword) (t : TL) : Prop where
  ex : ∃ T : TA, PK X kws T ∧ ∀ (m : Nat) (δ : Env) (σ : L2.St) (H : Hp) (Q : Nat → List D → Prop) (R : List V → Hp → Prop), Nv Z m δ σ H → t m δ Q →
    (∀ m' vs ds H', Nv Z m' δ σ H' → Stp (zone Z) H H' → DnL Z (OO Z σ δ) H' ds vs → Q m' ds → R vs H') → T σ H R
theorem dk_nil : DKs Z X [] rNil := ⟨_, pk_nil, fun m δ σ H Q R n h r => r _ [] [] H n (.refl _ _) .nil h⟩
theorem dk_cons (F : XF L Z X k ε) {nm : Option Str} {kp : Pos} (ha : DE Z X e te) (hr : DKs Z X kws t) : DKs Z X (⟨nm, e, kp⟩ :: kws) (rCons te t) := by
  obtain ⟨Ta, pa, ha⟩ := ha.ex
  obtain ⟨Tb, pb, hb⟩ := hr.ex
  refine ⟨_, pk_cons pa pb, fun m δ σ H Q R n h r => ha m δ σ H _ _ n h fun m v d H1 n1 s1 d1 h1 => hb m δ σ H1 _ _ n1 h1 fun m vs ds H2 n2 s2 d2 h2 => ?_⟩
  exact r _ _ (d :: ds) H2 n2 (s1.trans s2) (.cons (Dn.stp (s2.mono fun c z => Or.inl (F.zok.zo c z)) d v d1) d2) h2
/-- a def of the text keeps the promise S, called with m places and the keywords ks -/
structure FnW (P : Program) (w : World) (K : PySem.W.Frag) (mg : Str → Option Value) (base : Heap) (L : Ls) (k : Nat) (x : Str) (n : Nat) (S : Spd) (m : Nat) (ks : List Str) (is : List Nat) : Prop where
  ex : ∃ (f : Addr) (fd : FuncData) (ps : List Str), ps.length = n ∧ FnOk P w K mg base (L2.CX P w) k f fd ps (prom L n S) ∧ mg x = some (.ref f) ∧ PySem.W.keepIn K (.ref f) = true ∧
    KBn K fd ps m ks (fun us ws => pick is (us ++ ws)) (fun us ws => pick is (us ++ ws))
theorem FnW.mono {P : Program} {w : World} {K : PySem.W.Frag} {mg : Str → Option Value} {base : Heap} {j k : Nat} {x : Str} {n m : Nat} {S : Spd} {ks : List Str} {is : List Nat} (h : FnW P w K mg base L j x n S m ks is) (hj : j ≤ k) : FnW P w K mg base L k x n S m ks is := by
  obtain ⟨f, fd, ps, h1, h2, h3⟩ := h.ex
  exact ⟨f, fd, ps, h1, h2.mono hj, h3⟩
theorem fnW_of {P : Program} {w : World} {K : PySem.W.Frag} {mg : Str → Option Value} {base : Heap} {x : Str} {st : Stmt} {f : Addr} {fd : FuncData} {ps : List Str} {k n m : Nat} {S : Spd} {ks : List Str} {is : List Nat} (F : Fun K x x st f fd) (hn : ps.length = n) (ok : FnOk P w K mg base (L2.CX P w) k f fd ps (prom L n S)) (hm : mg x = some (.ref f))
    (h : ∀ (kV doc pm : Value) (an : Option Addr) (cdv ct : Value) (us ws : List Value), us.length = m → ws.length = ks.length → bindArgs (PySem.W.fnOf x x (defArgs st) (defBody st) (defScope st) .none kV doc pm an cdv ct) ⟨us, ks.zip ws⟩ = pure (ps.zip (pick is (us ++ ws)))) :
    FnW P w K mg base L k x n S m ks is := by
  obtain ⟨oc, od, kV, doc, pm, an, cdv, ct, osl, rfl, lk, hcd⟩ := F.ex
  refine ⟨f, _, ps, hn, ok, hm, F.kp, ⟨fun s us ws _ h1 h2 => .of_eq (h kV doc pm an cdv ct us ws h1 h2), fun r r2 => vals_pick (vals_app r r2) is⟩⟩
@[simp] def rFnKw (n a j : Nat) (S : Spd) (ε : Nat → Str → Prop) (is : List Nat) (t tk : TL) : TD := fun m δ Q => t m δ fun m ds => ds.length = a ∧ tk m δ fun m es => es.length = j ∧ (pick is (ds ++ es)).length = n ∧ S (pick is (ds ++ es)) m Q ε
theorem de_callKw (F : XF L Z X k ε) {S : Spd} {n m : Nat} {x : Str} {ks : List Str} {is : List Nat} {p : Pos} (f : FnW X.prog X.w X.K X.mg X.base L k x n S m ks is) (ha : DA Z X (e :: es) t) (hk : DKs Z X kws tk)
    (hall : (backToKw pos (keywordEach kws X.env)).all (·.1.isSome) = true := by rfl) (hks : (backToKw pos (keywordEach kws X.env)).filterMap (·.1) = ks := by rfl)
    (hg : Gl X x := by rfl) (hdb : (x == ("__debug__" : Str)) = false := by decide) (hs : starEach (e :: es) X.env = (false, eval e X.env) :: starEach es X.env := by rfl)
    (hpl : ((backTo pos (starEach (e :: es) X.env)).any (·.1) || (backToKw pos (keywordEach kws X.env)).any (·.1.isNone)) = false := by rfl) :
    DE Z X (.Call (.Name x p) (e :: es) kws pos) (rFnKw n m ks.length S ε is t tk) := by
  obtain ⟨a, fd, ps, hp, ok, mg, kp, b⟩ := f.ex
  obtain ⟨T, pa, h⟩ := ha.ex
  obtain ⟨U, pk, h'⟩ := hk.ex
  refine ⟨_, pe_callN ok F.room hg mg kp b (passes_call F.tk fun _ _ _ _ h => h) pa pk hall hks hdb hs hpl, fun m δ σ H Q R n' q r => h m δ σ H _ _ n' q fun m vs ds H1 n1 s1 d1 g1 => h' m δ σ H1 _ _ n1 g1.2 fun m zs es H2 n2 s2 d2 g2 => ?_⟩
  have d1' := DnL.stp (s2.mono fun c z => Or.inl (F.zok.zo c z)) ds vs d1
  refine ⟨d1'.length.trans g1.1, d2.length.trans g2.1, ?_⟩
  exact prom_at F n2 ((d1'.append d2).pick is) g2.2.1 g2.2.2 fun m v d H' n3 s3 dv hq => r _ v d H' n3 ((s1.trans s2).trans s3) dv hq
@[simp] def rKw (n j : Nat) (S : Spd) (ε : Nat → Str → Prop) (is : List Nat) (tk : TL) : TD := fun m δ Q => tk m δ fun m es => es.length = j ∧ (pick is es).length = n ∧ S (pick is es) m Q ε
theorem pe_call0N {CX : CXT} {k : Nat} {f : Addr} {fd : FuncData} {ps ks : List Str} {sp : Sp} {E : XK} {x : Str} {p pos : Pos} {kws : List Keyword} {tk : TA} {g : List Value → List Value → List Value} {gV : List V → List V → List V}
    (F : FnOk X.prog X.w X.K X.mg X.base CX k f fd ps sp) (hr : Room k X.A) (hg : Gl X x) (hm : X.mg x = some (.ref f)) (hk : PySem.W.keepIn X.K (.ref f) = true) (hb : KBn X.K fd ps 0 ks g gV) (hx : Passes CX X E)
    (hkw : PK X kws tk) (hall : (backToKw pos (keywordEach kws X.env)).all (·.1.isSome) = true := by rfl) (hks : (backToKw pos (keywordEach kws X.env)).filterMap (·.1) = ks := by rfl)
    (hdb : (x == ("__debug__" : Str)) = false := by decide) (hpl : ((backTo pos (starEach [] X.env)).any (·.1) || (backToKw pos (keywordEach kws X.env)).any (·.1.isNone)) = false := by rfl) :
    PE X (.Call (.Name x p) [] kws pos) (fun σ H Q => tk σ H fun zs H2 => zs.length = ks.length ∧ sp (gV [] zs) H2 Q E) := by
  refine ⟨fun pins s σ H Q I h => ?_⟩
  refine wpAny_Call_Name_kw (ld_glob I hg hm ?_ hdb)
  refine PySem.W.callWith_KW0 (h₀ := X.base) I.ok.mod.kin hk hall (thn (hkw.run pos pins s σ H _ I h) fun ws s2 ⟨zs, H2, I2, rz, l2, q2⟩ => ⟨I2.kIn, ?_⟩) hpl
  rw [hks]
  exact run_fnN F hr hb hx I2 .nil rz rfl l2 q2
theorem de_callKw0 (F : XF L Z X k ε) {S : Spd} {n : Nat} {x : Str} {ks : List Str} {is : List Nat} {p : Pos} (f : FnW X.prog X.w X.K X.mg X.base L k x n S 0 ks is) (hk : DKs Z X kws tk)
    (hall : (backToKw pos (keywordEach kws X.env)).all (·.1.isSome) = true := by rfl) (hks : (backToKw pos (keywordEach kws X.env)).filterMap (·.1) = ks := by rfl)
    (hg : Gl X x := by rfl) (hdb : (x == ("__debug__" : Str)) = false := by decide)
    (hpl : ((backTo pos (starEach [] X.env)).any (·.1) || (backToKw pos (keywordEach kws X.env)).any (·.1.isNone)) = false := by rfl) :
    DE Z X (.Call (.Name x p) [] kws pos) (rKw n ks.length S ε is tk) := by
  obtain ⟨a, fd, ps, hp, ok, mg, kp, b⟩ := f.ex
  obtain ⟨U, pk, h'⟩ := hk.ex
  refine ⟨_, pe_call0N ok F.room hg mg kp b (passes_call F.tk fun _ _ _ _ h => h) pk hall hks hdb hpl, fun m δ σ H Q R n' q r => h' m δ σ H _ _ n' q fun m zs es H2 n2 s2 d2 g2 => ?_⟩
  refine ⟨d2.length.trans g2.1, ?_⟩
  exact prom_at F n2 (d2.pick is) g2.2.1 g2.2.2 fun m v d H' n3 s3 dv hq => r _ v d H' n3 (s2.trans s3) dv hq
end
end DL

namespace DL
open PySem L2 PySem.Spec PyProof.Rows
section
variable {X : Cx} {pins : List (Addr × Obj)} {σ : L2.St} {H : Hp} {s : Shared}
/-- an object that is there, new since the entry, is known from now on -/
theorem inv_know {a : Addr} {o : HO} (I : Inv X pins σ H s) (na : H a = none) (hb : X.s_0.heap.get? a = none) (new : ObjOk X.prog X.w (upd H a o) s.heap a o) (nL : a ≠ X.env.locals) (nC : ∀ x c, X.env.cells.lookup x = some c → c ≠ a) (nP : ∀ p ∈ X.pn ++ pins, p.1 ≠ a) :
    Inv X pins σ (upd H a o) s := by
  have ne0 : ∀ b ob, X.s_0.heap.get? b = some ob → b ≠ a := fun b ob e q => by rw [q, hb] at e; cases e
  have B := I.base
  refine ⟨I.ok, I.os, I.bare, ⟨B.keep, B.slot, fun b ob e n hx => by rw [upd_ne (ne0 b ob e)]; exact B.free b ob e n hx, B.there, fun b xs e => ?_, fun b ob u e => ?_, fun b ps e => ?_⟩, I.loc, I.cell, by rw [upd_ne nL.symm]; exact I.free, fun x c e => by rw [upd_ne (nC x c e)]; exact I.freeC x c e, fun p hp => ?_, I.hok.laidN (fun _ _ q => q) na new, I.len⟩
  · have := B.tups b xs e
    rw [upd_ne (ne_of_none this na)]; exact this
  · have := B.frzs b ob u e
    rw [upd_ne (ne_of_none this na)]; exact this
  · obtain ⟨m, this⟩ := B.tbls b ps e
    exact ⟨m, by rw [upd_ne (ne_of_none this na)]; exact this⟩
  · obtain ⟨e, n, r⟩ := I.pin p hp
    exact ⟨e, by rw [upd_ne (nP p hp)]; exact n, r⟩
/-- what a clause wishes of an exception of the body, if what it caught is kept -/
def wKeep (K : PySem.W.Frag) (c : Value) (m i : Nat) (ts : Addr → TS) (Wout : WX) (D : Ends) : WX := fun cls d σ H =>
  ∃ b, PySem.W.exmOne K cls c = some b ∧ (b = true → d = none ∧ ∀ a, H a = none → σ.length = m → ts a { nx := fun σ' H' => D.nx (σ'.set i none) (upd H' a (CgO cls a)), rt := fun _ _ => False } (σ.set i (some (.ref a))) H) ∧ (b = false → Wout cls d σ H)
variable {x n : Str} {c : Value} {i : Nat} {body suite : List Stmt} {b₀ : Stmt} {np pos pos' : Pos} {tb : WX → TS} {ts : Addr → TS} {Wout : WX}
theorem ps_keep (hs : X.stack = X.env :: X.outer) (hf : X.env.frame = some X.env.locals) (hex : X.ex = []) (hN : X.N.Nodup) (hi : X.N[i]? = some n) (hln : X.env.kindOf n = some .local) (hc : Names X x c) (tk : Takes X Wout)
    (hb : ∀ (W : WX) (pn : List (Addr × Obj)) (xe : Value → Shared → Prop), Takes (X.tr pn xe) W → PassesOwn (model X.prog X.w) X.A X.env xe → PSs (X.tr pn xe) body (tb W))
    (hsu : ∀ (a : Addr) (oe : Obj) (pn : List (Addr × Obj)), PSs (X.suite a ((a, oe) :: pn)) (b₀ :: suite) (ts a)) :
    PS X (.Try body [.ExceptHandler (some (.Name x np)) (some n) (b₀ :: suite) pos'] [] [] pos) (fun D σ H => tb (wKeep X.K c X.N.length i ts Wout D) D σ H) := by
  refine ⟨fun pins s σ H D I h => ?_⟩
  have ok := I.ok; have hfr : X.A.frames = some (X.env :: X.outer) := by rw [ok.frames, hs]
  have hloc : Loc X.env.scope n := .inl hln
  refine wpAny_Try_except (wpAny_mono ((hb (wKeep X.K c X.N.length i ts Wout D) (X.pn ++ pins) (fun e s₁ => wpAny (model X.prog X.w) X.A (noteFrame e X.env) (fun _ s₂ => wpAny (model X.prog X.w) X.A (setFlight e none) (fun _ s₃ =>
    wpAny (model X.prog X.w) X.A (handleBy e X.env [.ExceptHandler (some (.Name x np)) (some n) (b₀ :: suite) pos']) (SP X pins D) X.xe s₃) X.xe s₂) X.xe s₁) (fun u s' xx => ?_) PassesOwn.looking).run [] s σ H D (I.toTry _) h) (fun f s1 hsp => ?_) (fun e s1 he => he))
  · obtain ⟨a, B, sI, pins', σ', H', cls, d, rfl, J', nb, up, sky, na, os, ag, b, hb1, hyes, hno⟩ := xx
    have J : Inv X pins σ' H' sI := J'.ofTry ok
    have sky' : Sky B (X.env :: X.outer) a (Zc cls d) X.env.locals s'.heap := by rw [← hs]; exact sky
    show wpAny (model X.prog X.w) X.A (noteFrame (.ref a) X.env) _ _ _
    refine Sky.land Zc.steady hfr hf sky' fun h3 fl3 up3 => ?_
    have J3 : Inv X pins σ' H' { s' with heap := h3 } := J.landed nb fl3.1 (up.trans up3) os ag
    obtain ⟨oe3, vs3, he3, hz3, hd3⟩ := fl3.there
    have off : ∀ {h : Heap} {o : Obj} {vs : Array Value}, h.FunFrames B (X.env :: X.outer) → h.get? a = some o → o.data = .fields vs → a ∉ frs (X.env :: X.outer) := fun {h o vs} ff e dd hm => by
      obtain ⟨_, o', e', hnf⟩ := ff.mem hm
      rw [e] at e'; cases e'; exact hnf _ dd
    have nfr := off fl3.2.2.1 he3 hd3
    have nL : a ≠ X.env.locals := fun z => nfr (List.mem_filterMap.mpr ⟨X.env, List.mem_cons_self, by rw [hf, z]⟩)
    have nF : a ∉ X.fs := fun hm => by
      obtain ⟨e, he, q⟩ := List.mem_filterMap.mp hm
      exact nfr (List.mem_filterMap.mpr ⟨e, List.mem_cons_of_mem _ he, q⟩)
    -- new since the entry
    have nI : sI.heap.get? a = none := by
      cases q : sI.heap.get? a with
      | none => rfl
      | some o =>
        have := nb a o q (by rw [hs]; exact nfr)
        rw [fl3.2.1] at this; cases this
    have n0 : X.s_0.heap.get? a = none := by
      cases q : X.s_0.heap.get? a with
      | none => rfl
      | some o =>
        obtain ⟨o', e⟩ := J.base.there a o q (by rw [hex]; exact fun z => nomatch z)
        rw [nI] at e; cases e
    have nP : ∀ p ∈ X.pn ++ pins, p.1 ≠ a := fun p hp q => by
      have := (J.pin p hp).1
      rw [q, nI] at this; cases this
    have nC : ∀ y e, X.env.cells.lookup y = some e → e ≠ a := fun y e he q => by
      obtain ⟨v, o, ho, _⟩ := J.cell y e he
      rw [q, nI] at ho; cases ho
    have S3 := J3.suite he3 hd3 na nL nF
    refine wpAny_handleBy_cons (codeAny_handlers_test ?_) (by intro q; cases q)
    have LT : PySem.W.Looks (model X.prog X.w) h3 (typeOf (.ref a)) cls := fun A Q E s k q => wpAny_typeOf_ref (k _ _ he3) (by rw [hz3.1]; exact q)
    have LM := PySem.W.exm_one (M := model X.prog X.w) (J3.kIn) LT hb1
    have test : ∀ {Q : Value → Shared → Prop} {E : Value → Shared → Prop}, Q c { s' with heap := h3 } → wpAny (model X.prog X.w) (X.A.mark (some (.ref a))) (eval (.Name x np) X.env) Q E { s' with heap := h3 } := fun {Q E} q => by
      obtain ⟨hg, hdbg, hm | ⟨hm, hv, hnn⟩⟩ := hc
      · exact ld_glob (X := X.suite a ((a, oe3) :: (X.pn ++ pins))) S3 hg hm q hdbg
      · exact ld_blt (X := X.suite a ((a, oe3) :: (X.pn ++ pins))) S3 hg hm hv q hnn hdbg
    refine test (LM.here ?_)
    cases b with
    | true =>
      refine codeAny_handlers_suite_as (HandSPX.lands_againZ fl3 fun h4 fl4 up4 => ?_)
      have J4 : Inv X pins σ' H' { s' with heap := h4 } := J.landed nb fl4.1 ((up.trans up3).trans up4) os ag
      obtain ⟨oe4, vs4, he4, hz4, hd4⟩ := fl4.there
      obtain ⟨hd0, hy⟩ := hyes rfl
      subst hd0
      have S4 := J4.suite he4 hd4 na nL nF
      refine store_ok (X := X.suite a ((a, oe4) :: (X.pn ++ pins))) (v := .ref a) S4 hN hi hloc rfl (fun s5 S5 => ?_) (.inr hln)
      refine wpAny_mono ((hsu a oe4 (X.pn ++ pins)).run [] s5 _ H' _ S5 (hy a na J.len)) (fun f s6 hsp => ?_) (fun _ _ z => False.elim z)
      cases f with
      | next =>
        obtain ⟨σ6, H6, S6, q6⟩ := hsp
        obtain ⟨g6, n6, _, _, _⟩ := S6.pin (a, oe4) (by simp)
        have J6 := inv_know (o := CgO cls a) (S6.unsuite ok) n6 n0 (cgO_ok g6 hz4 hd4) nL nC nP
        exact gone_ok J6 hN hi hln fun s7 J7 => ⟨_, _, J7, q6⟩
      | brk => obtain ⟨_, _, _, z⟩ := hsp; exact z.elim
      | cont => obtain ⟨_, _, _, z⟩ := hsp; exact z.elim
      | ret u => obtain ⟨_, _, _, _, _, z⟩ := hsp; exact z.elim
    | false =>
      show wpAny _ X.A (handleBy (.ref a) X.env []) _ _ _
      refine wpAny_handleBy_nil ?_
      obtain ⟨k1, k2, k3, oe, vs, T, oT, ts', he, hz, hd, h1, hr⟩ := id fl3
      unfold PySem.passOn
      refine wpAny_bind (wpAny_field he hd h1 ?_)
      rw [if_neg (show ¬ ((Value.ref T == Value.none) = true) from by simp)]
      have fin : wpAny (model X.prog X.w) X.A (setFlight (.ref a) X.env.frame) (fun _ s4 => wpAny (model X.prog X.w) X.A (throw (.ref a) : Sem Flow) (SP X pins D) X.xe s4) X.xe { s' with heap := h3 } := by
        rw [hf]
        refine HandSPX.setFlight_upZ fl3 fun h4 hh4 up4 => wpAny_throw (tk _ _ ?_)
        exact ⟨a, B, sI, pins, σ', H', cls, d, rfl, J, nb, (up.trans up3).trans up4, .inr (.inr (by rw [hs]; exact hh4)), na, os, ag, hno rfl⟩
      first
        | exact wpAny_bind (wpAny_pure (wpAny_bind fin))
        | exact wpAny_bind fin
  · cases f with
    | next => obtain ⟨σ', H', J', q⟩ := hsp; exact wpAny_execs_nil ⟨σ', H', J'.ofTry ok, q⟩
    | brk => obtain ⟨σ', H', J', q⟩ := hsp; exact ⟨σ', H', J'.ofTry ok, q⟩
    | cont => obtain ⟨σ', H', J', q⟩ := hsp; exact ⟨σ', H', J'.ofTry ok, q⟩
    | ret u => obtain ⟨v, σ', H', J', r, q⟩ := hsp; exact ⟨v, σ', H', J'.ofTry ok, r, q⟩
end
/-! ### _law_caught -/
/-- what is caught: the reading of the call's lambda, its exceptions kept -/
def TTcg (K : PySem.W.Frag) (CS : Addr) : (XK → Hp → VK → Prop) → Hp → VK → Prop := fun tl H Q => ∀ R : VK, (∀ v H', Q .non H' → R v H') →
  tl (fun cls d H' => ∃ b, PySem.W.exmOne K cls (.ref CS) = some b ∧ (b = true → d = none ∧ ∀ a, H' a = none → Q (.ref a) (upd H' a (CgO cls a))) ∧ (b = false → False)) H R
section
variable {X : Cx}
theorem cg_gives {x a y n e q : Str} {sg : Scope} {g CS : Addr} {cdg : Value} {j : Nat} {p1 p2 p3 p4 p5 p6 p7 p8 p9 q1 q2 q3 q4 q5 : Pos} (hge : sg.names.lookup e = some .globalImplicit) (hme : X.mg e = some (.ref CS)) (hde : (e == ("__debug__" : Str)) = false)
    (nd : [a, y, n].Nodup) (hy : sg.names.lookup y = some .local) (hn : sg.names.lookup n = some .local) (ha : sg.names.lookup a = some .local) (dn : (n == ("__debug__" : Str)) = false) (dn2 : (n == ("__classdict__" : Str)) = false) (dy : (y == ("__debug__" : Str)) = false) (dy2 : (y == ("__classdict__" : Str)) = false)
    (s1 : ∀ env : PySem.Env, swapsWith (.Constant .none j p2) (some (.Name y p1)) p3.line env = pure false) (s2 : ∀ env : PySem.Env, swapsWith (.Name n p8) (some (.Name y p7)) p9.line env = pure false) (s3 : ∀ env : PySem.Env, swapsWith (.Call (.Name a p4) [] [] p5) none p6.line env = pure false) :
    LamX.GivesTo X [a, y, n] x sg g cdg [.Assign [.Name y p1] (.Constant .none j p2) p3, .Try [.Expr (.Call (.Name a p4) [] [] p5) p6] [.ExceptHandler (some (.Name e q1)) (some n) [.Assign [.Name y p7] (.Name n p8) p9] q2] [] [] q3, .Return (some (.Name y q5)) q4] a q (TTcg X.K CS) := by
  intro f c' s H Q tl act hc h
  let X0 : Cx := (cxOf C8.CX0 X.prog X.w X.K X.mg X.base [a, y, n] x sg g cdg X.A X.stack s H C8.E0).nox
  have hgl : Gl X0 e := hge
  have visY : Vis X0.env.scope y := Or.inl hy
  have P1 : PS X0 (.Assign [.Name y p1] (.Constant .none j p2) p3) (tAsg (tC .non) (gName 1)) := ps_set nd rfl (Or.inl hy) pe_non (s1 _) (.inr hy)
  have P3 : PS X0 (.Return (some (.Name y q5)) q4) (tRet (tVar 1)) := ps_ret (pe_var (i := 1) rfl visY dy dy2)
  have P2 := ps_keep (X := X0) (c := .ref CS) (i := 2) (n := n) (b₀ := .Assign [.Name y p7] (.Name n p8) p9) (suite := []) (np := q1) (pos := q3) (pos' := q2) (ts := fun _ => tAsg (tVar 2) (gName 1))
    (body := [.Expr (.Call (.Name a p4) [] [] p5) p6]) (tb := fun W D σ H => ∃ Ech : XK, (∀ cls d σ' H', Ech cls d H' → W cls d σ' H') ∧ σ[0]? = some (some (.ref f)) ∧ H c' = some (LamX.CodeO c' q) ∧ tl Ech H (fun _ H' => D.nx σ H'))
    rfl rfl rfl nd rfl hn ⟨hgl, hde, .inl hme⟩ LamX.takes0 (fun W pn xe tk _ => ⟨fun pins s' σ H' D I h' => by
      obtain ⟨Ech, hW, h1, h2, h3⟩ := h'
      exact (pss_one (ps_expr (pos := p6) (act W pn xe Ech p4 p5 tk hW) (s3 _))).run pins s' σ H' D I ⟨h1, h2, h3⟩⟩)
    (fun b oe pn => pss_one (ps_set (X := X0.suite b ((b, oe) :: pn)) nd rfl (Or.inl hy) (pe_var (i := 2) rfl (Or.inl hn) dn dn2) (s2 _) (.inr hy)))
  refine ⟨_, pss_cons P1 (pss_cons P2 (pss_one P3)), ?_⟩
  refine ⟨fun cls d H' => ∃ b, PySem.W.exmOne X.K cls (.ref CS) = some b ∧ (b = true → d = none ∧ ∀ a, H' a = none → Q (.ref a) (upd H' a (CgO cls a))) ∧ (b = false → False), fun cls d σ' H' he => ?_, ?_, hc, ?_⟩
  · obtain ⟨b, h1, h2, h3⟩ := he
    refine ⟨b, h1, fun hb => ⟨(h2 hb).1, fun a0 na hl => ?_⟩, fun hb => (h3 hb).elim⟩
    have hl : σ'.length = 3 := hl
    match σ', hl with
    | [u0, u1, u2], _ => exact ⟨.ref a0, rfl, .ref a0, rfl, (h2 hb).2 a0 na⟩
  · rfl
  · exact h _ fun v H' hq => ⟨.non, rfl, hq⟩
end
end DL

namespace DL
open PySem L2 PySem.Spec PyProof.Rows
section
variable {L : Ls} {Z Z' : Zs} {X : Cx} {k : Nat} {ε : Nat → Str → Prop} {e : Expr} {es : List Expr} {te : TD} {t : TL} {pos : Pos} {δ : Env} {σ : L2.St} {H H' : Hp}
/-- the frame's own lists are nobody's business -/
@[simp] def hideE (δ : Env) : Env := δ.map fun s => match s with | .own _ => .no | s => s
def Zs.inner (Z : Zs) (σ : L2.St) (δ : Env) (H : Hp) : Zs := ⟨Z.L, Z.st, OO Z σ δ, H, []⟩
theorem Gi.inner (g : Gi Z m H) : Gi (Z.inner σ δ H') m H := ⟨g.tabs, g.rng⟩
theorem Gi.outer (g : Gi (Z.inner σ δ H') m H) : Gi Z m H := ⟨g.tabs, g.rng⟩
theorem Zok.inner (z : Zok Z) (n : Nv Z m δ σ H) : Zok (Z.inner σ δ H) := by
  refine ⟨fun a h => .inl (z.zo a h), ⟨_, n.gi.inner⟩, fun s g c e h => ?_⟩
  rcases h with h | ⟨i, ds, h1, h2⟩
  · exact z.cO s g c e h
  · obtain ⟨a, vs, h3, _, _, _, h5, _⟩ := n.own i ds h1
    rw [h2] at h3; cases h3
    obtain ⟨gs, cs, l, t, _, _, h6, _⟩ := z.rex e
    obtain ⟨_, z⟩ := h5 _ h6; cases z
theorem Nv.hide (n : Nv Z m δ σ H) (z : Zok Z) : Nv (Z.inner σ δ H) m (hideE δ) σ H := by
  have no : ∀ (i : Nat) (ds : List D), (hideE δ)[i]? ≠ some (.own ds) := fun i ds h => by
    unfold hideE at h
    rw [List.getElem?_map] at h
    cases q : δ[i]? with
    | none => rw [q] at h; cases h
    | some s => rw [q] at h; cases s <;> cases h
  have sub : ∀ a, OO (Z.inner σ δ H) σ (hideE δ) a → OO Z σ δ a := by
    rintro a (h | ⟨i, ds, h1, _⟩)
    · exact h
    · exact (no i ds h1).elim
  refine ⟨by rw [n.len]; unfold hideE; rw [List.length_map], fun i d h => ?_, fun i ds h => (no i ds h).elim, fun i j ds es a h => (no i ds h).elim, n.gi.inner, .refl _ _, fun a h => n.trk' z h, fun p hp => by cases hp⟩
  have h' : δ[i]? = some (.val d) := by
    unfold hideE at h
    rw [List.getElem?_map] at h
    cases q : δ[i]? with
    | none => rw [q] at h; cases h
    | some s => rw [q] at h; cases s <;> cases h <;> rfl
  obtain ⟨v, h1, h2⟩ := n.val i d h'
  exact ⟨v, h1, Dn.zs (Z := Z) (Z' := Z.inner σ δ H) rfl rfl d v (Dn.mono sub d v h2)⟩
theorem Gi.extN (g : Gi Z m H) (e : LamX.ExtN H H') (t : LamX.Tabs Z.T H') : Gi Z m H' := ⟨t, fun a b c q => by
  obtain ⟨gs, cs, l, t, h1, h2, h3, r⟩ := (g.rng a b c q).ex
  exact ⟨gs, cs, l, t, e _ _ h1 (fun _ z => nomatch z), e _ _ h2 (fun _ z => nomatch z), e _ _ h3 (fun _ z => nomatch z), r⟩⟩
/-- _law_caught(lambda: e): None, or what was raised, of the classes J -/
@[simp] def rCaught (J : Str → Bool) (R : (Nat → Str → Prop) → TD) : TD := fun m δ Q => R (fun m c => J c = true ∧ Q m (.exc c)) m (hideE δ) (fun m _ => Q m .non)
/-- the wish of exceptions of the class c -/
def wishE (Z : Zs) (ε : Nat → Str → Prop) : XK := fun cls d H => ∃ m c, cls = .ref (Z.cls c) ∧ d = none ∧ ε m c ∧ Stp (zone Z) Z.H0 H ∧ Gi Z m H
/-- a lambda's reading, of any state -/
def tAny (L : Ls) (R : (Nat → Str → Prop) → TD) (E : XK) : TE := fun σ H Q => ∃ (Z' : Zs) (ε' : Nat → Str → Prop) (m : Nat) (δ' : Env) (Qd : Nat → D → Prop), Z'.L = L ∧ Zok Z' ∧ (∀ cls d H', wishE Z' ε' cls d H' → E cls d H') ∧ Nv Z' m δ' σ H ∧ R ε' m δ' Qd ∧
  ∀ m' v d H', Nv Z' m' δ' σ H' → Stp (zone Z') H H' → Dn Z' (OO Z' σ δ') H' d v → Qd m' d → Q v H'
theorem de_caught (F : XF L Z X (k + 2) ε) {CS g c P : Addr} {stC : Stmt} {fd : FuncData} {x a y n e : Str} {j : Nat} {p1 p2 p3 p4 p5 p6 p7 p8 p9 q1 q2 q3 q4 q5 : Pos} {params : Arguments} {body : Expr} {scope : Scope} {p lpos : Pos} {R : (Nat → Str → Prop) → TD} {J : Str → Bool}
    (Fu : Fun X.K x x stC g fd) (hm : X.mg x = some (.ref g)) (bC : Binds X.K fd [a] []) (Sg : FnScope [a, y, n] [a] (defScope stC))
    (hbd : defBody stC = [.Assign [.Name y p1] (.Constant .none j p2) p3, .Try [.Expr (.Call (.Name a p4) [] [] p5) p6] [.ExceptHandler (some (.Name e q1)) (some n) [.Assign [.Name y p7] (.Name n p8) p9] q2] [] [] q3, .Return (some (.Name y q5)) q4])
    (hge : (defScope stC).names.lookup e = some .globalImplicit) (hme : X.mg e = some (.ref CS)) (hy : (defScope stC).names.lookup y = some .local) (hn : (defScope stC).names.lookup n = some .local) (ha : (defScope stC).names.lookup a = some .local)
    (hJ : ∀ c, J c = true → PySem.W.exmOne X.K (.ref (L.cls c)) (.ref CS) = some true)
    (TB : LamX.TabB X.base X.mg c P) (hcode : X.env.code = .ref c) (hmT : (P, X.env.qual ++ "<lambda>") ∈ L.T) (hu : ∀ p ∈ L.T, p.1 = P → p.2 = X.env.qual ++ "<lambda>") (LS : LamX.LamS X.env.scope scope) (hdef : defaultsOf params X.env = ([], []))
    (hbind : ∀ (q : Str) (cl : List (Str × Addr)) (pm cv ctv : Value), bindArgs (PySem.W.kla_fn "<lambda>" q params body scope cl pm cv ctv) ⟨[], []⟩ = pure [])
    (hbody : ∀ (Z' : Zs) (A : Around) (outer : List PySem.Env) (s : Shared) (H : Hp) (E : XK) (f c' : Addr) (ε' : Nat → Str → Prop), XF L Z' (LamX.lamCx X A outer s H E scope f c') k ε' → DE Z' (LamX.lamCx X A outer s H E scope f c') body (R ε'))
    (hg : Gl X x := by rfl) (dx : (x == ("__debug__" : Str)) = false := by decide) (de : (e == ("__debug__" : Str)) = false := by decide) (nd : [a, y, n].Nodup := by decide)
    (dn : (n == ("__debug__" : Str)) = false := by decide) (dn2 : (n == ("__classdict__" : Str)) = false := by decide) (dy : (y == ("__debug__" : Str)) = false := by decide) (dy2 : (y == ("__classdict__" : Str)) = false := by decide)
    (da : (a == ("__debug__" : Str)) = false := by decide) (da2 : (a == ("__classdict__" : Str)) = false := by decide)
    (s1 : ∀ env : PySem.Env, swapsWith (.Constant .none j p2) (some (.Name y p1)) p3.line env = pure false := by intro _; rfl) (s2 : ∀ env : PySem.Env, swapsWith (.Name n p8) (some (.Name y p7)) p9.line env = pure false := by intro _; rfl) (s3 : ∀ env : PySem.Env, swapsWith (.Call (.Name a p4) [] [] p5) none p6.line env = pure false := by intro _; rfl) :
    DE Z X (.Call (.Name x p) [.Lambda params body scope lpos] [] pos) (rCaught J R) := by
  obtain ⟨oc, od, kV, doc, pm, an, cdv, ct, osl, rfl, lk, hcd⟩ := Fu.ex
  have hG : LamX.GivesTo X [a, y, n] x (defScope stC) g cdv (defBody stC) a (X.env.qual ++ "<lambda>") (TTcg X.K CS) := by
    rw [hbd]
    exact cg_gives hge hme de nd hy hn ha dn dn2 dy dy2 s1 s2 s3
  refine ⟨_, LamX.pe_lamcall (T := L.T) (t := tAny L R) (k := k) hg hm Fu.kp lk hcd bC Sg rfl (Or.inl ha) hG TB hcode hmT hu F.room LS hdef hbind (fun A outer s H E f c' hr => ⟨fun pins s' σ H1 Q I h => ?_⟩) dx da da2, fun m δ σ H Q R' nv h q => ?_⟩
  · obtain ⟨Z1, ε1, mm, δ1, Qd, hL, zk, hw, n1, hR, hq⟩ := h
    have F1 : XF L Z1 (LamX.lamCx X A outer s H E scope f c') k ε1 := by
      refine ⟨hL, zk, ?_, F.nd, rfl, hr, passes_of rfl, Takes.imp (L2.takes_of rfl rfl rfl rfl) fun cls d σ' H' hh => hw cls d H' hh, ?_⟩
      · show X.K = Z1.L.K
        rw [hL]; have := F.K; rw [Zs.K, F.hL] at this; exact this
      · show X.w = Z1.L.w
        rw [hL]; have := F.W; rw [Zs.w, F.hL] at this; exact this
    obtain ⟨T, P, sem⟩ := (hbody Z1 A outer s H E f c' ε1 F1).ex
    exact P.run pins s' σ H1 Q I (sem mm δ1 σ H1 Qd Q n1 hR hq)
  · have hT : LamX.Tabs L.T H := by have := nv.gi.tabs; rw [Zs.T, F.hL] at this; exact this
    refine ⟨hT, fun H1 eN T1 R2 hR2 => ?_⟩
    have g1 : Gi Z m H1 := nv.gi.extN eN (by rw [Zs.T, F.hL]; exact T1)
    have sx : Stp (zone Z) H H1 := Stp.ext eN
    have n1 := nv.go F.zok sx g1
    refine ⟨Z.inner σ δ H1, fun m c => J c = true ∧ Q m (.exc c), m, hideE δ, fun m _ => Q m .non, F.hL, F.zok.inner n1, fun cls d H' hw => ?_, n1.hide F.zok, h, fun m v d H' n2 s2 _ hq => ?_⟩
    · obtain ⟨m', c0, rfl, rfl, ⟨hj, hq⟩, s2, g2⟩ := hw
      refine ⟨true, ?_, fun _ => ⟨rfl, fun a0 na => ?_⟩, fun z => by cases z⟩
      · have := hJ c0 hj
        show PySem.W.exmOne X.K (.ref (Z.L.cls c0)) (.ref CS) = some true
        rw [F.hL]; exact this
      · have n3 := n1.go F.zok s2 g2.outer
        have n4 := n3.same F.zok (same_upd (o := CgO (.ref (Z.cls c0)) a0) na)
        refine q _ (.ref a0) (.exc c0) _ n4 ((sx.trans s2).trans (.same (same_upd na))) ?_ hq
        unfold Dn
        exact ⟨a0, rfl, n3.fresh F.zok na, upd_same⟩
    · exact hR2 v H' (q _ .non .non H' (n1.go F.zok s2 n2.gi.outer) (sx.trans s2) (dn_non.mpr rfl) hq)
end
end DL

namespace DL
open PySem L2 PySem.Spec PyProof.Rows
section
variable {L : Ls} {Z Z' : Zs} {X : Cx} {k : Nat} {ε : Nat → Str → Prop} {e : Expr} {es : List Expr} {te : TD} {t : TL} {pos : Pos} {δ : Env} {σ : L2.St} {H H' : Hp}
/-! ### isinstance of what was caught -/
def rIsC (K : PySem.W.Frag) : List V → Hp → VK → Prop := fun xs H Q => ∃ (a D : Addr) (c : V) (cv : Value) (b : Bool), xs = [.ref a, c] ∧ H a = some (CgO (.ref D) a) ∧ ExcC K D ∧ ClsV c cv ∧ PySem.W.kitOne K (.ref D) cv = some b ∧ Q (.bl b) H
theorem call_isC : CallR X (.builtin "isinstance") (rIsC X.K) := by
  intro pins s σ H xs us Q I r h
  obtain ⟨a, D, c, cv, b, rfl, ha, C, kv, e, q⟩ := h
  obtain ⟨u1, u2, rfl, r1, r2⟩ := vals2 r
  cases r1
  have e2 := kv.eq r2
  subst e2
  obtain ⟨oe, vs, hget, hz, hv⟩ := (I.hok a _ ha).1
  have J : PySem.W.InstAt s.heap a oe D none := by
    obtain ⟨oc, od, oda, osl⟩ := oe
    obtain ⟨h1, h2⟩ := hz
    dsimp only at h1 h2 hv
    subst h1 h2 hv
    exact ⟨hget, rfl, rfl, trivial⟩
  exact PySem.W.kia_one (PySem.W.handS_kitx_exc C.hg C.hk C.hs C.hd C.ha C.hn C.ht C.hm) I.kIn J e (fun z => nomatch z) fun tk => ⟨.bl b, H, I.kept (t' := tk) fun _ _ z => z, rfl, q⟩
/-- the classes: which is which's -/
structure ClsT (K : PySem.W.Frag) (L : Ls) (J : Str → D → Option Bool) : Prop where
  ex : ∀ c t b, J c t = some b → ExcC K (L.cls c) ∧ ((∃ c2, t = .cl c2 ∧ PySem.W.kitOne K (.ref (L.cls c)) (.ref (L.cls c2)) = some b) ∨ ∃ n, t = .ty n ∧ PySem.W.kitOne K (.ref (L.cls c)) (.type n) = some b)
def dIsC (J : Str → D → Option Bool) : List D → (D → Prop) → Prop
  | [.exc c, t], Q => ∃ b, J c t = some b ∧ Q (.bl b)
  | _, _ => False
theorem k_isC (F : XF L Z X k ε) {J : Str → D → Option Bool} (T : ClsT X.K L J) : CalD Z X (.builtin "isinstance") (dIsC J) := by
  refine ⟨_, call_isC, fun P H xs ds Q R hp gi hd hg kk => ?_⟩
  unfold dIsC at hg
  split at hg
  · obtain ⟨b, hj, hg⟩ := hg
    obtain ⟨v, w, rfl, h, h'⟩ := hd.two
    unfold Dn at h
    obtain ⟨a, rfl, _, ha⟩ := h
    obtain ⟨C, hc | hc⟩ := T.ex _ _ _ hj
    · obtain ⟨c2, rfl, hk⟩ := hc
      rw [dn_cl.mp h']
      have e1 : Z.cls = L.cls := by rw [Zs.cls, F.hL]
      rw [e1] at ha ⊢
      exact ⟨a, _, _, _, b, rfl, ha, C, .own _, hk, kk _ _ H (Same.refl _) (dn_bl.mpr rfl) hg⟩
    · obtain ⟨n, rfl, hk⟩ := hc
      rw [dn_ty.mp h']
      have e1 : Z.cls = L.cls := by rw [Zs.cls, F.hL]
      rw [e1] at ha
      exact ⟨a, _, _, _, b, rfl, ha, C, .ty _, hk, kk _ _ H (Same.refl _) (dn_bl.mpr rfl) hg⟩
  · exact hg.elim
/-- isinstance of None and an own class -/
def rIsN (K : PySem.W.Frag) : List V → Hp → VK → Prop := fun xs H Q => ∃ (x c : V) (t u : Value) (b : Bool), xs = [x, c] ∧ ClsV c u ∧ TyX K H x t ∧ PySem.W.kitOne K t u = some b ∧ Q (.bl b) H
/-- of data and a class: by the class's table -/
structure ClsB (K : PySem.W.Frag) (L : Ls) (cs : List Str) : Prop where
  ex : ∀ c ∈ cs, ∀ n ∈ ["NoneType", "bool", "int", "str", "tuple", "list", "dict"], PySem.W.kitOne K (.type n) (.ref (L.cls c)) = some false
def dIsO (cs : List Str) : List D → (D → Prop) → Prop
  | [d, .cl c], Q => c ∈ cs ∧ (∃ m, d.tyName = some m) ∧ Q (.bl false)
  | _, _ => False
theorem tyName_mem {d : D} {m : String} (h : d.tyName = some m) : m ∈ ["NoneType", "bool", "int", "str", "tuple", "list", "dict"] := by
  cases d <;> simp only [D.tyName] at h <;> cases h <;> decide
theorem k_isO (F : XF L Z X k ε) {cs : List Str} (T : ClsB X.K L cs) : CalD Z X (.builtin "isinstance") (dIsO cs) := by
  refine ⟨_, call_isi, fun P H xs ds Q R hp gi hd hg kk => ?_⟩
  unfold dIsO at hg
  split at hg
  · obtain ⟨hc, ⟨m, e⟩, hg⟩ := hg
    obtain ⟨v, w, rfl, h, h'⟩ := hd.two
    rw [dn_cl.mp h']
    have e1 : Z.cls = L.cls := by rw [Zs.cls, F.hL]
    rw [e1]
    exact ⟨v, _, _, _, false, rfl, .own _, by rw [F.K]; exact ty_of h e, T.ex _ hc m (tyName_mem e), kk _ _ H (Same.refl _) (dn_bl.mpr rfl) hg⟩
  · exact hg.elim
/-- of data and some built-in classes -/
@[simp] def anyB (m : String) : List D → Option Bool
  | [] => some false
  | .ty n :: r => match kitB m n, anyB m r with
    | some true, some _ => some true
    | some false, x => x
    | _, _ => none
  | _ :: _ => none
def dIsT : List D → (D → Prop) → Prop
  | [d, .tup cs], Q => ∃ m b, d.tyName = some m ∧ anyB m cs = some b ∧ Q (.bl b)
  | _, _ => False
theorem anyB_cls {P : Addr → Prop} {K : PySem.W.Frag} {m : String} : ∀ {cs : List D} {vs : List V} {b : Bool}, DnL Z P H cs vs → anyB m cs = some b → ∃ us, Paired ClsV vs us ∧ PySem.W.kitAny K (.type m) us = some b
  | [], vs, b, l, e => by
    rw [l.of_nil]
    unfold anyB at e
    cases e
    exact ⟨[], .nil, rfl⟩
  | c :: cs, vs, b, l, e => by
    obtain ⟨v, r, rfl, h1, h2⟩ := l.of_cons
    cases c <;> unfold anyB at e <;> first | cases e | skip
    rename_i n
    rw [dn_ty.mp h1]
    cases q : kitB m n with
    | none => rw [q] at e; cases e
    | some b0 =>
      rw [q] at e
      have hk : PySem.W.kitOne K (.type m) (.type n) = some b0 := kit_ty q
      cases b0 with
      | true =>
        cases q2 : anyB m cs with
        | none => rw [q2] at e; cases e
        | some b1 =>
          rw [q2] at e
          cases e
          obtain ⟨us, p, _⟩ := anyB_cls (K := K) h2 q2
          exact ⟨.type n :: us, .cons (.ty n) p, by unfold PySem.W.kitAny; rw [hk]⟩
      | false =>
        obtain ⟨us, p, ek⟩ := anyB_cls (K := K) h2 e
        exact ⟨.type n :: us, .cons (.ty n) p, by unfold PySem.W.kitAny; rw [hk]; exact ek⟩
/-- isinstance(x, (T, ..)), the classes in a tuple that was just laid -/
def rIsA (K : PySem.W.Frag) : List V → Hp → VK → Prop := fun xs H Q => ∃ (x : V) (tp : Addr) (cs : List V) (t : Value) (us : List Value) (b : Bool), xs = [x, .ref tp] ∧ SqT K H tp cs ∧ Paired ClsV cs us ∧ TyX K H x t ∧ PySem.W.kitAny K t us = some b ∧ Q (.bl b) H
theorem call_isA : CallR X (.builtin "isinstance") (rIsA X.K) := by
  intro pins s σ H xs us Q I r h
  obtain ⟨x, tp, cs, t, ws, b, rfl, hT, k, ty, e, q⟩ := h
  obtain ⟨u1, u2, rfl, r1, r2⟩ := vals2 r
  cases (show u2 = Value.ref tp from r2)
  obtain ⟨P, Z, p, hx⟩ := kit_of I r1 ty
  obtain ⟨its, rv, ⟨o, h1, h2, n, h3⟩, _⟩ := I.tuple hT
  have e3 := ClsV.all k rv
  subst e3
  obtain ⟨oc, od, dt, sl⟩ := o
  simp only at h2 h3
  subst h2 h3
  exact PySem.W.kia_tup Z I.kIn p h1 e hx fun tk => ⟨.bl b, H, I.tok tk, rfl, q⟩
theorem k_isT (F : XF L Z X k ε) : CalD Z X (.builtin "isinstance") dIsT := by
  refine ⟨_, call_isA, fun P H xs ds Q R hp gi hd hg kk => ?_⟩
  unfold dIsT at hg
  split at hg
  · obtain ⟨m, b, e, hb, hg⟩ := hg
    obtain ⟨v, w, rfl, h, h'⟩ := hd.two
    obtain ⟨_, a, vs, rfl, t, l⟩ := dn_tupT h'
    obtain ⟨us, p, ek⟩ := anyB_cls (K := X.K) l hb
    exact ⟨v, a, vs, _, us, b, rfl, by rw [F.K]; exact t, p, by rw [F.K]; exact ty_of h e, ek, kk _ _ H (Same.refl _) (dn_bl.mpr rfl) hg⟩
  · exact hg.elim
/-- isinstance, all of it -/
@[simp] def dIsiA (J : Str → D → Option Bool) (cs : List Str) : List D → (D → Prop) → Prop
  | [.exc c, t], Q => ∃ b, J c t = some b ∧ Q (.bl b)
  | [d, .ty n], Q => ∃ m b, d.tyName = some m ∧ kitB m n = some b ∧ Q (.bl b)
  | [d, .cl c], Q => c ∈ cs ∧ (∃ m, d.tyName = some m) ∧ Q (.bl false)
  | [d, .tup cs], Q => ∃ m b, d.tyName = some m ∧ anyB m cs = some b ∧ Q (.bl b)
  | _, _ => False
theorem k_isiA (F : XF L Z X k ε) {J : Str → D → Option Bool} {cs : List Str} (T : ClsT X.K L J) (O : ClsB X.K L cs) : CalD Z X (.builtin "isinstance") (dIsiA J cs) := (((k_isi F.K).or (k_isT F)).or ((k_isC F T).or (k_isO F O))).imp fun ds Q h => by
  unfold dIsiA at h
  split at h
  · exact .inr (.inl h)
  · exact .inl (.inl h)
  · exact .inr (.inr h)
  · exact .inl (.inr h)
  · exact h.elim
end
end DL

namespace DL
open PySem L2 PySem.Spec PyProof.Rows
section
variable {L : Ls} {Z Z' : Zs} {X : Cx} {k : Nat} {ε : Nat → Str → Prop} {e : Expr} {es : List Expr} {te : TD} {t : TL} {pos : Pos} {δ : Env} {σ : L2.St} {H H' : Hp}
/-! ### t == () -/
def rEq0 (K : PySem.W.Frag) : R2 := fun x y H Q => ∃ a b xs, x = .ref a ∧ y = .ref b ∧ SqT K H a xs ∧ SqT K H b [] ∧ Q (.bl xs.isEmpty) H
theorem op_eq0 (hu : X.A.units < cLine) : OpR X (compareOp .Eq) (rEq0 X.K) := by
  intro pins s σ H x y v u Q I rx ry h
  obtain ⟨a, b, xs, rfl, rfl, ha, hb, q⟩ := h
  cases rx
  cases ry
  obtain ⟨its, r, p1, _⟩ := I.tuple ha
  obtain ⟨its2, r2, p2, _⟩ := I.tuple hb
  cases r2
  refine SeqAt.eq_tupleAt (e := fun _ => true) (by obtain ⟨o, h1, h2, h3⟩ := p1; exact ⟨o, h1, h2, h3⟩) (by obtain ⟨o, h1, h2, h3⟩ := p2; exact ⟨o, h1, h2, h3⟩) hu (fun j h1 h2 => absurd h2 (by simp)) ?_
  have e : ((List.range (min its.toArray.size (([] : List Value).toArray).size)).all (fun _ => true) && its.toArray.size == (([] : List Value).toArray).size) = xs.isEmpty := by
    have := r.length
    cases xs <;> cases its <;> simp_all
  rw [e]
  exact ⟨.bl _, H, I, rfl, q⟩
def g0 : D → D → (D → Prop) → Prop
  | .tup ds, .tup [], Q => Q (.bl ds.isEmpty)
  | _, _, _ => False
theorem c_g0 (F : XF L Z X k ε) : BinD Z X (compareOp .Eq) g0 := by
  refine ⟨_, op_eq0 (by have := F.hu; omega), fun P H x y d e Q R hp hd he h q => ?_⟩
  unfold g0 at h
  split at h
  · obtain ⟨_, a, vs, rfl, t, l⟩ := dn_tupT hd
    obtain ⟨_, b, ws, rfl, t2, l2⟩ := dn_tupT he
    rw [l2.of_nil] at t2
    refine ⟨a, b, vs, rfl, rfl, by rw [F.K]; exact t, by rw [F.K]; exact t2, ?_⟩
    have e : vs.isEmpty = (‹List D›).isEmpty := by have := l.length; cases vs <;> cases ‹List D› <;> simp_all
    rw [e]
    exact q _ _ H (Same.refl _) (dn_bl.mpr rfl) h
  · exact h.elim
/-- == with () behind it -/
@[simp] def dEq0 : D → D → (D → Prop) → Prop
  | .tup ds, .tup [], Q => Q (.bl ds.isEmpty)
  | d, e, Q => dEq d e Q
theorem c_eq0 (F : XF L Z X k ε) : BinD Z X (compareOp .Eq) dEq0 := ((c_g0 F).or (c_eq F)).imp fun d e Q h => by
  unfold dEq0 at h
  split at h
  · exact .inl h
  · exact .inr h
/-! ### defs as values -/
theorem de_fn (F : XF L Z X k ε) {x : Str} {p : Pos} (h : ∃ a, X.mg x = some (.ref a) ∧ L.fns x = some a) (hg : Gl X x := by rfl) (hdb : (x == ("__debug__" : Str)) = false := by decide) : DE Z X (.Name x p) (rC (.fn x)) := by
  obtain ⟨a, hm, hf⟩ := h
  refine ⟨_, pe_glob (v := .ref a) hg hm rfl hdb, fun m δ σ H Q R n h r => r _ _ _ H n (.refl _ _) ?_ h⟩
  unfold Dn
  exact ⟨a, rfl, by rw [Zs.fns, F.hL]; exact hf⟩
/-- a local name that holds a def is called -/
@[simp] def rCallV (i n : Nat) (St : Str → Option Spd) (ε : Nat → Str → Prop) (t : TL) : TD := fun m δ Q => match δ[i]? with | some (.val (.fn f)) => ∃ S, St f = some S ∧ t m δ fun m ds => ds.length = n ∧ S ds m Q ε | _ => False
theorem de_callV (F : XF L Z X k ε) {n : Nat} (i : Nat) {x : Str} {p : Pos} {St : Str → Option Spd} (hS : ∀ f S, St f = some S → FnD X.prog X.w X.K X.mg X.base L k f n S) (hf : ∀ f a, L.fns f = some a → X.mg f = some (.ref a)) (ha : DA Z X (e :: es) t)
    (hN : X.N[i]? = some x := by rfl) (hv : Vis X.env.scope x := by first | exact Or.inl rfl | exact Or.inr (Or.inl rfl) | exact Or.inr (Or.inr rfl)) (hdb : (x == ("__debug__" : Str)) = false := by decide) (hcd : (x == ("__classdict__" : Str)) = false := by decide)
    (hs : starEach (e :: es) X.env = (false, eval e X.env) :: starEach es X.env := by rfl) (hpl : (backTo pos (starEach es X.env)).any (·.1) = false := by rfl) : DE Z X (.Call (.Name x p) (e :: es) [] pos) (rCallV i n St ε t) := by
  obtain ⟨T, pa, h⟩ := ha.ex
  let E : XK := fun cls d H' => ∃ m c, cls = .ref (Z.cls c) ∧ d = none ∧ ε m c ∧ Stp (zone Z) Z.H0 H' ∧ Gi Z m H'
  let TT : TE := fun σ H Q => ∃ (a : Addr) (sp : Sp) (fd : FuncData) (ps : List Str), σ[i]? = some (some (.ref a)) ∧ FnOk X.prog X.w X.K X.mg X.base (L2.CX X.prog X.w) k a fd ps sp ∧ PySem.W.keepIn X.K (.ref a) = true ∧ Binds X.K fd ps [] ∧ T σ H fun vs H1 => sp vs H1 Q E
  refine ⟨TT, ⟨fun pins s σ H Q I h => ?_⟩, fun m δ σ H Q R n' q r => ?_⟩
  · obtain ⟨a, sp, fd, ps, h1, ok, kp, b, h2⟩ := h
    refine (pe_callL (i := i) (E := E) ok F.room hN hv kp b .nil (passes_call F.tk fun _ _ _ _ h => h) pa hdb hcd hs hpl).run pins s σ H Q I ⟨h1, ?_⟩
    have e0 : (fun (vs : List V) (H1 : Hp) => sp (vs ++ []) H1 Q E) = fun vs H1 => sp vs H1 Q E := by funext vs H1; rw [List.append_nil]
    show T σ H (fun vs H1 => sp (vs ++ []) H1 Q E)
    rw [e0]; exact h2
  · unfold rCallV at q
    split at q
    · rename_i f hi
      obtain ⟨S, hSf, q⟩ := q
      obtain ⟨v, h1, h2⟩ := n'.val i _ hi
      unfold Dn at h2
      obtain ⟨a, rfl, h2⟩ := h2
      obtain ⟨a', fd, ps, hp, ok, mg, kp, b⟩ := (hS f S hSf).ex
      have e1 : a' = a := by
        have := hf f a (by rw [Zs.fns, F.hL] at h2; exact h2)
        rw [mg] at this; cases this; rfl
      subst e1
      refine ⟨a', _, fd, ps, h1, ok, kp, b, h m δ σ H _ _ n' q fun m vs ds H1 n1 s1 d1 g1 => ?_⟩
      exact prom_at F n1 d1 g1.1 g1.2 fun m v d H' n2 s2 dv hq => r _ v d H' n2 (s1.trans s2) dv hq
    · exact q.elim
/-! ### while True -/
theorem dt_true (F : XF L Z X k ε) {j : Nat} : DT Z X (.Constant (.bool true) j pos) rYes := by
  have h := dt_truth (a := .Constant (.bool true) j pos) F (de_bl (b := true) F)
  obtain ⟨T, p, s⟩ := h.ex
  exact ⟨T, p, fun m δ σ H Q R n q r => s m δ σ H Q R n (show rTru (rC (.bl true)) m δ Q from q) r⟩
/-! ### own + .. -/
@[simp] def rCatOwn (i : Nat) (te : TD) : TL := fun m δ Q => match δ[i]? with
  | some (.own ds) => te m δ fun m d => match d with
    | .lst es => ds.length + es.length ≤ sizeLine ∧ Q m (ds ++ es)
    | _ => False
  | _ => False
theorem del_catOwn (F : XF L Z X k ε) (i : Nat) {x : Str} {p : Pos} (he : DE Z X e te) (hN : X.N[i]? = some x := by rfl) (hv : Vis X.env.scope x := by first | exact Or.inl rfl | exact Or.inr (Or.inl rfl) | exact Or.inr (Or.inr rfl))
    (hd : (x == ("__debug__" : Str)) = false := by decide) (hcd : (x == ("__classdict__" : Str)) = false := by decide) : DEl Z X (.BinOp (.Name x p) .Add e pos) (rCatOwn i te) := by
  obtain ⟨T, pe, h⟩ := he.ex
  refine ⟨_, pe_op op_cat (pe_var hN hv hd hcd) pe, fun m δ σ H Q R n g q => ?_⟩
  unfold rCatOwn at g
  split at g
  · rename_i ds hi
    obtain ⟨a, vs, h1, h2, h3, h4, h5, h6⟩ := n.own i ds hi
    refine ⟨.ref a, h1, h m δ σ H _ _ n g fun m v d H1 n1 s1 d1 q1 => ?_⟩
    cases d <;> first | exact q1.elim | skip
    rename_i es
    obtain ⟨hz, hq⟩ := q1
    obtain ⟨a', us, e1, e2, e3, _⟩ := n1.own i ds hi
    rw [h1] at e1; cases e1
    obtain ⟨_, b, ws, rfl, pb, tb, lb⟩ := dn_lst.mp d1
    have l1 := e3.length
    have l2 := lb.length
    exact ⟨a, b, us, ws, rfl, rfl, e2, tb, by omega, el_of F n1 s1 (e3.append lb) (by rw [List.length_append]; exact hz) hq q⟩
  · exact g.elim
end
end DL

/-! Displays of constants: the reading is the constant. -/
namespace DL
open PySem L2
section
variable {L : Ls} {Z : Zs} {X : Cx} {k : Nat} {ε : Nat → Str → Prop} {e : Expr} {es : List Expr} {te : TD} {t : TL} {pos : Pos}
theorem DE.imp {t t' : TD} (h : DE Z X e t) (i : ∀ m δ Q, t' m δ Q → t m δ Q) : DE Z X e t' := by
  obtain ⟨T, p, h⟩ := h.ex
  exact ⟨T, p, fun m δ σ H Q R n q r => h m δ σ H Q R n (i m δ Q q) r⟩
@[simp] def rK (ds : List D) : TL := fun m _ Q => Q m ds
theorem da_nilC : DA Z X [] (rK []) := da_nil
theorem da_consC (F : XF L Z X k ε) {d : D} {ds : List D} (ha : DE Z X e (rC d)) (hr : DA Z X es (rK ds)) (hs : starEach (e :: es) X.env = (false, eval e X.env) :: starEach es X.env := by rfl) : DA Z X (e :: es) (rK (d :: ds)) := da_cons F ha hr hs
theorem de_tupC (F : XF L Z X k ε) {x1} {ds : List D} (ha : DA Z X es (rK ds)) (hz : ds.length ≤ 1000 := by decide) : DE Z X (.Tuple es x1 pos) (rC (.tup ds)) :=
  (de_tup F ha).imp fun m δ Q q => ⟨by rw [sizeLine_eq]; omega, q⟩
theorem de_lstC (F : XF L Z X k ε) {ds : List D} (ha : DA Z X es (rK ds)) (hz : ds.length ≤ 1000 := by decide) : DE Z X (.List es pos) (rC (.lst ds)) :=
  (de_lst F ha).imp fun m δ Q q => ⟨by rw [sizeLine_eq]; omega, q⟩
theorem de_negC {a : Expr} {i : Int} (h : DE Z X a (rC (.int i))) : DE Z X (.UnaryOp .USub a pos) (rC (.int (-i))) := (de_neg h).imp fun m δ Q q => q
theorem de_powC (F : XF L Z X k ε) {a b : Expr} {i j : Int} (ha : DE Z X a (rC (.int i))) (hb : DE Z X b (rC (.int j))) (h : CPow i j := by unfold CPow; omega) : DE Z X (.BinOp a .Pow b pos) (rC (.int (i ^ j.toNat))) :=
  (de_op F o_pow ha hb).imp fun m δ Q q => ⟨h, q⟩
end
end DL

/-! Tools for the plain side: readings are unfolded by simp. -/
namespace DL
open PySem L2
/-- a walk through a list: an invariant, by the way of what is to come -/
theorem loop_inv {τ : Tgt} {t : TSd} {B : EndsD} (I : List D → Nat → Env → Prop) : ∀ (ds : List D) (m : Nat) (δ : Env), I ds m δ →
    (∀ d ds m δ (k : Nat → Env → Prop), I (d :: ds) m δ → (∀ m' δ', I ds m' δ' → k m' δ') → gD τ d δ fun δ' => t { B with nx := k, ct := k, bk := B.nx } m δ') → (∀ m δ, I [] m δ → B.nx m δ) → rLoop τ t B ds m δ
  | [], m, δ, h, _, e => e m δ h
  | d :: ds, m, δ, h, s, e => s d ds m δ _ h fun m' δ' h' => loop_inv I ds m' δ' h' s e
theorem lc_map {τ : Tgt} {tt : TB} {te : TD} {m : Nat} {δ : Env} {Q : Nat → List D → Prop} (f : D → Option D) : ∀ (ds acc : List D),
    (∀ d ∈ ds, ∀ K : Nat → Option D → Prop, K m (f d) → gD τ d δ fun δ2 => tt m δ2 fun m b => if b = true then te m δ2 fun m y => K m (some y) else K m none) → Q m (acc ++ ds.filterMap f) → rLcGo τ tt te ds acc m δ Q
  | [], acc, _, q => by simpa [rLcGo] using q
  | d :: ds, acc, h, q => by
    unfold rLcGo
    refine h d List.mem_cons_self (fun m o => match o with | some y => rLcGo τ tt te ds (acc ++ [y]) m δ Q | none => rLcGo τ tt te ds acc m δ Q) ?_
    cases e : f d with
    | none => exact lc_map f ds acc (fun d hd => h d (List.mem_cons_of_mem _ hd)) (by rw [List.filterMap_cons_none e] at q; exact q)
    | some y => exact lc_map f ds (acc ++ [y]) (fun d hd => h d (List.mem_cons_of_mem _ hd)) (by rw [List.filterMap_cons_some e] at q; rw [List.append_assoc]; exact q)
/-! isinstance's table -/
@[simp] theorem kit_NoneType_int : kitB "NoneType" "int" = some false := by decide +kernel
@[simp] theorem kit_NoneType_bool : kitB "NoneType" "bool" = some false := by decide +kernel
@[simp] theorem kit_NoneType_tuple : kitB "NoneType" "tuple" = some false := by decide +kernel
@[simp] theorem kit_NoneType_str : kitB "NoneType" "str" = some false := by decide +kernel
@[simp] theorem kit_NoneType_list : kitB "NoneType" "list" = some false := by decide +kernel
@[simp] theorem kit_NoneType_dict : kitB "NoneType" "dict" = some false := by decide +kernel
@[simp] theorem kit_bool_int : kitB "bool" "int" = some true := by decide +kernel
@[simp] theorem kit_bool_bool : kitB "bool" "bool" = some true := by decide +kernel
@[simp] theorem kit_bool_tuple : kitB "bool" "tuple" = some false := by decide +kernel
@[simp] theorem kit_bool_str : kitB "bool" "str" = some false := by decide +kernel
@[simp] theorem kit_bool_list : kitB "bool" "list" = some false := by decide +kernel
@[simp] theorem kit_bool_dict : kitB "bool" "dict" = some false := by decide +kernel
@[simp] theorem kit_int_int : kitB "int" "int" = some true := by decide +kernel
@[simp] theorem kit_int_bool : kitB "int" "bool" = some false := by decide +kernel
@[simp] theorem kit_int_tuple : kitB "int" "tuple" = some false := by decide +kernel
@[simp] theorem kit_int_str : kitB "int" "str" = some false := by decide +kernel
@[simp] theorem kit_int_list : kitB "int" "list" = some false := by decide +kernel
@[simp] theorem kit_int_dict : kitB "int" "dict" = some false := by decide +kernel
@[simp] theorem kit_str_int : kitB "str" "int" = some false := by decide +kernel
@[simp] theorem kit_str_bool : kitB "str" "bool" = some false := by decide +kernel
@[simp] theorem kit_str_tuple : kitB "str" "tuple" = some false := by decide +kernel
@[simp] theorem kit_str_str : kitB "str" "str" = some true := by decide +kernel
@[simp] theorem kit_str_list : kitB "str" "list" = some false := by decide +kernel
@[simp] theorem kit_str_dict : kitB "str" "dict" = some false := by decide +kernel
@[simp] theorem kit_tuple_int : kitB "tuple" "int" = some false := by decide +kernel
@[simp] theorem kit_tuple_bool : kitB "tuple" "bool" = some false := by decide +kernel
@[simp] theorem kit_tuple_tuple : kitB "tuple" "tuple" = some true := by decide +kernel
@[simp] theorem kit_tuple_str : kitB "tuple" "str" = some false := by decide +kernel
@[simp] theorem kit_tuple_list : kitB "tuple" "list" = some false := by decide +kernel
@[simp] theorem kit_tuple_dict : kitB "tuple" "dict" = some false := by decide +kernel
@[simp] theorem kit_list_int : kitB "list" "int" = some false := by decide +kernel
@[simp] theorem kit_list_bool : kitB "list" "bool" = some false := by decide +kernel
@[simp] theorem kit_list_tuple : kitB "list" "tuple" = some false := by decide +kernel
@[simp] theorem kit_list_str : kitB "list" "str" = some false := by decide +kernel
@[simp] theorem kit_list_list : kitB "list" "list" = some true := by decide +kernel
@[simp] theorem kit_list_dict : kitB "list" "dict" = some false := by decide +kernel
@[simp] theorem kit_dict_int : kitB "dict" "int" = some false := by decide +kernel
@[simp] theorem kit_dict_bool : kitB "dict" "bool" = some false := by decide +kernel
@[simp] theorem kit_dict_tuple : kitB "dict" "tuple" = some false := by decide +kernel
@[simp] theorem kit_dict_str : kitB "dict" "str" = some false := by decide +kernel
@[simp] theorem kit_dict_list : kitB "dict" "list" = some false := by decide +kernel
@[simp] theorem kit_dict_dict : kitB "dict" "dict" = some true := by decide +kernel
/-- data with a built-in class -/
def D.typed : D → Bool
  | .non | .bl _ | .int _ | .str _ | .tup _ | .lst _ | .emp => true
  | _ => false
def D.isInt : D → Bool | .int _ | .bl _ => true | _ => false
def D.isBool : D → Bool | .bl _ => true | _ => false
def D.isTup : D → Bool | .tup _ => true | _ => false
end DL

/-! What all laws share: the random numbers. -/
namespace DL
open PySem L2
/-! ### equality by constructors -/
@[simp] theorem shp_int (i : Int) : (D.int i).shp = true := rfl
@[simp] theorem shp_bl (b : Bool) : (D.bl b).shp = true := rfl
@[simp] theorem shp_non : D.non.shp = true := rfl
@[simp] theorem shp_tup0 : (D.tup []).shp = true := rfl
@[simp] theorem shp_lst0 : (D.lst []).shp = true := rfl
@[simp] theorem eqv_int (i j : Int) : (D.int i).eqv (.int j) = decide (i = j) := by
  unfold D.eqv D.py PyData.eqv
  by_cases h : i = j <;> simp [h]
theorem py_ints (ns : List Int) : D.pyL (ns.map D.int) = ns.map PyData.int := by
  induction ns with
  | nil => rfl
  | cons n ns ih => unfold List.map; unfold D.pyL; rw [ih]; rfl
@[simp] theorem shp_lsti (ns : List Int) : (D.lst (ns.map D.int)).shp = true := by
  unfold D.shp D.py
  rw [py_ints]
  exact ints_shaped ns
theorem shp_tupi (ns : List Int) : (D.tup (ns.map D.int)).shp = true := by
  unfold D.shp D.py
  rw [py_ints]
  unfold SeqAt.shaped
  rw [Bool.and_eq_true]
  refine ⟨ints_lay ns, decide_eq_true ?_⟩
  show PyData.depthAll (ns.map .int) + 1 ≤ 64
  rw [ints_depth ns]; decide
theorem eqvs_ints : ∀ ns ms : List Int, PyData.eqvAll (ns.map PyData.int) (ms.map PyData.int) = decide (ns = ms)
  | [], [] => by simp [PyData.eqvAll]
  | [], m :: ms => by simp [PyData.eqvAll]
  | n :: ns, [] => by simp [PyData.eqvAll]
  | n :: ns, m :: ms => by
    simp only [List.map_cons, PyData.eqvAll, eqvs_ints ns ms, PyData.eqv, List.cons.injEq]
    by_cases h : n = m <;> simp [h]
@[simp] theorem eqv_lsti (ns ms : List Int) : (D.lst (ns.map D.int)).eqv (.lst (ms.map D.int)) = decide (ns = ms) := by
  unfold D.eqv D.py
  rw [py_ints, py_ints]
  unfold PyData.eqv
  exact eqvs_ints ns ms
theorem eqv_tupi (ns ms : List Int) : (D.tup (ns.map D.int)).eqv (.tup (ms.map D.int)) = decide (ns = ms) := by
  unfold D.eqv D.py
  rw [py_ints, py_ints]
  unfold PyData.eqv
  exact eqvs_ints ns ms
/-! ### the readings -/
def rBlended : TSd := (rSeq (rPar [1, 2] (pVal (rOp dAdd (rStTurn 0) (rC (.int 1))) (pVal (rC (.int 0)) pNil))) (rSeq (rStTurnSet 0 (rVar 1)) (rSeq (rFor (.one 3) (rIt (rC (.lst [(.int 2147483077), (.int 2147483069), (.int 2147483059)]))) (rSeq (rSet 4 (rOp dAdd (rOp dMul (rC (.int 40692)) (rVar 1)) (rOp dFdiv (rVar 3) (rC (.int 83))))) (rSeq (rFor (.one 5) (rStCells 0) (rSet 4 (rOp dMod (rCall dInt (rCons (rOp dAdd (rOp dAdd (rOp dMul (rVar 4) (rC (.int 69621))) (rVar 5)) (rVar 1)) rNil)) (rVar 3)))) (rSet 2 (rOp dAdd (rOp dMul (rVar 2) (rC (.int 2147483647))) (rOp dMod (rCall dInt (rCons (rOp dPow (rVar 4) (rC (.int 5))) rNil)) (rVar 3))))))) (rRet (rVar 2)))))
def rDraw (S__law_blended : Spd) (ε : Nat → Str → Prop) : TSd := (rSeq (rIfS (rTest (rOp dEq (rStInt 0) (rC (.int 0)))) (rStSet 0 (rStPop 0 (rFn 1 S__law_blended ε (rCons (rVar 0) rNil)))) rNext) (rSeq (rSet 2 (rOp dMod (rCall dInt (rCons (rStInt 0) rNil)) (rVar 1))) (rSeq (rStSet 0 (rOp dFdiv (rStInt 0) (rVar 1))) (rRet (rVar 2)))))
def rPick (S__law_draw : Spd) (ε : Nat → Str → Prop) : TSd := (rRet (rOp dIx (rVar 1) (rFn 2 S__law_draw ε (rCons (rVar 0) (rCons (rCall dLenA (rCons (rVar 1) rNil)) rNil)))))
def rMixed (S__law_draw : Spd) (ε : Nat → Str → Prop) : TSd := (rSeq (rPar [2, 3] (pOwn (rListOf (rVar 1)) (pOwn (rLs rNil) pNil))) (rSeq (rWhile (rBrwT 2 (rTest (rOp dNe (rVar 2) (rLst rNil)))) (rAppPop 3 2 (rFn 2 S__law_draw ε (rCons (rVar 0) (rCons (rBrw 2 (rCall dLenA (rCons (rVar 2) rNil))) rNil))))) (rFrz 3 (rRet (rVar 3)))))
def rBegun1 : TL := (rLc (.one 2) [2] (rScr (rVar 0)) (rTest (rOp dGe (rCall dAbs (rCons (rVar 2) rNil)) (rC (.int 1000000000000000000)))) (rOp dSub (rCall dAbs (rCons (rVar 2) rNil)) (rC (.int 1000000000000000000))))
def rBegun2 : TL := (rLc (.one 2) [2] (rScr (rVar 0)) rYes (rCall dAbs (rCons (rVar 2) rNil)))
/-! ### the promises -/
/-- data that may lie in a list that == is asked of -/
def D.shq (d : D) : Bool := d.py.canLay0 && decide (d.py.depth ≤ 63)
def CAP : Nat := 1099511627776
def S_blended : Spd := fun ds m Q _ => ds = [.rng] ∧ m < CAP ∧ ∀ m' (r : Int), m' ≤ m + 1 → 0 ≤ r → Q m' (.int r)
def S_draw : Spd := fun ds m Q _ => ∃ n : Int, ds = [.rng, .int n] ∧ 0 < n ∧ n < 1073741824 ∧ m < CAP ∧ ∀ m' (r : Int), m' ≤ m + 1 → 0 ≤ r → r < n → Q m' (.int r)
def S_pick : Spd := fun ds m Q _ => ∃ xs, (ds = [.rng, .lst xs] ∨ ds = [.rng, .tup xs]) ∧ xs ≠ [] ∧ xs.length < 1073741824 ∧ m < CAP ∧ ∀ m' x, m' ≤ m + 1 → x ∈ xs → Q m' x
def S_mixed : Spd := fun ds m Q _ => ∃ xs, (ds = [.rng, .lst xs] ∨ ds = [.rng, .tup xs]) ∧ (∀ x ∈ xs, x.shq = true) ∧ xs.length ≤ 1000000 ∧ m + xs.length ≤ CAP ∧ ∀ m' ys, m' ≤ m + xs.length → ys.Perm xs → Q m' (.lst ys)

theorem atI_nat {α : Type} {xs : List α} {i : Int} (h0 : 0 ≤ i) (h : i < xs.length) : ∃ x, atI xs i = some x ∧ x ∈ xs := by
  have hl : i.toNat < xs.length := by omega
  refine ⟨xs[i.toNat], ?_, List.getElem_mem hl⟩
  unfold atI ixN
  rw [if_pos h0, if_pos h]
  exact List.getElem?_eq_getElem hl
theorem atI_eq {α : Type} {xs : List α} {i : Nat} (h : i < xs.length) : atI xs (i : Int) = some xs[i] := by
  unfold atI ixN
  rw [if_pos (by omega), if_pos (by omega)]
  exact List.getElem?_eq_getElem h
theorem p_blended (ε : Nat → Str → Prop) (ds : List D) (m : Nat) (Q : Nat → D → Prop) (hl : ds.length = 1) (h : S_blended ds m Q ε) :
    rBlended { nx := fun m _ => Q m .non, rt := Q } m (params ["state", "turn", "found", "prime", "blend", "cell"] ds) := by
  obtain ⟨rfl, hm, q⟩ := h
  have hc : CAP = 1099511627776 := rfl
  unfold rBlended
  simp
  intro t h0 h1
  refine ⟨by omega, ?_⟩
  refine loop_inv (fun ds m' δ => m' = (t + 1).toNat ∧ (∀ d ∈ ds, ∃ p : Int, d = .int p ∧ 0 < p ∧ p < 2147483648) ∧ ∃ (f : Int) (x y z : Slot), 0 ≤ f ∧ δ = [.val .rng, .val (.int (t + 1)), .val (.int f), x, y, z]) _ _ _ ⟨rfl, by
    intro d hd
    simp at hd
    rcases hd with rfl | rfl | rfl <;> exact ⟨_, rfl, by omega, by omega⟩, 0, .no, .no, .no, by omega, rfl⟩ ?_ ?_
  · rintro d ds m' δ k ⟨rfl, hd, f, x, y, z, hf, rfl⟩ hk
    obtain ⟨p, rfl, hp, hp2⟩ := hd d List.mem_cons_self
    simp
    refine ⟨by unfold CMul; omega, by unfold CDivN; omega, ?_⟩
    intro cs c0 cn
    have hb : 0 ≤ 40692 * (t + 1) + p.fdiv 83 := by
      have : 0 ≤ p.fdiv 83 := Int.fdiv_nonneg (by omega) (by omega)
      omega
    have hb2 : 40692 * (t + 1) + p.fdiv 83 < 2 ^ 63 := by
      have : p.fdiv 83 ≤ p := by
        rw [Int.fdiv_eq_ediv_of_nonneg _ (by omega)]; omega
      omega
    refine loop_inv (fun ds m' δ => m' = (t + 1).toNat ∧ (∀ d ∈ ds, ∃ c : Int, d = .int c ∧ 0 ≤ c) ∧ ∃ (b : Int) (z : Slot), 0 ≤ b ∧ b < 2 ^ 63 ∧ δ = [.val .rng, .val (.int (t + 1)), .val (.int f), .val (.int p), .val (.int b), z]) _ _ _ ⟨rfl, by
      intro d hd
      obtain ⟨c, hc, rfl⟩ := List.mem_map.mp hd
      exact ⟨c, rfl, c0 c hc⟩, _, z, hb, hb2, rfl⟩ ?_ ?_
    · rintro d ds m' δ k ⟨rfl, hd3, b, z, h2, h3, rfl⟩ hk3
      obtain ⟨c, rfl, hc⟩ := hd3 d List.mem_cons_self
      simp
      refine ⟨by unfold CMul; omega, by omega, hk3 _ _ ⟨rfl, fun d h => hd3 d (List.mem_cons_of_mem _ h), _, _, ?_, ?_, rfl⟩⟩
      · exact Int.fmod_nonneg (by omega) (by omega)
      · have := Int.fmod_lt_of_pos (b * 69621 + c + (t + 1)) hp
        omega
    · rintro m' δ ⟨rfl, _, b, z, h2, h3, rfl⟩
      simp
      refine ⟨by unfold CMul; omega, by unfold CPow; omega, by omega, hk _ _ ⟨rfl, fun d h => hd d (List.mem_cons_of_mem _ h), _, _, _, _, ?_, rfl⟩⟩
      have h4 : 0 ≤ (b ^ 5).fmod p := Int.fmod_nonneg (Int.pow_nonneg h2) (by omega)
      have h5 : 0 ≤ f * 2147483647 := Int.mul_nonneg hf (by omega)
      omega
  · rintro m' δ ⟨rfl, _, f, x, y, z, hf, rfl⟩
    simp
    exact q _ _ (by omega) hf
theorem fdiv_nn {l n : Int} (h : 0 ≤ l) (h1 : 0 < n) : 0 ≤ l.fdiv n := Int.fdiv_nonneg h (by omega)
theorem p_draw (ε : Nat → Str → Prop) (ds : List D) (m : Nat) (Q : Nat → D → Prop) (hl : ds.length = 2) (h : S_draw ds m Q ε) :
    rDraw S_blended ε { nx := fun m _ => Q m .non, rt := Q } m (params ["state", "size_here", "found"] ds) := by
  obtain ⟨n, rfl, h1, h2, hm, q⟩ := h
  have fin : ∀ (m' : Nat) (a b : Int), m' ≤ m + 1 → 0 ≤ a → 0 ≤ b → CDivN b n ∧ 0 ≤ b.fdiv n ∧ Q m' (.int (a.fmod n)) := fun m' a b hm' ha hb =>
    ⟨by unfold CDivN; omega, fdiv_nn hb h1, q m' _ hm' (Int.fmod_nonneg ha (by omega)) (Int.fmod_lt_of_pos a h1)⟩
  unfold rDraw
  simp
  intro l hl0
  split
  · refine ⟨fun a ha => ⟨ha, fun b hb => ⟨by omega, fun c hc => fin _ _ _ (by omega) hb hc⟩⟩, rfl, hm, fun m' r hm' hr => ⟨hr, fun b hb => ⟨by omega, fun c hc => fin _ _ _ hm' hb hc⟩⟩⟩
  · exact fun b hb => ⟨by omega, fun c hc => fin _ _ _ (by omega) hb hc⟩
theorem p_pick (ε : Nat → Str → Prop) (ds : List D) (m : Nat) (Q : Nat → D → Prop) (hl : ds.length = 2) (h : S_pick ds m Q ε) :
    rPick S_draw ε { nx := fun m _ => Q m .non, rt := Q } m (params ["state", "several"] ds) := by
  obtain ⟨xs, e, hne, h2, hm, q⟩ := h
  have hpos : 0 < xs.length := List.length_pos_iff.mpr hne
  rcases e with rfl | rfl
  · unfold rPick
    simp
    refine ⟨_, rfl, by omega, by omega, hm, fun m' r hm' h0 hr => ?_⟩
    obtain ⟨x, e1, e2⟩ := atI_nat h0 hr
    exact ⟨x, e1, q _ _ hm' e2⟩
  · unfold rPick
    simp
    refine ⟨_, rfl, by omega, by omega, hm, fun m' r hm' h0 hr => ?_⟩
    obtain ⟨x, e1, e2⟩ := atI_nat h0 hr
    exact ⟨x, e1, q _ _ hm' e2⟩
theorem eqv_nil (xs : List D) : (D.lst xs).eqv (.lst []) = xs.isEmpty := by
  unfold D.eqv D.py
  cases xs <;> simp [D.pyL, PyData.eqv, PyData.eqvAll]
theorem pyL_lay : ∀ xs : List D, (∀ x ∈ xs, x.shq = true) → PyData.canLayAll0 (D.pyL xs) = true ∧ PyData.depthAll (D.pyL xs) ≤ 63
  | [], _ => ⟨rfl, by simp [D.pyL, PyData.depthAll]⟩
  | x :: xs, h => by
    obtain ⟨h1, h2⟩ := pyL_lay xs fun y hy => h y (List.mem_cons_of_mem _ hy)
    have h3 := h x List.mem_cons_self
    unfold D.shq at h3
    rw [Bool.and_eq_true, decide_eq_true_iff] at h3
    unfold D.pyL
    refine ⟨by unfold PyData.canLayAll0; rw [h1, h3.1]; rfl, ?_⟩
    unfold PyData.depthAll
    exact Nat.max_le.mpr ⟨h3.2, h2⟩
theorem shp_lst {xs : List D} (h : ∀ x ∈ xs, x.shq = true) : (D.lst xs).shp = true := by
  obtain ⟨h1, h2⟩ := pyL_lay xs h
  unfold D.shp SeqAt.shaped D.py
  rw [Bool.and_eq_true, decide_eq_true_iff]
  refine ⟨h1, ?_⟩
  show PyData.depthAll (D.pyL xs) + 1 ≤ 64
  omega
theorem shp_tup {xs : List D} (h : ∀ x ∈ xs, x.shq = true) : (D.tup xs).shp = true := by
  obtain ⟨h1, h2⟩ := pyL_lay xs h
  unfold D.shp SeqAt.shaped D.py
  rw [Bool.and_eq_true, decide_eq_true_iff]
  refine ⟨h1, ?_⟩
  show PyData.depthAll (D.pyL xs) + 1 ≤ 64
  omega
theorem perm_pick {α : Type} : ∀ {l : List α} {i : Nat} (h : i < l.length), ([l[i]] ++ l.eraseIdx i).Perm l
  | [], i, h => absurd h (Nat.not_lt_zero _)
  | a :: l, 0, h => .refl _
  | a :: l, i + 1, h => by
    have ih := perm_pick (l := l) (i := i) (by simpa using h)
    simp only [List.getElem_cons_succ, List.eraseIdx_cons_succ, List.cons_append, List.nil_append] at ih ⊢
    exact (List.Perm.swap _ _ _).trans (ih.cons a)
theorem p_mixed (ε : Nat → Str → Prop) (ds : List D) (m : Nat) (Q : Nat → D → Prop) (hl : ds.length = 2) (h : S_mixed ds m Q ε) :
    rMixed S_draw ε { nx := fun m _ => Q m .non, rt := Q } m (params ["state", "several", "left", "found"] ds) := by
  obtain ⟨xs, e, hs, h2, hm, q⟩ := h
  have key : ∀ w, rWhile (rBrwT 2 (rTest (rOp dNe (rVar 2) (rLst rNil)))) (rAppPop 3 2 (rFn 2 S_draw ε (rCons (rVar 0) (rCons (rBrw 2 (rCall dLenA (rCons (rVar 2) rNil))) rNil))))
      { nx := rFrz 3 (rRet (rVar 3)) { nx := fun m _ => Q m .non, rt := Q }, rt := Q } m [.val .rng, w, .own xs, .own []] := fun w => by
    refine ⟨fun n m' δ => ∃ left found, n = left.length ∧ (found ++ left).Perm xs ∧ m' ≤ m + found.length ∧ δ = [.val .rng, w, .own left, .own found], ⟨xs.length, xs, [], rfl, .refl _, by simp, rfl⟩, ?_⟩
    rintro n m' δ ⟨left, found, rfl, hp, hm', rfl⟩
    have hlen := hp.length_eq
    rw [List.length_append] at hlen
    have hin : ∀ x ∈ left, x.shq = true := fun x hx => hs x (hp.mem_iff.mp (List.mem_append_right _ hx))
    simp
    refine ⟨shp_lst hin, ?_⟩
    rw [eqv_nil]
    cases left with
    | nil =>
      rw [List.append_nil] at hp
      exact q _ _ (by simp at hlen; omega) hp
    | cons z left =>
      simp only [List.length_cons] at hlen
      simp [D.flat, S_draw]
      have hc : CAP = 1099511627776 := rfl
      refine ⟨by omega, by omega, fun m1 r hm1 h0 hr => ?_⟩
      have hl1 : r.toNat < (z :: left).length := by simp only [List.length_cons]; omega
      refine ⟨r.toNat, by omega, by omega, (z :: left)[r.toNat], List.getElem?_eq_getElem hl1, by rw [sizeLine_eq]; omega, _, ?_, _, rfl, _, ?_, ?_, rfl, rfl⟩
      · rw [List.length_eraseIdx, if_pos hl1]; simp only [List.length_cons]; omega
      · rw [List.append_assoc]
        exact ((perm_pick hl1).append_left _).trans hp
      · rw [List.length_append]; simp only [List.length_cons, List.length_nil]; omega
  rcases e with rfl | rfl
  · unfold rMixed
    simp
    exact key _
  · unfold rMixed
    simp
    exact key _
/-! ### the beginning -/
def absI (i : Int) : Int := if i < 0 then -i else i
theorem map_fm {f : Int → Option Int} : ∀ ns : List Int, (ns.map D.int).filterMap (fun d => match d with | .int c => (f c).map D.int | _ => none) = (ns.filterMap f).map D.int
  | [] => rfl
  | n :: ns => by
    simp only [List.map_cons, List.filterMap_cons]
    cases f n <;> simp [map_fm ns]
theorem p_begun1 (ns : List Int) (Q : List D → Prop) (q : ∀ gs : List Int, (∀ x ∈ gs, 0 ≤ x) → gs.length ≤ ns.length → Q (gs.map D.int)) : rBegun1 0 (params ["script", "great", "cell"] [.scr ns]) fun _ => Q := by
  unfold rBegun1
  simp
  let f : Int → Option Int := fun c => if 1000000000000000000 ≤ absI c then some (absI c - 1000000000000000000) else none
  refine lc_map (Q := fun _ => Q) (fun d => match d with | .int c => (f c).map D.int | _ => none) _ _ (fun d hd K hk => ?_) ?_
  · obtain ⟨c, _, rfl⟩ := List.mem_map.mp hd
    simp
    have e : (if c < 0 then -c else c) = absI c := rfl
    simp only [e]
    simp only [f] at hk
    split at hk
    · rename_i h
      rw [if_pos (by simpa using h)]
      exact hk
    · rename_i h
      rw [if_neg (by simpa using h)]
      exact hk
  · rw [List.nil_append, map_fm]
    refine q _ (fun x hx => ?_) (List.length_filterMap_le _ _)
    obtain ⟨c, _, hc⟩ := List.mem_filterMap.mp hx
    simp only [f] at hc
    split at hc
    · cases hc; omega
    · cases hc
theorem p_begun2 (ns : List Int) (gs : List D) (Q : List D → Prop) (q : ∀ gs : List Int, (∀ x ∈ gs, 0 ≤ x) → gs.length ≤ ns.length → Q (gs.map D.int)) : rBegun2 0 ((params ["script", "great", "cell"] [.scr ns]).set 1 (.own gs)) fun _ => Q := by
  unfold rBegun2
  simp
  refine lc_map (Q := fun _ => Q) (fun d => match d with | .int c => (some (absI c)).map D.int | _ => none) _ _ (fun d hd K hk => ?_) ?_
  · obtain ⟨c, _, rfl⟩ := List.mem_map.mp hd
    simp
    exact hk
  · rw [List.nil_append, map_fm]
    refine q _ (fun x hx => ?_) (List.length_filterMap_le _ _)
    obtain ⟨c, _, hc⟩ := List.mem_filterMap.mp hx
    cases hc
    unfold absI
    split <;> omega
/-! ### slices -/
theorem six_some {n d : Nat} {i : Int} (h : 0 ≤ i) : HT.sIx n d (some i) = min i.toNat n := by
  show (if i < 0 then (i + (n : Int)).toNat else min i.toNat n) = _
  rw [if_neg (by omega)]
theorem six_none {n d : Nat} : HT.sIx n d none = d := rfl
@[simp] theorem cut_to {α : Type} (xs : List α) {i : Int} (h : 0 ≤ i) : cutD xs none (some i) = xs.take i.toNat := by
  unfold cutD
  rw [six_none, six_some h, List.drop_zero, Nat.sub_zero]
  rcases Nat.le_total i.toNat xs.length with h1 | h1
  · rw [Nat.min_eq_left h1]
  · rw [Nat.min_eq_right h1, List.take_of_length_le (Nat.le_refl _), List.take_of_length_le h1]
@[simp] theorem cut_from {α : Type} (xs : List α) {i : Int} (h : 0 ≤ i) : cutD xs (some i) none = xs.drop i.toNat := by
  unfold cutD
  rw [six_none, six_some h]
  rcases Nat.le_total i.toNat xs.length with h1 | h1
  · rw [Nat.min_eq_left h1, List.take_of_length_le (by rw [List.length_drop]; exact Nat.le_refl _)]
  · rw [Nat.min_eq_right h1, List.drop_of_length_le (Nat.le_refl _), List.drop_of_length_le h1, List.take_nil]
theorem cut_mid {α : Type} (xs : List α) {i j : Int} (h : 0 ≤ i) (h' : 0 ≤ j) : cutD xs (some i) (some j) = (xs.drop (min i.toNat xs.length)).take (min j.toNat xs.length - min i.toNat xs.length) := by
  unfold cutD
  rw [six_some h, six_some h']
@[simp] theorem bls_id (bs : List Bool) : D.bls (bs.map D.bl) = some bs := bls_of bs
@[simp] theorem ints_id (ns : List Int) : D.ints (ns.map D.int) = some ns := ints_of ns
theorem atI_last {α : Type} {xs : List α} (h : xs ≠ []) : atI xs (-1) = some (xs.getLast h) := by
  have hl : 0 < xs.length := List.length_pos_iff.mpr h
  unfold atI ixN
  rw [if_neg (by omega), if_pos (by omega)]
  show xs[(-1 + (xs.length : Int)).toNat]? = _
  have e : (-1 + (xs.length : Int)).toNat = xs.length - 1 := by omega
  rw [e, ← List.getLast?_eq_getElem?]
  exact List.getLast?_eq_some_getLast h
/-! ### plain data: how wide, how deep -/
def good (w : Nat) : Nat → D → Prop
  | _, .non | _, .bl _ | _, .int _ | _, .str _ | _, .emp => True
  | n + 1, .tup ds => ds.length ≤ w ∧ ∀ d ∈ ds, good w n d
  | n + 1, .lst ds => ds.length ≤ w ∧ ∀ d ∈ ds, good w n d
  | _, _ => False
theorem good_typed {w n : Nat} {d : D} (h : good w n d) : d.typed = true := by
  cases d <;> first | rfl | (cases n <;> exact h.elim)
theorem good_up {w w' : Nat} (hw : w ≤ w') : ∀ {n n' : Nat} {d : D}, n ≤ n' → good w n d → good w' n' d
  | n, n', .non, _, _ | n, n', .bl _, _, _ | n, n', .int _, _, _ | n, n', .str _, _, _ | n, n', .emp, _, _ => by cases n' <;> trivial
  | 0, n', .tup ds, _, h | 0, n', .lst ds, _, h => h.elim
  | n + 1, 0, _, h, _ => absurd h (by omega)
  | n + 1, n' + 1, .tup ds, h, g => ⟨Nat.le_trans g.1 hw, fun d hd => good_up hw (Nat.le_of_succ_le_succ h) (g.2 d hd)⟩
  | n + 1, n' + 1, .lst ds, h, g => ⟨Nat.le_trans g.1 hw, fun d hd => good_up hw (Nat.le_of_succ_le_succ h) (g.2 d hd)⟩
  | 0, _, .exc _, _, h | 0, _, .set _, _, h | 0, _, .rng, _, h | 0, _, .scr _, _, h | 0, _, .fn _, _, h | 0, _, .ty _, _, h | 0, _, .cl _, _, h | 0, _, .dii _, _, h | 0, _, .dci _, _, h | 0, _, .dcs _, _, h | 0, _, .dcx _ _, _, h | 0, _, .tpw _, _, h => h.elim
  | n + 1, _, .exc _, _, h | n + 1, _, .set _, _, h | n + 1, _, .rng, _, h | n + 1, _, .scr _, _, h | n + 1, _, .fn _, _, h | n + 1, _, .ty _, _, h | n + 1, _, .cl _, _, h | n + 1, _, .dii _, _, h | n + 1, _, .dci _, _, h | n + 1, _, .dcs _, _, h | n + 1, _, .dcx _ _, _, h | n + 1, _, .tpw _, _, h => h.elim
/-! a comprehension without tests: truths, numbers, anything -/
theorem lc_tt {τ : Tgt} {te : TD} {m : Nat} {δ : Env} {Q : Nat → List D → Prop} (f : D → D) {ds : List D}
    (h : ∀ d ∈ ds, ∀ K : Nat → D → Prop, K m (f d) → gD τ d δ fun δ2 => te m δ2 K) (q : Q m (ds.map f)) : rLcGo τ rYes te ds [] m δ Q := by
  refine lc_map (fun d => some (f d)) ds [] (fun d hd K hk => ?_) ?_
  · simp only [rYes, if_true]
    exact h d hd (fun m y => K m (some y)) hk
  · rw [List.nil_append, List.filterMap_eq_map']
    exact q
theorem lc_bl {τ : Tgt} {te : TD} {m : Nat} {δ : Env} {Q : Nat → List D → Prop} (f : D → Bool) {ds : List D}
    (h : ∀ d ∈ ds, ∀ K : Nat → D → Prop, K m (.bl (f d)) → gD τ d δ fun δ2 => te m δ2 K) (q : Q m ((ds.map f).map D.bl)) : rLcGo τ rYes te ds [] m δ Q :=
  lc_tt (fun d => .bl (f d)) h (by rw [List.map_map] at q; exact q)
end DL

/-! One statement at a time: what follows it is kept closed. -/
namespace DL
open PySem L2
theorem x_seq {t u : TSd} {B : EndsD} {m : Nat} {δ : Env} (h : ∀ B' : EndsD, B'.nx = u B → B'.rt = B.rt → B'.bk = B.bk → B'.ct = B.ct → t B' m δ) : rSeq t u B m δ := h _ rfl rfl rfl rfl
/-- the walk through a list: the body under closed ends -/
theorem x_loop {τ : Tgt} {t : TSd} {B : EndsD} (I : List D → Nat → Env → Prop) {ds : List D} {m : Nat} {δ : Env} (h0 : I ds m δ)
    (h1 : ∀ d ds m δ (B' : EndsD), I (d :: ds) m δ → (∀ m' δ', I ds m' δ' → B'.nx m' δ') → B'.ct = B'.nx → B'.bk = B.nx → B'.rt = B.rt → gD τ d δ fun δ' => t B' m δ') (h2 : ∀ m δ, I [] m δ → B.nx m δ) : rLoop τ t B ds m δ :=
  loop_inv I ds m δ h0 (fun d ds m δ k hi hk => h1 d ds m δ { B with nx := k, ct := k, bk := B.nx } hi hk rfl rfl rfl) h2
/-- a value, its follower closed -/
theorem x_set {i : Nat} {te : TD} {B : EndsD} {m : Nat} {δ : Env} (h : ∀ K : Nat → D → Prop, (∀ m d, K m d = B.nx m (δ.set i (.val d))) → te m δ K) : rSet i te B m δ := h _ fun _ _ => rfl
theorem x_ret {te : TD} {B : EndsD} {m : Nat} {δ : Env} (h : te m δ B.rt) : rRet te B m δ := h
theorem x_for {τ : Tgt} {ti : TL} {tb : TSd} {B : EndsD} {m : Nat} {δ : Env} (h : ∀ K : Nat → List D → Prop, (∀ m ds, K m ds = rLoop τ tb B ds m δ) → ti m δ K) : rFor τ ti tb B m δ := h _ fun _ _ => rfl
theorem x_if {c : TB} {t u : TSd} {B : EndsD} {m : Nat} {δ : Env} (h : ∀ K : Nat → Bool → Prop, (∀ m, K m true = t B m δ) → (∀ m, K m false = u B m δ) → c m δ K) : rIfS c t u B m δ :=
  h (fun m b => if b = true then t B m δ else u B m δ) (fun _ => by simp) (fun _ => by simp)
theorem x_own {i : Nat} {t : TL} {B : EndsD} {m : Nat} {δ : Env} (h : ∀ K : Nat → List D → Prop, (∀ m ds, K m ds = B.nx m (δ.set i (.own ds))) → t m δ K) : rOwn i t B m δ := h _ fun _ _ => rfl
theorem x_frz {i : Nat} {t : TSd} {B : EndsD} {m : Nat} {δ : Env} {ds : List D} (e : δ[i]? = some (.own ds)) (h : t B m (δ.set i (.val (.lst ds)))) : rFrz i t B m δ := by
  unfold rFrz
  rw [e]
  exact h
end DL

/-! The end: from what the head tells to the facts that the walks ask. -/
namespace DL
open PySem L2 PySem.Spec PyProof.Rows
section
variable {P : Program} {w : World} {K : PySem.W.Frag} {mg : Str → Option Value} {base h : Heap} {L : Ls}
theorem fun_of {x q : Str} {st : Stmt} {f : Addr} {fd : FuncData} (F : FunD K x q (defArgs st) (defBody st) (defScope st) [] [] f fd) : Fun K x q st f fd := by
  obtain ⟨oc, od, dV, kV, doc, pm, an, cdv, ct, osl, rfl, lk, hcd, hD, hK⟩ := F.ex
  rcases hD with ⟨_, rfl⟩ | ⟨e, _⟩
  · exact ⟨⟨oc, od, kV, doc, pm, an, cdv, ct, osl, rfl, lk, hcd⟩, F.kp⟩
  · exact absurd rfl e
def codK (K : PySem.W.Frag) (x : Str) : Addr := He.codeOf K (x, none)
def tbK (K : PySem.W.Frag) (x : Str) : Addr := He.tabOf K (codK K x)
theorem funC_of {x q y : Str} {st : Stmt} {fd : FuncData} (F : FunD K x q (defArgs st) (defBody st) (defScope st) [] [] (He.fAd K (y, none)) fd) : FunC K x q st (He.fAd K (y, none)) fd (codK K y) := by
  obtain ⟨oc, od, dV, kV, doc, pm, an, cdv, ct, osl, rfl, lk, hcd, hD, hK⟩ := F.ex
  rcases hD with ⟨_, rfl⟩ | ⟨e, _⟩
  · obtain ⟨c, rfl⟩ := He.codeIn_ref hcd
    have e : codK K y = c := He.codeOf_eq lk rfl
    rw [e]
    exact ⟨⟨oc, od, kV, doc, pm, an, ct, osl, rfl, lk, hcd⟩, F.kp⟩
  · exact absurd rfl e
/-- the tables, each with its lambda's name -/
def lamQ (x : Str) : Str := (x ++ ".<locals>.") ++ "<lambda>"
def tabsK (K : PySem.W.Frag) (tf : List Str) : List (Addr × Str) := tf.map fun x => (tbK K x, lamQ x)
theorem tabsK_mem {tf : List Str} {x : Str} (hx : x ∈ tf) : (tbK K x, lamQ x) ∈ tabsK K tf := List.mem_map.mpr ⟨x, hx, rfl⟩
theorem tabsK_uniq {tf : List Str} (nd : (tf.map (tbK K)).Nodup) {x : Str} (hx : x ∈ tf) : ∀ p ∈ tabsK K tf, p.1 = tbK K x → p.2 = lamQ x := by
  intro p hp e
  obtain ⟨y, hy, rfl⟩ := List.mem_map.mp hp
  have key : ∀ {l : List Str}, (l.map (tbK K)).Nodup → x ∈ l → y ∈ l → tbK K y = tbK K x → y = x := by
    intro l
    induction l with
    | nil => intro _ h; cases h
    | cons a l ih =>
      intro n h1 h2 e
      rw [List.map_cons, List.nodup_cons] at n
      rcases List.mem_cons.mp h1 with rfl | h1
      · rcases List.mem_cons.mp h2 with rfl | h2
        · rfl
        · exact absurd (List.mem_map.mpr ⟨y, h2, e⟩) n.1
      · rcases List.mem_cons.mp h2 with h2 | h2
        · rw [h2] at e
          exact absurd (List.mem_map.mpr ⟨x, h1, e.symm⟩) n.1
        · exact ih n.2 h1 h2 e
  have := key nd hx hy e
  subst this
  rfl
theorem tabs_of {tf : List Str} {H : Hp} (h : ∀ x ∈ tf, H (tbK K x) = some (.tbl #[])) : LamX.Tabs (tabsK K tf) H := by
  intro p hp
  obtain ⟨x, hx, rfl⟩ := List.mem_map.mp hp
  exact ⟨#[], h x hx, by first | trivial | (intro _ h; cases h) | simp [PySem.TriplesOk], fun pos cv e => by first | cases e | simp [PySem.codeAmong] at e⟩
/-! ### errors -/
def isIg (errs : List Str) (root : Str) (c : Str) : D → Option Bool
  | .cl d => if errs.contains c then (if d = root then some true else if errs.contains d then some (decide (c = d)) else none) else none
  | .ty n => if errs.contains c && n == "ValueError" then some true else none
  | _ => none
def sB (a : Option Bool) (b : Bool) : Bool := decide (a = some b)
def excB (K : PySem.W.Frag) (C : Addr) : Bool :=
  He.eqO (PySem.W.findIn K (.ref C) "__getattribute__") (some (some (.builtin "BaseException.__getattribute__"))) && (He.eqO (PySem.W.findIn K (.ref C) "__getattr__") (some none) && (sB (PySem.W.subIn K (.ref C) (.type "BaseException")) true && (PySem.W.hasDictIn K C &&
  (He.eqO (PySem.W.findIn K (.ref C) "__class__") (some (some (.builtin "object.__class__"))) && (He.eqO (PySem.W.specialIn K (.builtin "object.__class__") "__get__") (some (some (.builtin "getset_descriptor.__get__"))) && (sB (PySem.W.takesIn K (.builtin "object.__class__")) true && sB (PySem.W.mroIn K C (.type "object")) true))))))
theorem excB_ok {C : Addr} (h : excB K C = true) : ExcC K C := by
  unfold excB at h
  simp only [Bool.and_eq_true] at h
  obtain ⟨h1, h2, h3, h4, h5, h6, h7, h8⟩ := h
  exact ⟨He.eqO_ok h1, He.eqO_ok h2, of_decide_eq_true h3, h4, He.eqO_ok h5, He.eqO_ok h6, of_decide_eq_true h7, of_decide_eq_true h8⟩
def clsB (K : PySem.W.Frag) (errs : List Str) (root : Str) : Bool := errs.all fun c => excB K (He.ga K c) && (sB (PySem.W.kitOne K (.ref (He.ga K c)) (.type "ValueError")) true && (sB (PySem.W.kitOne K (.ref (He.ga K c)) (.ref (He.ga K root))) true && (sB (PySem.W.exmOne K (.ref (He.ga K c)) (.ref (He.ga K root))) true &&
  errs.all fun d => sB (PySem.W.kitOne K (.ref (He.ga K c)) (.ref (He.ga K d))) (decide (c = d)))))
def ownB (K : PySem.W.Frag) (cs : List Str) : Bool := cs.all fun c => (["NoneType", "bool", "int", "str", "tuple", "list", "dict"] : List String).all fun n => sB (PySem.W.kitOne K (.type n) (.ref (He.ga K c))) false
theorem clsT_of {errs : List Str} {root : Str} (hL : L.cls = He.ga K) (h : clsB K errs root = true) : ClsT K L (isIg errs root) := by
  refine ⟨fun c t b e => ?_⟩
  have hc : c ∈ errs := by
    cases t <;> simp only [isIg] at e <;> first | cases e | skip
    · split at e
      · rename_i h
        rw [Bool.and_eq_true] at h
        exact List.contains_iff_mem.mp h.1
      · cases e
    · split at e
      · rename_i h; exact List.contains_iff_mem.mp h
      · cases e
  have h1 := List.all_eq_true.mp h c hc
  simp only [Bool.and_eq_true] at h1
  obtain ⟨a1, a2, a3, a4, a5⟩ := h1
  rw [hL]
  refine ⟨excB_ok a1, ?_⟩
  have hcc : errs.contains c = true := List.contains_iff_mem.mpr hc
  cases t <;> simp only [isIg] at e <;> first | cases e | skip
  · rename_i n
    rw [hcc, Bool.true_and] at e
    split at e
    · rename_i hn
      cases e
      have hn : n = "ValueError" := by simpa using hn
      subst hn
      exact .inr ⟨_, rfl, of_decide_eq_true a2⟩
    · cases e
  · rename_i d
    rw [if_pos hcc] at e
    split at e
    · rename_i hd
      cases e
      subst hd
      exact .inl ⟨_, rfl, of_decide_eq_true a3⟩
    · split at e
      · rename_i hd
        cases e
        exact .inl ⟨_, rfl, of_decide_eq_true (List.all_eq_true.mp a5 d (List.contains_iff_mem.mp hd))⟩
      · cases e
theorem clsJ_of {errs : List Str} {root : Str} (hL : L.cls = He.ga K) (h : clsB K errs root = true) : ∀ c, errs.contains c = true → PySem.W.exmOne K (.ref (L.cls c)) (.ref (He.ga K root)) = some true := by
  intro c hc
  have h1 := List.all_eq_true.mp h c (List.contains_iff_mem.mp hc)
  simp only [Bool.and_eq_true] at h1
  rw [hL]
  exact of_decide_eq_true h1.2.2.2.1
theorem ownB_of {cs : List Str} (hL : L.cls = He.ga K) (h : ownB K cs = true) : ClsB K L cs := by
  refine ⟨fun c hc n hn => ?_⟩
  rw [hL]
  exact of_decide_eq_true (List.all_eq_true.mp (List.all_eq_true.mp h c hc) n hn)
theorem exD_of {c : Str} (hL : L.cls = He.ga K) (X : K.In h) (G : h.Ns mainGlobals mg) (h1 : (He.Fa.exc c).ok K = true) (h2 : (He.Fa.glo c).ok K = true) : ExD K mg L c := by
  obtain ⟨a1, a2, a3, a4⟩ := He.exc_ok h1
  refine ⟨by rw [hL]; exact a1, by rw [hL]; exact He.glo_ok X G h2, by rw [hL]; exact a2, by rw [hL]; exact a3, by rw [hL]; exact a4⟩
def ndB (xs : List Addr) : Bool := decide xs.Nodup
theorem FnD.imp {k n : Nat} {x : Str} {S S' : Spd} (h : FnD P w K mg base L k x n S) (i : ∀ ds m Q ε, S' ds m Q ε → S ds m Q ε) : FnD P w K mg base L k x n S' := by
  obtain ⟨f, fd, ps, e, ok, r⟩ := h.ex
  refine ⟨f, fd, ps, e, ok.imp fun vs H Q E h => ?_, r⟩
  obtain ⟨Z, m, ds, Qd, εd, a1, a2, a3, a4, a5, a6, a7, a8, a9, r⟩ := h
  exact ⟨Z, m, ds, Qd, εd, a1, a2, a3, a4, a5, a6, a7, a8, i _ _ _ _ a9, r⟩
/-- a promise that is never asked -/
theorem fnD_false {k n : Nat} {x : Str} {S : Spd} {f : Addr} {fd : FuncData} {ps : List Str} (hn : ps.length = n) (hm : mg x = some (.ref f)) (kp : PySem.W.keepIn K (.ref f) = true) (b : Binds K fd ps []) (no : ∀ ds m Q ε, ¬ S ds m Q ε) : FnD P w K mg base L k x n S := by
  have key : ∀ {vs H Q E}, prom L n S vs H Q E → False := fun h => by
    obtain ⟨Z, m, ds, Qd, εd, a1, a2, a3, a4, a5, a6, a7, a8, a9, r⟩ := h
    exact no _ _ _ _ a9
  exact ⟨f, fd, ps, hn, ⟨fun vs H Q E h => (key h).elim, fun A outer s H args us vs Q E hr e0 hb hv h => (key h).elim⟩, hm, kp, b⟩
theorem fnD_rec {k n : Nat} {x : Str} {S : Nat → Spd} (h0 : FnD P w K mg base L k x n (S 0)) (step : ∀ j, FnD P w K mg base L (k + j) x n (S j) → FnD P w K mg base L (k + j + 1) x n (S (j + 1))) : ∀ j, FnD P w K mg base L (k + j) x n (S j)
  | 0 => h0
  | j + 1 => step j (fnD_rec h0 step j)
theorem cx_none {P : Program} {w : World} {outer : List PySem.Env} {H : Hp} {s : Shared} {u : Value} {s' : Shared} (z : L2.CX P w outer H s (fun _ _ _ => False) u s') : False := by
  obtain ⟨a, B, H', cls, d, _, _, _, _, _, _, _, z⟩ := z
  exact z
theorem hK_of {L : Ls} (h1 : L.K = K) (h2 : L.w = w) : L.K = K ∧ L.w = w := ⟨h1, h2⟩
end
end DL

/-! repr, for a def that stands where no repr is under way: the law itself. -/
namespace DL
open PySem L2 PySem.Spec PyProof.Rows PySem.Calls
/-- a promise that is asked only where nothing is being shown -/
structure FnG (P : Program) (w : World) (K : PySem.W.Frag) (mg : Str → Option Value) (base : Heap) (CX : CXT) (k : Nat) (f : Addr) (fd : FuncData) (ps : List Str) (sp : Sp) : Prop where
  len : ∀ vs H Q E, sp vs H Q E → vs.length = ps.length
  run : ∀ {A : Around} {outer : List PySem.Env} {s : Shared} {H : Hp} {args : Args} {us : List Value} {vs : List V} {Q : VK} {E : XK}, A.guards = some [] → Room k A → Env0 P w K mg base A outer s H →
    BindsTo s fd args (ps.zip us) → Vals vs us → sp vs H Q E → codeAny (model P w) A (.call (.ref f) args) (CR CX outer P w H s Q E) s
section
variable {CX : CXT} {P : Program} {w : World} {K : PySem.W.Frag} {mg : Str → Option Value} {base : Heap} {k : Nat} {f : Addr}
/-- a def of the text, so promised -/
theorem fnG_of {x qual : Str} {st : Stmt} {fd : FuncData} {N ps : List Str} {sp : Sp} (F : Fun K x qual st f fd) (Sc : FnScope N ps (defScope st)) (len : ∀ vs H Q E, sp vs H Q E → vs.length = ps.length)
    (body : ∀ (cdv : Value) (A : Around) (outer : List PySem.Env) (s : Shared) (H : Hp) (vs : List V) (Q : VK) (E : XK), A.guards = some [] → Room k (A.deeper (envOfC qual (defScope st) s.heap.objs.size f cdv)) → sp vs H Q E →
      ∃ t, PSs (cxOf CX P w K mg base N qual (defScope st) f cdv A outer s H E) (defBody st) t ∧ t { nx := fun _ H' => Q .non H', rt := Q } (start N vs) H) : FnG P w K mg base CX (k + 1) f fd ps sp := by
  obtain ⟨oc, od, kV, doc, pm, an, cdv, ct, osl, rfl, lk, hcd⟩ := F.ex
  refine ⟨len, ?_⟩
  intro A outer s H args us vs Q E gd room e0 bd rv want
  have up := fun b o e => (e0.bs b o e).1
  have inK : K.In s.heap := e0.mod.kin.keeps up
  have places : ∀ y ∈ ps.zip us, (defScope st).names.lookup y.1 = some .local ∨ ((defScope st).names.lookup y.1 = some .cell ∧ ((cellsFrom (s.heap.objs.size + 1) (defScope st).names []).lookup y.1).isSome = true) := by
    rintro ⟨n, v⟩ hy
    exact (Sc.par n (List.of_mem_zip hy).1).imp id fun q => ⟨q, PySem.W.cellsFrom_some _ _ _ (.inl q)⟩
  refine codeAny_call_function room.depth (inK _ _ lk) rfl Sc.co Sc.gen rfl (PySem.W.codeRec_of inK hcd) (bd _ _ _ _ (wpAny_newFunctionEnv_cells Sc.kind places ?_))
  rintro env rfl s1 x
  refine ⟨(e0.mod.nolimit.keeps up).keeps x.toInCall.keep, codeAny_func ?_⟩
  obtain ⟨t, ht, hq⟩ := body cdv A outer s H vs Q E gd (room.deeper _) want
  refine wpAny_mono (ht.run [] s1 (start N vs) H _ (inv_start Sc room.hd e0 (len _ _ _ _ want) rv x) hq) ?_ fun _ _ z => z
  rintro (_ | _ | _ | u) s' h
  · obtain ⟨σ', H', J, q⟩ := h
    exact ⟨.non, H', J.os, J.bare, J.base, J.hok, rfl, q⟩
  · obtain ⟨_, _, _, q⟩ := h
    exact q.elim
  · obtain ⟨_, _, _, q⟩ := h
    exact q.elim
  · obtain ⟨v, σ', H', J, r, q⟩ := h
    exact ⟨v, H', J.os, J.bare, J.base, J.hok, r, q⟩
end
/-! ### the end with such a promise -/
section
variable {P : Program} {w : World} {K : PySem.W.Frag} {mg mb : Str → Option Value} {CX : CXT} {k : Nat} {fa a : Addr} {cs : List (Addr × Addr)} {fd : FuncData} {x : Str} {sp : Sp} {s1 : Shared} {vs : List Value} {ns : List Int}
/-- what the call begins with: the tables, and the script where it is none of the module's own -/
noncomputable def beginH (K : PySem.W.Frag) (cs : List (Addr × Addr)) (a : Addr) (vs : List Value) (ns : List Int) : Hp := fun b =>
  if b ∈ cs.map (·.2) then some (.tbl #[]) else if b = a ∧ K.lookup a = none then some (.frz { cls := .type "list", data := .seq vs.toArray } (.lst (ns.map V.int))) else none
theorem begin_tab {p : Addr × Addr} (hp : p ∈ cs) : beginH K cs a vs ns p.2 = some (.tbl #[]) := if_pos (List.mem_map.mpr ⟨p, hp, rfl⟩)
theorem begin_cases {b : Addr} {u : HO} (h : beginH K cs a vs ns b = some u) : (b ∈ cs.map (·.2) ∧ u = .tbl #[]) ∨ (b = a ∧ K.lookup a = none ∧ u = .frz { cls := .type "list", data := .seq vs.toArray } (.lst (ns.map V.int))) := by
  unfold beginH at h
  split at h
  · rename_i hb
    cases h
    exact .inl ⟨hb, rfl⟩
  · split at h
    · rename_i hb
      cases h
      exact .inr ⟨hb.1, hb.2, rfl⟩
    · cases h
theorem law_callG (KX : K.In s1.heap) (hns : s1.heap.Ns mainGlobals mg) (hb : s1.heap.Ns builtinsNs mb) (hbb : ∀ x : Str, x ≠ "__name__" → mb x = bootBuiltins x) (hlim : s1.heap.NoLimit) (hg : s1.gens = #[])
    (hT : ∀ p ∈ cs, s1.heap.get? p.2 = some { cls := .none, data := .fields #[] }) (nT : ∀ p ∈ cs, K.lookup p.2 = none) (C : ∀ p ∈ cs, PySem.W.CodeHd s1.heap p.1 p.2)
    (hbm : ∃ (bm : Addr) (ob : Obj), mg "__builtins__" = some (.ref bm) ∧ bm ≠ builtinsNs ∧ s1.heap.get? bm = some ob ∧ ob.cls = .type "module" ∧ ob.dict = some builtinsNs ∧ ob.data = .plain)
    (ha : s1.heap.get? a = some { cls := .type "list", data := .seq vs.toArray }) (hi : IntsAre vs ns) (hl : ns.length ≤ sizeLine) (hr : Room k callerA)
    (F : ∀ base : Heap, K.In base → base.Ns mainGlobals mg → (∀ p ∈ cs, LamX.TabB base mg p.1 p.2) → FnG P w K mg base CX k fa fd [x] sp) (hbind : ∀ (s : Shared) (u : Value), BindsTo s fd ⟨[u], []⟩ [(x, u)])
    (hsp : ∀ H : Hp, (∀ p ∈ cs, H p.2 = some (.tbl #[])) → SqL K H a (ns.map V.int) → sp [.ref a] H (fun v _ => v = .bl true) fun _ _ _ => False)
    (hCX : ∀ H e s', CX [] H s1 (fun _ _ _ => False) e s' → False) :
    codeAny (model P w) callerA (.call (.ref fa) ⟨[.ref a], []⟩) (fun r s' => r = .ok (.ret (.bool true)) ∧ OldK s1.heap s'.heap ∧ s'.os = s1.os ∧ AllBare s'.gens) s1 := by
  have rv := vals_ints hi
  let H := beginH K cs a vs ns
  have tabAt : ∀ {b}, b ∈ cs.map (·.2) → s1.heap.get? b = some { cls := .none, data := .fields #[] } ∧ K.lookup b = none := fun {b} h => by
    obtain ⟨p, hp, rfl⟩ := List.mem_map.mp h
    exact ⟨hT p hp, nT p hp⟩
  have hok : HOk P w H s1.heap := fun b u h => by
    rcases begin_cases h with ⟨m, rfl⟩ | ⟨rfl, _, rfl⟩
    · exact (tabAt m).1
    · exact ⟨ha, by rw [List.length_map]; exact hl, vs, _, rv, ha⟩
  -- what is tracked is no dict, no module, and nothing of the written part
  have free : ∀ {b o}, s1.heap.get? b = some o → (∀ us n, o.data ≠ .seq us n) → o.data ≠ .fields #[] → H b = none := fun {b o} e d1 d2 => by
    cases q : H b with
    | none => rfl
    | some u =>
      rcases begin_cases q with ⟨m, _⟩ | ⟨rfl, _, _⟩
      · rw [(tabAt m).1] at e
        cases e
        exact absurd rfl d2
      · rw [ha] at e
        cases e
        exact absurd rfl (d1 _ _)
  have freeK : ∀ {b o}, K.lookup b = some o → H b = none := fun {b o} e => by
    cases q : H b with
    | none => rfl
    | some u =>
      rcases begin_cases q with ⟨m, _⟩ | ⟨rfl, n, _⟩
      · rw [(tabAt m).2] at e; cases e
      · rw [n] at e; cases e
  have nsOk : ∀ {b : Addr} {m : Str → Option Value}, s1.heap.Ns b m → (hidT s1.heap H).Ns b m := by
    rintro b m ⟨o, es, ep, e, d, r⟩
    exact ⟨o, es, ep, hidT_get e (free e (fun us n z => by rw [d] at z; cases z) fun z => by rw [d] at z; cases z), d, r⟩
  have inB : K.In (hidT s1.heap H) := fun b o e => hidT_get (KX b o e) (freeK e)
  obtain ⟨mc, c1, c2⟩ := hlim
  have tabs : ∀ p ∈ cs, LamX.TabB (hidT s1.heap H) mg p.1 p.2 := fun p hp => by
    refine ⟨?_, ?_, fun z => ?_⟩
    · obtain ⟨o, us, i1, i2, i3, i4, i5, i6, i7, e, r⟩ := C p hp
      refine ⟨o, us, i1, i2, i3, i4, i5, i6, i7, hidT_get e (free e (fun us' n z => ?_) fun z => ?_), r⟩
      · rw [r.2.1] at z; cases z
      · rw [r.2.1] at z
        cases z
        have := r.2.2.1
        simp at this
    · obtain ⟨bm, ob, e1, e2, e3, e4, e5, e6⟩ := hbm
      refine ⟨bm, ob, e1, e2, fun z => ?_, fun z => ?_, hidT_get e3 (free e3 (fun us n z => by rw [e6] at z; cases z) fun z => by rw [e6] at z; cases z), e4, e5, e6⟩
      · obtain ⟨o, es, ep, e, d, _⟩ := hns
        rw [z, e] at e3
        cases e3
        rw [e6] at d; cases d
      · rw [z, hT p hp] at e3
        cases e3
        cases e6
    · obtain ⟨o, es, ep, e, d, _⟩ := hns
      rw [z, hT p hp] at e
      cases e
      cases d
  have start : Env0 P w K mg (hidT s1.heap H) callerA [] s1 H := ⟨rfl, ⟨inB, nsOk hns, ⟨mb, nsOk hb, hbb⟩, ⟨mc, nsOk c1, c2⟩⟩, fun b o e => of_hidT e, Nat.le_of_eq (hidT_size _ _), trivial, fun b z => (List.not_mem_nil z).elim, hok, .of_eq hg⟩
  have scr : SqL K H a (ns.map V.int) := by
    cases q : K.lookup a with
    | none =>
      refine .inl (.inr ⟨{ cls := .type "list", data := .seq vs.toArray }, ?_⟩)
      have na : a ∉ cs.map (·.2) := fun z => by
        have := (tabAt z).1
        rw [ha] at this; cases this
      exact (if_neg na).trans (if_pos ⟨rfl, q⟩)
    | some o =>
      have e := KX a o q
      rw [ha] at e
      cases e
      exact .inr ⟨_, vs.toArray, _, q, rfl, rfl, rfl, by rw [List.size_toArray, hi.length]; exact hl, by simpa using rv⟩
  refine codeAny_mono ((F _ inB (nsOk hns) tabs).run (us := [.ref a]) (vs := [.ref a]) rfl hr start (hbind s1 (.ref a)) (.cons rfl .nil) (hsp H (fun p hp => begin_tab hp) scr)) ?_
  rintro (e | (_ | _ | _ | u)) s' h
  · exact (hCX H e s' h).elim
  · exact h.elim
  · exact h.elim
  · exact h.elim
  obtain ⟨v, H', os, bare, un, hok', r, q⟩ := h
  have q : v = .bl true := q
  subst q
  have r : u = Value.bool true := r
  subst r
  have old : ∀ {b o}, b ∉ cs.map (·.2) → s1.heap.get? b = some o → s'.heap.get? b = some o := fun {b o} nb e => by
    cases q : H b with
    | none => exact un.keep b o e q (fun z => (List.not_mem_nil z).elim) (fun z => (List.not_mem_nil z).elim)
    | some u =>
      rcases begin_cases q with ⟨m, _⟩ | ⟨rfl, _, rfl⟩
      · exact absurd m nb
      · have := (hok' _ _ (un.frzs _ _ _ q)).1
        rw [ha] at e
        cases e
        exact this
  have grown : ∀ {b}, b ∈ cs.map (·.2) → ∃ more : Array Value, s'.heap.get? b = some { cls := .none, data := .fields more } := fun {b} m => by
    obtain ⟨p, hp, rfl⟩ := List.mem_map.mp m
    obtain ⟨more, z⟩ := un.tbls p.2 #[] (begin_tab hp)
    exact ⟨_, hok' p.2 _ z⟩
  refine ⟨rfl, ⟨fun b o e => ?_, fun b o e => ?_⟩, os, bare⟩
  · by_cases m : b ∈ cs.map (·.2)
    · have t := (tabAt m).1
      obtain ⟨more, g⟩ := grown m
      obtain ⟨p, hp, rfl⟩ := List.mem_map.mp m
      rw [t] at e
      cases e
      exact .inr (.inl ⟨((C p hp).tab t).isCodeTable, rfl, #[], more, rfl, by rw [Array.empty_append]; exact g⟩)
    · exact .inl (old m e)
  · by_cases m : b ∈ cs.map (·.2)
    · obtain ⟨more, g⟩ := grown m
      exact ⟨_, g⟩
    · exact ⟨o, old m e⟩
end
/-- what is known of the law's promise at the head's heap -/
def LawAtG (l : PySem.W.OpenLaw) (w : World) (K : PySem.W.Frag) (CX : CXT) (k n : Nat) (x : Str) (mg : Str → Option Value) (fa : Addr) (h : Heap) : Prop :=
  ∃ (fd : FuncData) (cs : List (Addr × Addr)) (sp : Sp), (∀ p ∈ cs, h.get? p.2 = some { cls := .none, data := .fields #[] }) ∧ (∀ p ∈ cs, K.lookup p.2 = none) ∧ (∀ p ∈ cs, PySem.W.CodeHd h p.1 p.2) ∧
    (∀ (s : Shared) (u : Value), BindsTo s fd ⟨[u], []⟩ [(x, u)]) ∧ (∀ (H : Hp) (a : Addr) (ns : List Int), ns.length ≤ n → (∀ p ∈ cs, H p.2 = some (.tbl #[])) → SqL K H a (ns.map V.int) → sp [.ref a] H (fun v _ => v = .bl true) fun _ _ _ => False) ∧
    ∀ base : Heap, K.In base → base.Ns mainGlobals mg → (∀ p ∈ cs, LamX.TabB base mg p.1 p.2) → FnG l.prog w K mg base CX k fa fd [x] sp
theorem walk_ofG {l : PySem.W.OpenLaw} {n k : Nat} {q : Program} {loose : List Str} {XP : (Str → Option Value) → Heap → Prop} {YP : World → Heap → Prop} {d : DefRec} {CX : World → CXT} {x : Str}
    (hn : l.most = some n) (hn2 : n ≤ sizeLine) (hdf : d.params.defaults = []) (hr : Room k callerA)
    (F : ∀ (w : World) (mg : Str → Option Value) (fa : Addr) (h : Heap), YP w h → h.Ns mainGlobals mg → mg d.name = some (.ref fa) → ∃ K : PySem.W.Frag, K.In h ∧ LawAtG l w K (CX w) k n x mg fa h)
    (hCX : ∀ (w : World) (H : Hp) (s : Shared) (e : Value) (s' : Shared), CX w [] H s (fun _ _ _ => False) e s' → False) :
    PySem.W.WalkO q loose XP YP l.row.toRowW d [] (fun f vs => PySem.call f vs) := by
  refine Att.attach_call hn hdf ?_
  intro w s₀ s₁ mg mb fa o pm cd doc a vs ns G Y ho hd hcd hmg hobj hints hlen hg
  obtain ⟨K, KX, fd, cs, sp, hT, nT, C, hb, hsp, hF⟩ := F w mg fa _ Y G.T.g hmg
  exact law_callG KX G.T.g G.T.b G.T.builtins G.T.nolimit hg hT nT C G.T.bmain hobj hints (Nat.le_trans hlen hn2) hr hF hb (fun H h1 h2 => hsp H a ns hlen h1 h2) fun H e s' => hCX w H s₁ e s'
end DL

/-! repr of data, the law where repr may be asked. -/
namespace DL
open PySem L2 PySem.Spec PyProof.Rows
section
variable {L : Ls} {Z : Zs} {X : Cx} {k : Nat} {ε : Nat → Str → Prop}
def rRepr (K : PySem.W.Frag) : List V → Hp → VK → Prop := fun xs H Q => ∃ v d, xs = [v] ∧ Dp K H v d ∧ d.canLay0 = true ∧ d.showable = true ∧ d.shown.length ≤ sizeLine ∧ d.depth ≤ 64 ∧ (∀ x, d ≠ .str x) ∧ Q (.str d.shown) H
theorem call_repr (hG : X.A.guards = some []) (hu : X.A.units + 65 < cLine) : CallR X (.builtin "repr") (rRepr X.K) := by
  intro pins s σ H xs us Q I r h
  obtain ⟨v, d, rfl, hd, c1, c2, c3, c4, c5, q⟩ := h
  obtain ⟨u, rfl, ru⟩ := vals1 r
  cases hd with
  | non =>
    have ru : u = Value.none := ru
    subst ru
    exact PySem.P.repr_of_none ⟨.str _, H, I.tok _, ⟨_, rfl⟩, q⟩
  | bl b =>
    have ru : u = Value.bool b := ru
    subst ru
    exact PySem.P.repr_of_bool ⟨.str _, H, I.tok _, ⟨_, rfl⟩, by cases b <;> exact q⟩
  | int i =>
    obtain ⟨t, rfl⟩ := ru
    exact PySem.P.repr_of_int (of_decide_eq_true c2) ⟨.str _, H, I.tok _, ⟨_, rfl⟩, q⟩
  | str x => exact absurd rfl (c5 x)
  | lst t l =>
    have ru : u = Value.ref _ := ru
    subst ru
    obtain ⟨as, rd⟩ := Dp.reads I _ _ _ (Dp.lst t l) (rfl : L2.RelV (.ref _) (.ref _))
    exact repr_of_reads' rd c2 (PyData.noDict_hsm (PyData.hasDict_of_canLay _ c1)) hG (by omega) (fun _ _ e => e) (fun h' u tk hk => ⟨.str _, H, I.kept (t' := tk) hk, ⟨_, rfl⟩, q⟩) c3
  | tup t l =>
    have ru : u = Value.ref _ := ru
    subst ru
    obtain ⟨as, rd⟩ := Dp.reads I _ _ _ (Dp.tup t l) (rfl : L2.RelV (.ref _) (.ref _))
    exact repr_of_reads' rd c2 (PyData.noDict_hsm (PyData.hasDict_of_canLay _ c1)) hG (by omega) (fun _ _ e => e) (fun h' u tk hk => ⟨.str _, H, I.kept (t' := tk) hk, ⟨_, rfl⟩, q⟩) c3
/-- data that repr can be asked of: None, truths, not too large ints, tuples of such -/
def tiny (w : Nat) : Nat → D → Prop
  | _, .non | _, .bl _ => True
  | _, .int i => i.natAbs < 10 ^ 20
  | n + 1, .tup ds => ds.length ≤ w ∧ ∀ d ∈ ds, tiny w n d
  | _, _ => False
@[simp] def dRepr : List D → (D → Prop) → Prop
  | [d], Q => (∃ w n, w ≤ 60 ∧ n ≤ 3 ∧ tiny w n d) ∧ Q (.str d.py.shown)
  | _, _ => False
def szT (w : Nat) : Nat → Nat
  | 0 => 25
  | n + 1 => w * (szT w n + 2) + 30
theorem shownAll_len : ∀ xs : List PyData, (PyData.shownAll xs).length = xs.length
  | [] => rfl
  | x :: xs => by unfold PyData.shownAll; rw [List.length_cons, List.length_cons, shownAll_len xs]
theorem pyL_len : ∀ ds : List D, (D.pyL ds).length = ds.length
  | [] => rfl
  | d :: ds => by unfold D.pyL; rw [List.length_cons, List.length_cons, pyL_len ds]
theorem tiny_up {w n : Nat} : ∀ {d : D}, tiny w n d → tiny w (n + 1) d := by
  induction n with
  | zero => intro d h; cases d <;> first | exact h.elim | exact h
  | succ n ih => intro d h; cases d <;> first | exact h.elim | exact h | exact ⟨h.1, fun c hc => ih (h.2 c hc)⟩
mutual
theorem tiny_ok {w : Nat} : ∀ (n : Nat) (d : D), tiny w n d → d.py.canLay0 = true ∧ d.py.showable = true ∧ d.py.shown.length ≤ szT w n ∧ d.py.depth ≤ n
  | n, .non, h => ⟨rfl, rfl, by show (Str.ofString "None").length ≤ _; rw [PySem.ofString_length]; show 4 ≤ _; cases n <;> unfold szT <;> omega, Nat.zero_le _⟩
  | n, .bl b, h => ⟨rfl, rfl, by
      have : (PyData.shown (.bool b)).length ≤ 5 := by cases b <;> decide
      show (PyData.shown (.bool b)).length ≤ _
      have h2 : 25 ≤ szT w n := by cases n <;> unfold szT <;> omega
      omega, Nat.zero_le _⟩
  | n, .int i, h => by
    have h : i.natAbs < 10 ^ 20 := by cases n <;> exact h
    refine ⟨rfl, decide_eq_true ?_, ?_, Nat.zero_le _⟩
    · have : i.natAbs < 2 ^ 100 := Nat.lt_of_lt_of_le h (by decide)
      by_cases z : i.natAbs = 0
      · rw [z]; decide
      · have := (Nat.log2_lt z).mpr this
        omega
    · show (Str.ofString (toString i)).length ≤ _
      rw [PySem.ofString_length]
      have := int_text_length_le10 (k := 20) (by decide) h
      have h2 : 25 ≤ szT w n := by cases n <;> unfold szT <;> omega
      omega
  | 0, .tup ds, h => h.elim
  | n + 1, .tup ds, h => by
    obtain ⟨hl, hd⟩ := h
    obtain ⟨a1, a2, a3, a4⟩ := tinys_ok n ds hd
    refine ⟨a1, a2, ?_, ?_⟩
    · show (tupleText (PyData.shownAll (D.pyL ds))).length ≤ _
      have h1 := tupleText_len_le (PyData.shownAll (D.pyL ds))
      rw [shownAll_len, pyL_len] at h1
      unfold szT
      have h2 : ds.length * szT w n ≤ w * szT w n := Nat.mul_le_mul_right _ hl
      have h3 : w * (szT w n + 2) = w * szT w n + w * 2 := Nat.mul_add _ _ _
      omega
    · show PyData.depthAll (D.pyL ds) + 1 ≤ n + 1
      omega
  | 0, .str _, h | 0, .lst _, h | 0, .emp, h | 0, .exc _, h | 0, .set _, h | 0, .rng, h | 0, .scr _, h | 0, .fn _, h | 0, .ty _, h | 0, .cl _, h | 0, .dii _, h | 0, .dci _, h | 0, .dcs _, h | 0, .dcx _ _, h | 0, .tpw _, h => h.elim
  | n + 1, .str _, h | n + 1, .lst _, h | n + 1, .emp, h | n + 1, .exc _, h | n + 1, .set _, h | n + 1, .rng, h | n + 1, .scr _, h | n + 1, .fn _, h | n + 1, .ty _, h | n + 1, .cl _, h | n + 1, .dii _, h | n + 1, .dci _, h | n + 1, .dcs _, h | n + 1, .dcx _ _, h | n + 1, .tpw _, h => h.elim
theorem tinys_ok {w : Nat} : ∀ (n : Nat) (ds : List D), (∀ d ∈ ds, tiny w n d) → PyData.canLayAll0 (D.pyL ds) = true ∧ PyData.showableAll (D.pyL ds) = true ∧ ((PyData.shownAll (D.pyL ds)).map (·.length)).sum ≤ ds.length * szT w n ∧ PyData.depthAll (D.pyL ds) ≤ n
  | n, [], _ => ⟨rfl, rfl, Nat.zero_le _, Nat.zero_le _⟩
  | n, d :: ds, h => by
    obtain ⟨a1, a2, a3, a4⟩ := tiny_ok n d (h d List.mem_cons_self)
    obtain ⟨b1, b2, b3, b4⟩ := tinys_ok n ds fun c hc => h c (List.mem_cons_of_mem _ hc)
    unfold D.pyL
    refine ⟨by unfold PyData.canLayAll0; rw [a1, b1]; rfl, by unfold PyData.showableAll; rw [a2, b2]; rfl, ?_, ?_⟩
    · unfold PyData.shownAll
      rw [List.map_cons, List.sum_cons, List.length_cons, Nat.add_one_mul]
      omega
    · unfold PyData.depthAll
      exact Nat.max_le.mpr ⟨a4, b4⟩
end
theorem szT_mono {w n : Nat} (hw : w ≤ 60) (hn : n ≤ 3) : szT w n ≤ sizeLine := by
  have h0 : szT w 0 = 25 := rfl
  have h1 : szT w 1 ≤ 2000 := by show w * (szT w 0 + 2) + 30 ≤ _; rw [h0]; omega
  have h2 : szT w 2 ≤ 200000 := by show w * (szT w 1 + 2) + 30 ≤ _; exact Nat.le_trans (Nat.add_le_add_right (Nat.mul_le_mul hw (Nat.add_le_add_right h1 2)) 30) (by omega)
  have h3 : szT w 3 ≤ 16000000 := by show w * (szT w 2 + 2) + 30 ≤ _; exact Nat.le_trans (Nat.add_le_add_right (Nat.mul_le_mul hw (Nat.add_le_add_right h2 2)) 30) (by omega)
  rw [sizeLine_eq]
  match n, hn with
  | 0, _ => omega
  | 1, _ => omega
  | 2, _ => omega
  | 3, _ => omega
theorem k_repr (F : XF L Z X k ε) (hG : X.A.guards = some []) : CalD Z X (.builtin "repr") dRepr := by
  refine ⟨_, call_repr hG F.hu65, fun P H xs ds Q R hp gi hd hg kk => ?_⟩
  unfold dRepr at hg
  split at hg
  · rename_i d
    obtain ⟨⟨w, n, hw, hn, ht⟩, hg⟩ := hg
    obtain ⟨v, rfl, h⟩ := hd.one
    obtain ⟨a1, a2, a3, a4⟩ := tiny_ok n d ht
    refine ⟨v, d.py, rfl, dp_of F.K d v h a1, a1, a2, Nat.le_trans a3 (szT_mono hw hn), by omega, fun x e => ?_, kk _ _ H (Same.refl _) (dn_str.mpr rfl) hg⟩
    cases d <;> cases n <;> first | exact ht.elim | (unfold D.py at e; cases e)
  · exact hg.elim
end
section
variable {P : Program} {w : World} {K : PySem.W.Frag} {mg : Str → Option Value} {base : Heap} {L : Ls}
/-- the law's own def, with repr in it -/
theorem law_okG {x qual : Str} {st : Stmt} {rest : List Stmt} {f fb : Addr} {fd fdb : FuncData} {N : List Str} {k : Nat} {p1 p2 p3 p4 p5 : Pos} {t : TSd} (hK : L.K = K ∧ L.w = w) (F : Fun K x qual st f fd) (Sc : FnScope N ["script"] (defScope st))
    (i : Nat) (hi : N[i]? = some ("state" : Str)) (hi0 : i ≠ 0) (hloc : Loc (defScope st) ("state" : Str))
    (hN : ∃ r, N = ("script" : Str) :: r) (hscr : Loc (defScope st) ("script" : Str)) (hgl : (defScope st).names.lookup ("_law_begun" : Str) = some NameKind.globalImplicit)
    (FB : FnOk P w K mg base (L2.CX P w) k fb fdb ["script"] (spBegun L)) (mB : mg ("_law_begun" : Str) = some (.ref fb)) (kB : PySem.W.keepIn K (.ref fb) = true) (bB : Binds K fdb ["script"] [])
    (hb : defBody st = .Assign [.Name "state" p1] (.Call (.Name "_law_begun" p2) [.Name "script" p3] [] p4) p5 :: rest)
    (body : ∀ (cdv : Value) (A : Around) (outer : List PySem.Env) (s : Shared) (H : Hp) (E : XK) (Z : Zs), A.guards = some [] → XF L Z (cxOf (L2.CX P w) P w K mg base N qual (defScope st) f cdv A outer s H E) k (fun _ _ => False) →
      DSs Z (cxOf (L2.CX P w) P w K mg base N qual (defScope st) f cdv A outer s H E) rest t)
    (imp : ∀ ns : List Int, ns.length ≤ 63 → t { nx := fun _ _ => False, rt := fun _ d => d = .bl true } 0 ((params N [.scr ns]).set i (.val .rng))) :
    FnG P w K mg base (L2.CX P w) (k + 1) f fd ["script"] (spLaw L K) := by
  refine fnG_of F Sc (fun vs H Q E h => by obtain ⟨a, ns, rfl, _⟩ := h; rfl) fun cdv A outer s H vs Q E gd hr h => ?_
  exact law_body hK Sc i hi hloc hN hscr hgl FB mB kB bB hb hr (fun Z F' => body cdv A outer s H E Z gd F') imp h
end
end DL

/-! Dicts as data: {k: True for ..}, in, sorted, walks over the keys. -/
namespace DL
open PySem L2 PySem.Spec PyProof.Rows
section
variable {X : Cx} {e : Expr} {T : TE}
/-- behind an expression the object that it gives is locked -/
def tLocked (T : TE) : TE := fun σ H Q => T σ H fun x H1 => ∃ d u, x = .ref d ∧ H1 d = some u ∧ Mut (some u) ∧ ∀ od, Q x (upd H1 d (.frz od u))
theorem pe_locked (h : PE X e T) : PE X e (tLocked T) := by
  refine ⟨fun pins s σ H Q I q => wpAny_mono (h.run pins s σ H _ I q) (fun v s' hv => ?_) fun _ _ z => z⟩
  obtain ⟨x, H1, J, r, d, u, rfl, hd, mu, k⟩ := hv
  obtain ⟨od, J2⟩ := J.lock hd mu
  exact ⟨_, _, J2, r, k od⟩
/-- x = {k: v for ..}, x a local on the same line -/
theorem ps_setDc {i : Nat} {y : Str} {py : Pos} {kx vx tg iter : Expr} {ifs : List Expr} {scope : Scope} {own : List (Str × Nat)} {pos spos : Pos} {wi : TI} {g : TG} {tt : TT} {tk tv : TE} (hc : X.calm = true) (hN : X.N.Nodup) (hy : X.N[i]? = some y) (hyl : X.env.scope.names.lookup y = some .local)
    (hsw : swapsWith (.DictComp kx vx [⟨tg, iter, ifs, 0⟩] scope pos) (some (.Name y py)) spos.line X.env = pure true) (hi : PI X tg iter wi) (ok : BlkOk X.N X.env.scope scope own)
    (hg : ∀ (s : Shared) (H : Hp) (C : Addr) (cl : List (Str × Addr)) (fp : List Addr), PG (X.blk s H scope (compEnvC scope cl C X.env) fp) tg g) (ht : ∀ (s : Shared) (H : Hp) (C : Addr) (cl : List (Str × Addr)) (fp : List Addr), PTs (X.blk s H scope (compEnvC scope cl C X.env) fp) ifs tt)
    (hk : ∀ (s : Shared) (H : Hp) (C : Addr) (cl : List (Str × Addr)) (fp : List Addr), PE (X.blk s H scope (compEnvC scope cl C X.env) fp) kx tk)
    (he : ∀ (s : Shared) (H : Hp) (C : Addr) (cl : List (Str × Addr)) (fp : List Addr), PE (X.blk s H scope (compEnvC scope cl C X.env) fp) vx tv) (hs : ∀ x, foldedSetIterable iter X.env x = pure x := by intro _; rfl) :
    PS X (.Assign [.Name y py] (.DictComp kx vx [⟨tg, iter, ifs, 0⟩] scope pos) spos) (fun D σ H => tDc wi g tt tk tv (own.map (·.2)) σ H fun x H1 => ∃ d u, x = .ref d ∧ H1 d = some u ∧ Mut (some u) ∧ ∀ od, gName i x σ (upd H1 d (.frz od u)) D.nx) := by
  refine ⟨fun pins s σ H D I want => ?_⟩
  rw [exec_Assign_Name_used _ _ _ _ hsw]
  refine wpAny_bind (wpAny_standAt (wpAny_bind ?_))
  have all : wpAny (model X.prog X.w) X.A (comprehension (.DictComp kx vx [⟨tg, iter, ifs, 0⟩] scope pos) scope X.env (firstIterPos [⟨tg, iter, ifs, 0⟩] pos) newDict false (eval iter X.env) (some (assign (.Name y py) X.env))) (fun _ s' => SP X pins D .next s') X.xe s := by
    refine dc_core hc hN I hi ok hg ht hk he hs want fun L C s' m H' I' q hn f => ?_
    obtain ⟨d, u, e0, hd, mu, q⟩ := q
    cases e0
    obtain ⟨od, J⟩ := I'.lock hd mu
    obtain ⟨f0, f1, f2, f3, f4, f5⟩ := f
    have f0' : (upd H' L (.frz od u)) C = none := by
      by_cases z : C = L
      · rw [z, hd] at f0; cases f0
      · rw [upd_ne z]; exact f0
    refine wpAny_assign_Name (store_ok2 (v := V.ref L) J hN hy (.inl hyl) rfl (fun s2 I2 ⟨a, sb, ha⟩ => ?_) (.inr hyl))
    have apart : C ≠ a := by
      rcases ha with z | z
      · rw [z]; exact f1
      · exact fun e => f4 y a z e.symm
    exact ⟨m, hn.sameBut sb apart, fun h3 sb3 => ⟨_, _, I2.turned (t' := s2.toks) (fun b o hb e => (sb3.2 b hb).trans e) f0' f1 f3 f4 f5, q od⟩⟩
  exact wpAny_bind (wpAny_mono all (fun _ s' hq => wpAny_pure (wpAny_pure hq)) fun _ _ z => z)
end
end DL

namespace DL
open PySem L2
/-! ### a change of an object of one's own, whatever it is -/
section
variable {Z : Zs} {δ : Env} {σ : L2.St} {H : Hp} {m : Nat} {p : Addr} {kvs : List (Key × V)} {o : HO}
theorem Gi.updK (g : Gi Z m H) (h : H p = some (.dK kvs)) (hz : ¬ zone Z p) : Gi Z m (L2.upd H p o) :=
  ⟨fun q hq => tab_neK h (g.tabs q hq), fun s b c e => by
    obtain ⟨gs, cs, l, t, h1, h2, h3, r⟩ := (g.rng s b c e).ex
    have n1 : s ≠ p := fun z => hz ⟨s, b, c, e, .inl z.symm⟩
    exact ⟨gs, cs, l, t, by rw [upd_ne n1]; exact h1, by rw [upd_ne (ne_of h2 h (by intro z; cases z))]; exact h2, by rw [upd_ne (ne_of h3 h (by intro z; cases z))]; exact h3, r⟩⟩
theorem Nv.pokeK (n : Nv Z m δ σ H) (z : Zok Z) (hO : Z.O p) (hz : ¬ zone Z p) (h0 : Fr0 Z.H0 p) (h : H p = some (.dK kvs)) (nt : Nt o) : Nv Z m δ σ (upd H p o) := by
  have s : Stp (OO Z σ δ) H (upd H p o) := .ownK (Or.inl hO) h nt
  refine ⟨n.len, fun i d q => ?_, fun i ds q => ?_, n.sep, n.gi.updK h hz, ?_, fun a q => ?_, fun q hq => Dn.stp s _ _ (n.gho q hq)⟩
  · obtain ⟨v, h1, h2⟩ := n.val i d q
    exact ⟨v, h1, Dn.stp s d v h2⟩
  · obtain ⟨a, vs, h1, h2, h3, h4, h5, h6⟩ := n.own i ds q
    exact ⟨a, vs, h1, by rw [upd_ne (fun e => h4 (by rw [e]; exact hO))]; exact h2, DnL.stp s ds vs h3, h4, h5, h6⟩
  · have ne : ∀ a ob, Z.H0 a = some ob → Nt ob → a ≠ p := fun a ob e nt' q => by rw [q] at e; obtain ⟨ps, z⟩ := h0 _ e; exact nt' ps z
    exact Stp.off n.stp ne
  · obtain ⟨o', e, nt'⟩ := n.trk a q
    by_cases ha : a = p
    · exact ⟨o, by rw [ha]; exact upd_same, nt⟩
    · exact ⟨o', by rw [upd_ne ha]; exact e, nt'⟩
end
/-! ### the keys of a dict that is filled -/
def addI (ks : List Int) (k : Int) : List Int := if k ∈ ks then ks else ks ++ [k]
def dedI (ns : List Int) : List Int := ns.foldl addI []
def kvI (ks : List Int) : List (Key × V) := ks.map fun k => (Sum.inl k, V.bl true)
theorem putK_I (ks : List Int) (k : Int) : putK (kvI ks) (Sum.inl k) (V.bl true) = kvI (addI ks k) := by
  unfold putK addI kvI
  by_cases h : k ∈ ks
  · rw [if_pos h, if_pos (by
      rw [List.any_map, List.any_eq_true]
      exact ⟨k, h, by simp⟩), List.map_map]
    refine List.map_congr_left fun j hj => ?_
    show (if (Sum.inl j : Key) = Sum.inl k then ((Sum.inl j : Key), V.bl true) else (Sum.inl j, V.bl true)) = _
    split <;> rfl
  · rw [if_neg h, if_neg (by
      rw [List.any_map, List.any_eq_true]
      rintro ⟨j, hj, e⟩
      have e : decide ((Sum.inl j : Key) = Sum.inl k) = true := e
      rw [decide_eq_true_iff] at e
      cases e
      exact h hj), List.map_append]
    rfl
theorem addI_len (ks : List Int) (k : Int) : (addI ks k).length ≤ ks.length + 1 := by unfold addI; split <;> simp
theorem dedI_snoc (ns : List Int) (k : Int) : dedI (ns ++ [k]) = addI (dedI ns) k := by unfold dedI; rw [List.foldl_append]; rfl
theorem addI_mem (ks : List Int) (k a : Int) : a ∈ addI ks k ↔ a ∈ ks ∨ a = k := by
  unfold addI
  split
  · rename_i h
    constructor
    · exact .inl
    · rintro (h2 | rfl)
      · exact h2
      · exact h
  · simp
theorem foldl_addI_mem (a : Int) : ∀ (ns ks : List Int), a ∈ ns.foldl addI ks ↔ a ∈ ks ∨ a ∈ ns
  | [], ks => by simp
  | n :: ns, ks => by
    rw [List.foldl_cons, foldl_addI_mem a ns, addI_mem, List.mem_cons, or_assoc]
theorem dedI_mem (ns : List Int) (a : Int) : a ∈ dedI ns ↔ a ∈ ns := by unfold dedI; rw [foldl_addI_mem]; simp
theorem foldl_addI_len : ∀ (ns ks : List Int), (ns.foldl addI ks).length ≤ ks.length + ns.length
  | [], ks => Nat.le_refl _
  | n :: ns, ks => by
    rw [List.foldl_cons, List.length_cons]
    have := foldl_addI_len ns (addI ks n)
    have := addI_len ks n
    omega
theorem dedI_len (ns : List Int) : (dedI ns).length ≤ ns.length := by have := foldl_addI_len ns []; simpa [dedI] using this
theorem addI_nodup {ks : List Int} (h : ks.Nodup) (k : Int) : (addI ks k).Nodup := by
  unfold addI
  split
  · exact h
  · rename_i hk
    rw [List.nodup_append]
    refine ⟨h, by simp, fun a ha b hb => ?_⟩
    simp at hb
    subst hb
    exact fun e => hk (e ▸ ha)
theorem foldl_addI_nodup : ∀ (ns ks : List Int), ks.Nodup → (ns.foldl addI ks).Nodup
  | [], _, h => h
  | n :: ns, _, h => foldl_addI_nodup ns _ (addI_nodup h n)
theorem dedI_nodup (ns : List Int) : (dedI ns).Nodup := foldl_addI_nodup ns [] .nil
theorem OO_wiped {Z : Zs} {σ : L2.St} {δ : Env} {vs : List Nat} (_ : noOwn δ vs = true) : ∀ a, OO Z (L2.wipe σ vs) (wipeE δ vs) a → OO Z σ δ a := by
  rintro a (h | ⟨j, fs, h1, h2⟩)
  · exact .inl h
  · have nj : j ∉ vs := fun hj => by
      have key : ∀ (us : List Nat), j ∈ us → ∀ fs, (wipeE δ us)[j]? ≠ some (.own fs) := by
        intro us
        induction us with
        | nil => intro h; cases h
        | cons u us ih =>
          intro h fs z
          have z : ((wipeE δ us).set u .no)[j]? = some (.own fs) := z
          by_cases e : u = j
          · subst e
            by_cases hl : u < (wipeE δ us).length
            · rw [List.getElem?_set_self hl] at z; cases z
            · rw [List.getElem?_eq_none (by rw [List.length_set]; omega)] at z; cases z
          · rw [List.getElem?_set_ne e] at z
            exact ih ((List.mem_cons.mp h).resolve_left (Ne.symm e)) fs z
      exact key vs hj fs h1
    rw [wipeE_out nj] at h1
    rw [wipe_out nj] at h2
    exact .inr ⟨j, fs, h1, h2⟩
/-! ### {k: True for tg in iter if ..} -/
section
variable {L : Ls} {Z Z' : Zs} {X : Cx} {k : Nat} {ε : Nat → Str → Prop} {kx tg iter : Expr} {ifs : List Expr} {scope : Scope} {pos : Pos} {δ : Env} {σ : L2.St} {H H' : Hp}
def intOf : D → Option Int | .int i => some i | _ => none
theorem ints_back : ∀ ns : List Int, (ns.map D.int).filterMap intOf = ns
  | [] => rfl
  | n :: ns => by
    rw [List.map_cons, List.filterMap_cons]
    show n :: (ns.map D.int).filterMap intOf = _
    rw [ints_back ns]
@[simp] def rKeyI (tk : TD) : TD := fun m δ Q => tk m δ fun m d => match d with | .int i => Q m (.int i) | _ => False
@[simp] def rDc (τ : Tgt) (vs : List Nat) (ti : TL) (tt : TB) (tk : TD) : TD := fun m δ Q => noOwn δ vs = true ∧ ti m δ fun m ds => rLcGo τ tt (rKeyI tk) ds [] m (wipeE δ vs) fun m ks => Q m (.dci (dedI (ks.filterMap intOf)))
theorem dc_sem (F : XF L Z X k ε) {τ : Tgt} {vs : List Nat} {wi : TI} {tt : TB} {tk : TD} {ti : TL} (hτ : ∀ i ∈ τ.is, i ∈ vs)
    (hi : ∀ (m : Nat) (δ : Env) (σ : L2.St) (H : Hp) (Q : Nat → List D → Prop) (R : It → Hp → Prop), Nv Z m δ σ H → ti m δ Q →
      (∀ m' J H1 ds G, Nv Z m' δ σ H1 → Stp (zone Z) H H1 → (∀ p ∈ G, Dn Z (OO Z σ δ) H1 p.1 p.2) → ItD Z.L Z.st J ds G → ds.length ≤ sizeLine → Q m' ds → R J H1) → wi σ H R)
    (ht : ∀ Z' s H C cl fp, XF L Z' (blkY X scope s H C cl fp) k (fun _ _ => False) → DTs Z' (blkY X scope s H C cl fp) ifs tt)
    (he : ∀ Z' s H C cl fp, XF L Z' (blkY X scope s H C cl fp) k (fun _ _ => False) → DE Z' (blkY X scope s H C cl fp) kx tk)
    {m : Nat} {Q : Nat → D → Prop} {R : VK} (n : Nv Z m δ σ H) (q : rDc τ vs ti tt tk m δ Q)
    (r : ∀ m' v d H', Nv Z m' δ σ H' → Stp (zone Z) H H' → Dn Z (OO Z σ δ) H' d v → Q m' d → R v H') :
    tDc wi (hT X.K τ) (cT (blkY X scope) ifs) (cE (blkY X scope) kx) (tC (.bl true)) vs σ H fun x H1 => ∃ d u, x = .ref d ∧ H1 d = some u ∧ Mut (some u) ∧ ∀ od, R x (upd H1 d (.frz od u)) := by
  obtain ⟨no, q⟩ := q
  refine hi m δ σ H _ _ n q fun m1 J H1 ds G n1 s1 hG it hz q1 p hp => ?_
  have hK : X.K = Z.L.K := F.K
  have np : ¬ OO Z σ δ p := n1.fresh F.zok hp
  have h0 : Fr0 Z.H0 p := n1.h0 hp
  have nzp : ¬ zone Z p := fun z => np (.inl (F.zok.zo p z))
  have xp := Ext.plus Z p h0
  have Fp := F.ext xp
  have zp : zone (Z.plus p) = zone Z := xp.zone
  have hp0 : Fr0 H p := fun o z => by
    by_cases t : Nt o
    · obtain ⟨o', e, _⟩ := s1.there p o z t
      rw [hp] at e; cases e
    · exact Classical.byContradiction fun z => t fun ps e => z ⟨ps, e⟩
  have off : ∀ {H2 : Hp} {o : HO}, Stp (zone Z) H H2 → Stp (zone Z) H (upd H2 p o) := fun s => Stp.off s fun a o e nt q => by rw [q] at e; obtain ⟨ps, z⟩ := hp0 _ e; exact nt ps z
  have xi : Ext (Z.plus p) ((Z.plus p).gh G) := Ext.gh _ _
  have Fi := Fp.ext xi
  have zi : zone ((Z.plus p).gh G) = zone Z := xi.zone.trans zp
  have nzi : ¬ zone ((Z.plus p).gh G) p := by rw [zi]; exact nzp
  have hOp : ((Z.plus p).gh G).O p := Or.inr rfl
  refine ⟨fun i w H2 => w = ds.length - i ∧ i ≤ ds.length ∧ ∃ mm acc, acc.length ≤ i ∧ Nv ((Z.plus p).gh G) mm δ σ H2 ∧ Stp (zone Z) H H2 ∧ H2 p = some (.dK (kvI (dedI acc))) ∧ rLcGo τ tt (rKeyI tk) (ds.drop i) (acc.map D.int) mm (wipeE δ vs) fun m ks => Q m (.dci (dedI (ks.filterMap intOf))),
    ⟨ds.length, rfl, Nat.zero_le _, m1, [], Nat.le_refl _, (n1.plus F.zok hp).gh fun g hg => Dn.stp (.same (same_upd hp)) _ _ (Dn.plus hp (hG g hg)), s1.trans (.same (same_upd hp)), upd_same, q1⟩, ?_⟩
  rintro i w H2 ⟨rfl, hi, m2, acc, ha, n2, s2, hp2, q2⟩
  have gG : ∀ g ∈ G, Dn ((Z.plus p).gh G) (OO ((Z.plus p).gh G) σ δ) H2 g.1 g.2 := fun g hg => n2.gho g (List.mem_append_left _ hg)
  by_cases hlt : i < ds.length
  · have hd : ds[i]? = some ds[i] := List.getElem?_eq_getElem hlt
    obtain ⟨hgo, hy⟩ := it.go ((Z.plus p).gh G) _ H2 i ds[i] rfl rfl gG hd (fun a ha => n2.fresh Fi.zok ha)
    rw [List.drop_eq_getElem_cons hlt] at q2
    refine .inr ⟨hgo, fun H5 => ∃ mm acc, acc.length ≤ i + 1 ∧ Nv ((Z.plus p).gh G) mm δ σ H5 ∧ Stp (zone Z) H H5 ∧ H5 p = some (.dK (kvI (dedI acc))) ∧ rLcGo τ tt (rKeyI tk) (ds.drop (i + 1)) (acc.map D.int) mm (wipeE δ vs) fun m ks => Q m (.dci (dedI (ks.filterMap intOf))), fun H5 z => ⟨ds.length - (i + 1), by omega, rfl, hlt, z⟩, fun x H3 hyl => ?_⟩
    obtain ⟨sm, dx⟩ := hy x H3 hyl
    have n3 := n2.same Fi.zok sm
    have sub0 : ∀ a, OO ((Z.plus p).gh G) (L2.wipe σ vs) (wipeE δ vs) a → OO ((Z.plus p).gh G) σ δ a := OO_wiped no
    rw [show X.K = ((Z.plus p).gh G).K from hK]
    refine tgt_sem (n3.wipe vs) (Dn.mono sub0 _ _ dx) q2 fun δ2 σ2 n4 w q3 => ⟨by rw [w.s vs hτ, wipe_idem], fun s0 H0 C cl fp pins s I => ?_⟩
    obtain ⟨TT, pT, hTt⟩ := (ht _ s0 H0 C cl fp Fi.blk).ex
    refine pT.run pins s σ2 H3 _ I (hTt _ δ2 σ2 H3 _ _ n4 q3 fun m b H4 n5 s5 q4 => ?_)
    have n3' : Nv ((Z.plus p).gh G) _ δ σ H4 := n3.go Fi.zok s5 n5.gi
    rw [zi] at s5
    have s4 := (s2.trans (.same sm)).trans s5
    have hp4 : H4 p = some (.dK (kvI (dedI acc))) := s5.keep _ _ (sm _ _ hp2) (fun _ z => nomatch z) nzp
    cases b with
    | false => exact iteF ⟨_, acc, Nat.le_succ_of_le ha, n3', s4, hp4, by simpa using q4⟩
    | true =>
      refine iteT fun s0' H0' C' cl' fp' pins' s' I' => ?_
      refine (he _ s0' H0' C' cl' fp' Fi.blk).run n5 (by simpa using q4) (fun m y d H6 n6 s6 d6 q5 => ?_) I'
      cases d <;> first | exact q5.elim | skip
      rename_i j
      rw [dn_int.mp d6]
      have n7 : Nv ((Z.plus p).gh G) _ δ σ H6 := n3'.go Fi.zok s6 n6.gi
      rw [zi] at s6
      have hp6 : H6 p = some (.dK (kvI (dedI acc))) := s6.keep _ _ hp4 (fun _ z => nomatch z) nzp
      refine ⟨kvI (dedI acc), Sum.inl j, rfl, hp6, ?_, m, acc ++ [j], by rw [List.length_append]; exact Nat.succ_le_succ ha, n7.pokeK Fi.zok hOp nzi h0 hp6 (fun _ z => nomatch z), off (s4.trans s6), ?_, ?_⟩
      · unfold kvI
        rw [List.length_map]
        have := dedI_len acc
        omega
      · rw [upd_same, putK_I, dedI_snoc]
      · rw [List.map_append]; exact q5
  · have e : i = ds.length := by omega
    subst e
    rw [List.drop_length] at q2
    refine .inl ⟨it.stop ((Z.plus p).gh G) _ H2 rfl rfl gG, p, _, rfl, hp2, trivial, fun od => ?_⟩
    have n9 := n2.pokeK (o := .frz od (.dK (kvI (dedI acc)))) Fi.zok hOp nzi h0 hp2 (fun _ z => nomatch z)
    have q3 : Q m2 (.dci (dedI ((acc.map D.int).filterMap intOf))) := q2
    rw [ints_back] at q3
    exact r m2 _ (.dci (dedI acc)) _ ((xp.trans xi).nv n9) (off s2) (by unfold Dn; exact ⟨p, od, rfl, upd_same⟩) q3
theorem swD_true {kx vx : Expr} {gs : List Comprehension} {scope : Scope} {pos py : Pos} {y : Str} {l : Nat} {env : PySem.Env} (hk : env.scope.kind = .function) (hy : env.scope.names.lookup y = some .local) (hl : (py.line == pos.line) = true)
    (ha : (scope.names.any fun (n, k) => n == y && (k == .local || k == .cell)) = false) : swapsWith (.DictComp kx vx gs scope pos) (some (.Name y py)) l env = pure true := by
  have h1 : env.kindOf y = some .local := hy
  have h2 : env.blockKind = .function := by unfold Env.blockKind; rw [hk]; rfl
  unfold swapsWith
  simp only [h1, h2, ha, Expr.pos, hl]
  rfl
theorem de_dc (F : XF L Z X k ε) (τ : Tgt) (own : List (Str × Nat)) {j : Nat} {p0 : Pos} {ti : TL} {tt : TB} {tk : TD} (hi : DI Z X tg iter ti)
    (hg : ∀ s H C cl fp, (blkY X scope s H C cl fp).N.Nodup → (blkY X scope s H C cl fp).calm = true → PG (blkY X scope s H C cl fp) tg (hT X.K τ))
    (ht : ∀ Z' s H C cl fp, XF L Z' (blkY X scope s H C cl fp) k (fun _ _ => False) → DTs Z' (blkY X scope s H C cl fp) ifs tt)
    (he : ∀ Z' s H C cl fp, XF L Z' (blkY X scope s H C cl fp) k (fun _ _ => False) → DE Z' (blkY X scope s H C cl fp) kx tk)
    (ok : blkC X.N X.env.scope scope own = true := by kernel_rfl) (hτ : (τ.is.all fun i => (own.map (·.2)).contains i) = true := by decide) (hs : ∀ x, foldedSetIterable iter X.env x = pure x := by intro _; rfl) :
    DE Z X (.DictComp kx (.Constant (.bool true) j p0) [⟨tg, iter, ifs, 0⟩] scope pos) (rDc τ (own.map (·.2)) ti tt tk) := by
  obtain ⟨wi, pi, hi⟩ := hi.ex
  have hτ' : ∀ i ∈ τ.is, i ∈ own.map (·.2) := fun i h => by
    rw [List.all_eq_true] at hτ
    simpa using hτ i h
  have P := pe_dc (pos := pos) (vx := .Constant (.bool true) j p0) (tt := cT (blkY X scope) ifs) (tk := cE (blkY X scope) kx) (tv := tC (.bl true)) F.calm F.nd pi (blkOk_by ok) (fun s H C cl fp => hg s H C cl fp F.nd F.calm) (fun s0 H0 C cl fp => ⟨fun pins s σ H Q I h => h s0 H0 C cl fp pins s I⟩) (fun s0 H0 C cl fp => ⟨fun pins s σ H Q I h => h s0 H0 C cl fp pins s I⟩) (fun s0 H0 C cl fp => pe_bl (b := true)) hs
  exact ⟨_, pe_locked P, fun m δ σ H Q R n q r => dc_sem F hτ' hi ht he n q r⟩
theorem ds_dc (F : XF L Z X k ε) (i : Nat) (τ : Tgt) (own : List (Str × Nat)) {y : Str} {py spos p0 : Pos} {j : Nat} {ti : TL} {tt : TB} {tk : TD} (hi : DI Z X tg iter ti)
    (hg : ∀ s H C cl fp, (blkY X scope s H C cl fp).N.Nodup → (blkY X scope s H C cl fp).calm = true → PG (blkY X scope s H C cl fp) tg (hT X.K τ))
    (ht : ∀ Z' s H C cl fp, XF L Z' (blkY X scope s H C cl fp) k (fun _ _ => False) → DTs Z' (blkY X scope s H C cl fp) ifs tt)
    (he : ∀ Z' s H C cl fp, XF L Z' (blkY X scope s H C cl fp) k (fun _ _ => False) → DE Z' (blkY X scope s H C cl fp) kx tk)
    (hy : X.N[i]? = some y := by rfl) (hyl : X.env.scope.names.lookup y = some .local := by rfl) (hsw : swapsWith (.DictComp kx (.Constant (.bool true) j p0) [⟨tg, iter, ifs, 0⟩] scope pos) (some (.Name y py)) spos.line X.env = pure true := by exact swD_true rfl rfl rfl (by decide +kernel))
    (ok : blkC X.N X.env.scope scope own = true := by kernel_rfl) (hτ : (τ.is.all fun i => (own.map (·.2)).contains i) = true := by decide) (hs : ∀ x, foldedSetIterable iter X.env x = pure x := by intro _; rfl) :
    DS Z X (.Assign [.Name y py] (.DictComp kx (.Constant (.bool true) j p0) [⟨tg, iter, ifs, 0⟩] scope pos) spos) (rSet i (rDc τ (own.map (·.2)) ti tt tk)) := by
  obtain ⟨wi, pi, hi⟩ := hi.ex
  have hτ' : ∀ i ∈ τ.is, i ∈ own.map (·.2) := fun i h => by
    rw [List.all_eq_true] at hτ
    simpa using hτ i h
  have P := ps_setDc (i := i) (tt := cT (blkY X scope) ifs) (tk := cE (blkY X scope) kx) (tv := tC (.bl true)) F.calm F.nd hy hyl hsw pi (blkOk_by ok) (fun s H C cl fp => hg s H C cl fp F.nd F.calm) (fun s0 H0 C cl fp => ⟨fun pins s σ H Q I h => h s0 H0 C cl fp pins s I⟩) (fun s0 H0 C cl fp => ⟨fun pins s σ H Q I h => h s0 H0 C cl fp pins s I⟩) (fun s0 H0 C cl fp => pe_bl (b := true)) hs
  refine ⟨_, P, fun m δ σ H B R n q o => dc_sem (R := fun v H' => gName i v σ H' R.nx) F hτ' hi ht he n q fun m v d H' n' s dv hq => ?_⟩
  exact o.nx _ _ _ H' (n'.setV dv) hq
end
end DL

namespace DL
open PySem L2 PySem.Spec PyProof.Rows
section
variable {L : Ls} {Z Z' : Zs} {X : Cx} {k : Nat} {ε : Nat → Str → Prop} {e tg : Expr} {es : List Expr} {te : TD} {pos : Pos} {δ : Env} {σ : L2.St} {H H' : Hp}
theorem dn_dci {P : Addr → Prop} {ks : List Int} {v : V} : Dn Z P H (.dci ks) v ↔ ∃ a od, v = .ref a ∧ H a = some (.frz od (.dK (kvI ks))) := by unfold Dn; exact Iff.rfl
theorem valV_I (ks : List Int) (j : Int) : (valV (kvI ks) (Sum.inl j)).isSome = decide (j ∈ ks) := by
  induction ks with
  | nil => rfl
  | cons a ks ih =>
    have e1 : kvI (a :: ks) = (Sum.inl a, V.bl true) :: kvI ks := rfl
    rw [e1]
    by_cases h : a = j
    · rw [valV_pos (by rw [h])]
      simp [h]
    · have h2 : ¬ j = a := fun z => h z.symm
      rw [valV_neg (by intro z; cases z; exact h rfl), ih]
      simp [h2]
/-! ### in a dict -/
def rInK (K : PySem.W.Frag) (neg : Bool) : R2 := fun x y H Q => ∃ a o, y = .ref a ∧ DGet H a x o ∧ Q (.bl (if neg then !o.isSome else o.isSome)) H
theorem op_inK (hu : X.A.units + 1 < cLine) : OpR X (compareOp .In) (rInK X.K false) := by
  intro pins s σ H x y v u Q I rx ry h
  obtain ⟨a, o, rfl, g, q⟩ := h
  have ry : u = Value.ref a := ry
  subst ry
  exact d_in hu I g rx fun s' I' => ⟨.bl o.isSome, H, I', rfl, q⟩
theorem op_ninK (hu : X.A.units + 1 < cLine) : OpR X (compareOp .NotIn) (rInK X.K true) := by
  intro pins s σ H x y v u Q I rx ry h
  obtain ⟨a, o, rfl, g, q⟩ := h
  have ry : u = Value.ref a := ry
  subst ry
  exact d_notIn hu I g rx fun s' I' => ⟨.bl (!o.isSome), H, I', rfl, q⟩
def gInK (neg : Bool) : D → D → (D → Prop) → Prop
  | .int j, .dci ks, Q => Q (.bl (if neg then !decide (j ∈ ks) else decide (j ∈ ks)))
  | _, _, _ => False
theorem b_inK {f : Value → Value → Sem Value} {neg : Bool} (o : OpR X f (rInK X.K neg)) : BinD Z X f (gInK neg) := by
  refine ⟨_, o, fun P H x y d e Q R hp hd he h q => ?_⟩
  unfold gInK at h
  split at h
  · rename_i j ks
    obtain ⟨a, od, rfl, ht⟩ := dn_dci.mp he
    refine ⟨a, valV (kvI ks) (Sum.inl j), rfl, .inl ⟨kvI ks, Sum.inl j, .inr ⟨od, ht⟩, dn_int.mp hd, rfl⟩, ?_⟩
    rw [valV_I]
    exact q _ _ H (Same.refl _) (dn_bl.mpr rfl) h
  · exact h.elim
@[simp] def dInA (d e : D) (Q : D → Prop) : Prop := match e with
  | .dci ks => match d with | .int j => Q (.bl (decide (j ∈ ks))) | _ => False
  | e => dIn d e Q
@[simp] def dNinA (d e : D) (Q : D → Prop) : Prop := match e with
  | .dci ks => match d with | .int j => Q (.bl (!decide (j ∈ ks))) | _ => False
  | e => dNin d e Q
theorem o_inA (F : XF L Z X k ε) : BinD Z X (compareOp .In) dInA := ((b_inK (op_inK F.hu)).or (o_in F.K)).imp fun d e Q h => by
  unfold dInA at h
  split at h
  · split at h
    · exact .inl h
    · exact h.elim
  · exact .inr h
theorem o_ninA (F : XF L Z X k ε) : BinD Z X (compareOp .NotIn) dNinA := ((b_inK (op_ninK F.hu)).or (o_nin F.K)).imp fun d e Q h => by
  unfold dNinA at h
  split at h
  · split at h
    · exact .inl h
    · exact h.elim
  · exact .inr h
/-! ### walks: a list, a tuple, a dict's keys -/
theorem pi_all {l : Expr} {tl : TE} (hl : PE X l tl) : PI X tg l (fun σ H R => tl σ H fun x H1 => ∃ a, x = .ref a ∧ (((∃ xs, SqL X.K H1 a xs) ∧ R (Itl X.K a) H1) ∨ ((∃ xs, SqT X.K H1 a xs) ∧ R (Itt X.K a) H1) ∨ ∃ o kvs, H1 a = some (.frz o (.dK kvs)) ∧ R (Itk a o kvs) H1)) := by
  refine ⟨fun pins s σ H R I h => thn (hl.run pins s σ H _ I h) fun v s1 ⟨x, H1, I1, r1, a, ex, q1⟩ => ?_⟩
  subst ex
  have r1 : v = Value.ref a := r1
  subst r1
  have one : PE X l (fun _ H' R' => H' = H1 ∧ R' (.ref a) H1 ∧ False) := ⟨fun _ _ _ _ _ _ z => z.2.2.elim⟩
  rcases q1 with q | q | ⟨o, kvs, hd, q⟩
  · obtain ⟨⟨xs, hq⟩, q⟩ := q
    obtain ⟨its, rv, p, hz⟩ := I1.list hq
    refine wpAny_pyIter_list p.isList ⟨s1.heap.objs.size, [s1.heap.objs.size], _, _, H1, rfl, I1.kept (t' := s1.toks) fun b o e => Heap.get?_push_of_some _ e, turn_list a _, ⟨_, Heap.get?_push_size _ rfl, rfl, rfl⟩, fun b hb => ?_, q⟩
    rw [List.mem_singleton.mp hb]
    exact I1.fpOk (Nat.le_refl _) (I1.hok.fresh (Nat.le_refl _))
  · obtain ⟨⟨xs, hq⟩, q⟩ := q
    obtain ⟨its, rv, p, hz⟩ := I1.tuple hq
    refine wpAny_pyIter_tuple (show s1.heap.IsTuple a its.toArray from p) ⟨s1.heap.objs.size, [s1.heap.objs.size], _, _, H1, rfl, I1.kept (t' := s1.toks) fun b o e => Heap.get?_push_of_some _ e, turn_tuple a _, ⟨_, Heap.get?_push_size _ rfl, rfl, rfl⟩, fun b hb => ?_, q⟩
    rw [List.mem_singleton.mp hb]
    exact I1.fpOk (Nat.le_refl _) (I1.hok.fresh (Nat.le_refl _))
  · obtain ⟨c1, c2, c3, es, ep, vs, c4, c5, _, _⟩ := I1.frzK hd
    exact iter_keys c1 c2 c3 c4 (pi_one (tk := s1.toks) I1 _ (turn_keys _ c4) ⟨_, Heap.get?_push_size _ rfl, rfl, (by rw [c5] <;> rfl)⟩ q)
@[simp] def rItA (te : TD) : TL := fun m δ Q => te m δ fun m d => match d with | .dci ks => ks.length ≤ sizeLine ∧ Q m (ks.map .int) | .lst ds => Q m ds | .tup ds => Q m ds | _ => False
theorem dn_dcx {P : Addr → Prop} {ks : List Int} {od : Obj} {v : V} : Dn Z P H (.dcx ks od) v ↔ ∃ a, v = .ref a ∧ H a = some (.frz od (.dK (kvI ks))) := by unfold Dn; exact Iff.rfl
theorem itk_D {a : Addr} {od : Obj} {ks : List Int} {L : Ls} {st : Option (Addr × Addr × Addr)} {v : V} (hv : v = .ref a) : ItD L st (Itk a od (kvI ks)) (ks.map D.int) [(.dcx ks od, v)] where
  stop := fun Z P H hL hs h => by
    obtain ⟨b, e, t⟩ := dn_dcx.mp (h _ List.mem_cons_self)
    rw [hv] at e; cases e
    exact ⟨t, by rw [List.length_map]; unfold kvI; rw [List.length_map]; exact Nat.le_refl _⟩
  go := fun Z P H i d hL hs h hi hp => by
    obtain ⟨b, e, t⟩ := dn_dcx.mp (h _ List.mem_cons_self)
    rw [hv] at e; cases e
    rw [List.getElem?_map] at hi
    cases q : ks[i]? with
    | none => rw [q] at hi; cases hi
    | some j =>
      rw [q] at hi
      cases hi
      have hl : i < ks.length := (List.getElem?_eq_some_iff.mp q).1
      refine ⟨⟨t, by unfold kvI; rw [List.length_map]; exact hl⟩, fun x H' y => ?_⟩
      obtain ⟨e, k', v', e1, e2⟩ := y
      subst e
      unfold kvI at e1
      rw [List.getElem?_map, q] at e1
      cases e1
      exact ⟨Same.refl _, dn_int.mpr e2⟩
theorem di_all (F : XF L Z X k ε) (he : DE Z X e te) : DI Z X tg e (rItA te) := by
  obtain ⟨T, p, h⟩ := he.ex
  refine ⟨_, pi_all p, fun m δ σ H Q R n g r => h m δ σ H _ _ n g fun m v d H1 n1 s1 d1 g1 => ?_⟩
  cases d <;> first | exact g1.elim | skip
  case tup ds =>
    obtain ⟨z, a, vs, rfl, t, l⟩ := dn_tupT d1
    exact ⟨a, rfl, .inr (.inl ⟨⟨vs, by rw [F.K]; exact t⟩, r _ _ H1 ds [(.tup ds, .ref a)] n1 s1 (fun p hp => by cases List.mem_singleton.mp hp; exact d1) (itt_D rfl F.K) z g1⟩)⟩
  case lst ds =>
    obtain ⟨z, a, vs, rfl, p, t, l⟩ := dn_lst.mp d1
    exact ⟨a, rfl, .inl ⟨⟨vs, SqL_inj t⟩, r _ _ H1 ds [(.lst ds, .ref a)] n1 s1 (fun p hp => by cases List.mem_singleton.mp hp; exact d1) (itl_D rfl F.K) z g1⟩⟩
  case dci ks =>
    obtain ⟨a, od, rfl, t⟩ := dn_dci.mp d1
    exact ⟨a, rfl, .inr (.inr ⟨od, kvI ks, t, r _ _ H1 (ks.map .int) [(.dcx ks od, .ref a)] n1 s1 (fun p hp => by cases List.mem_singleton.mp hp; exact dn_dcx.mpr ⟨a, rfl, t⟩) (itk_D rfl) (by rw [List.length_map]; exact g1.1) g1.2⟩)⟩
end
end DL

/-! rows of ints: sorted(set(..)); sorted(a dict of ints); t.index(i) -/
namespace DL
open PySem L2 PySem.Spec PyProof.Rows
/-! ### the order of rows -/
theorem lex_irr : ∀ a : List Int, HT.lexLt a a = false
  | [] => rfl
  | x :: a => by rw [HT.lexLt_cons, if_pos rfl]; exact lex_irr a
theorem lex_tr : ∀ {a b c : List Int}, HT.lexLt a b = true → HT.lexLt b c = true → HT.lexLt a c = true
  | [], [], _, h, _ => by cases h
  | [], _ :: _, [], _, h => by cases h
  | [], _ :: _, _ :: _, _, _ => rfl
  | _ :: _, [], _, h, _ => by cases h
  | _ :: _, _ :: _, [], _, h => by cases h
  | x :: a, y :: b, z :: c, h, h' => by
    rw [HT.lexLt_cons] at h h' ⊢
    by_cases e : x = y
    · subst e
      rw [if_pos rfl] at h
      by_cases e2 : x = z
      · subst e2
        rw [if_pos rfl] at h' ⊢
        exact lex_tr h h'
      · rw [if_neg e2] at h' ⊢; exact h'
    · rw [if_neg e, decide_eq_true_iff] at h
      by_cases e2 : y = z
      · subst e2
        rw [if_neg e, decide_eq_true_iff]; exact h
      · rw [if_neg e2, decide_eq_true_iff] at h'
        rw [if_neg (by omega), decide_eq_true_iff]; omega
theorem lex_tot : ∀ {a b : List Int}, HT.lexLt a b = false → a ≠ b → HT.lexLt b a = true
  | [], [], _, h => absurd rfl h
  | [], _ :: _, h, _ => by cases h
  | _ :: _, [], _, _ => rfl
  | x :: a, y :: b, h, ne => by
    rw [HT.lexLt_cons] at h ⊢
    by_cases e : x = y
    · subst e
      rw [if_pos rfl] at h ⊢
      exact lex_tot h fun z => ne (by rw [z])
    · rw [if_neg e, decide_eq_false_iff_not] at h
      rw [if_neg (fun z => e z.symm), decide_eq_true_iff]; omega
theorem lex_code {B : Int} : ∀ {a b : List Int}, a.length = b.length → TS.Bd B a → TS.Bd B b → HT.lexLt a b = true → TS.code B a < TS.code B b
  | [], [], _, _, _, h => by cases h
  | [], _ :: _, h, _, _, _ => by cases h
  | _ :: _, [], h, _, _, _ => by cases h
  | x :: a, y :: b, hl, h1, h2, h => by
    have hl' : a.length = b.length := by simpa using hl
    rw [HT.lexLt_cons] at h
    by_cases e : x = y
    · subst e
      rw [if_pos rfl] at h
      exact (TS.code_same hl').mpr (lex_code hl' h1.tail h2.tail h)
    · rw [if_neg e, decide_eq_true_iff] at h
      exact TS.code_lt hl' h1.tail h2.tail h
abbrev rowUp (rows : List (List Int)) : Prop := rows.Pairwise fun a b => HT.lexLt a b = true
/-- the rows without doubles, ascending -/
def insR (k : List Int) : List (List Int) → List (List Int)
  | [] => [k]
  | n :: ns => if HT.lexLt k n = true then k :: n :: ns else if k = n then n :: ns else n :: insR k ns
def setR : List (List Int) → List (List Int)
  | [] => []
  | n :: ns => insR n (setR ns)
theorem insR_mem (k j : List Int) : ∀ ns : List (List Int), j ∈ insR k ns ↔ j = k ∨ j ∈ ns
  | [] => by simp [insR]
  | n :: ns => by
    unfold insR
    split
    · simp
    · split
      · rename_i h; subst h; simp
      · simp only [List.mem_cons, insR_mem k j ns]; grind
theorem setR_mem (j : List Int) : ∀ ns : List (List Int), j ∈ setR ns ↔ j ∈ ns
  | [] => by simp [setR]
  | n :: ns => by
    unfold setR
    rw [insR_mem, setR_mem j ns, List.mem_cons]
theorem insR_up (k : List Int) : ∀ {ns : List (List Int)}, rowUp ns → rowUp (insR k ns)
  | [], _ => by unfold insR; exact List.pairwise_singleton _ _
  | n :: ns, h => by
    have h1 := List.pairwise_cons.mp h
    unfold insR
    split
    · rename_i hk
      exact List.pairwise_cons.mpr ⟨fun m hm => by
        rcases List.mem_cons.mp hm with rfl | hm
        · exact hk
        · exact lex_tr hk (h1.1 m hm), h⟩
    · rename_i hk
      split
      · exact h
      · rename_i hn
        refine List.pairwise_cons.mpr ⟨fun m hm => ?_, insR_up k h1.2⟩
        rcases (insR_mem k m ns).mp hm with rfl | hm
        · exact lex_tot (by simpa using hk) hn
        · exact h1.1 m hm
theorem setR_up : ∀ ns : List (List Int), rowUp (setR ns)
  | [] => .nil
  | n :: ns => insR_up n (setR_up ns)
theorem rowUp_nodup {ns : List (List Int)} (h : rowUp ns) : ns.Nodup := h.imp fun h e => by subst e; rw [lex_irr] at h; cases h
theorem row_unique : ∀ {ns ms : List (List Int)}, rowUp ns → rowUp ms → (∀ k, k ∈ ns ↔ k ∈ ms) → ns = ms
  | [], [], _, _, _ => rfl
  | [], m :: ms, _, _, e => by simpa using (e m).mpr List.mem_cons_self
  | n :: ns, [], _, _, e => by simpa using (e n).mp List.mem_cons_self
  | n :: ns, m :: ms, h, h', e => by
    have a := List.pairwise_cons.mp h
    have b := List.pairwise_cons.mp h'
    have q : n = m := by
      rcases List.mem_cons.mp ((e n).mp List.mem_cons_self) with h1 | h1
      · exact h1
      · rcases List.mem_cons.mp ((e m).mpr List.mem_cons_self) with h2 | h2
        · exact h2.symm
        · have z := lex_tr (a.1 m h2) (b.1 n h1)
          rw [lex_irr] at z; cases z
    subst q
    rw [row_unique a.2 b.2 fun k => ⟨fun hk => by
      rcases List.mem_cons.mp ((e k).mp (List.mem_cons_of_mem _ hk)) with z | z
      · subst z
        have z := a.1 _ hk
        rw [lex_irr] at z; cases z
      · exact z, fun hk => by
      rcases List.mem_cons.mp ((e k).mpr (List.mem_cons_of_mem _ hk)) with z | z
      · subst z
        have z := b.1 _ hk
        rw [lex_irr] at z; cases z
      · exact z⟩]
theorem setR_of {ns ms : List (List Int)} (h : rowUp ns) (e : ∀ k, k ∈ ns ↔ k ∈ ms) : ns = setR ms := row_unique h (setR_up ms) fun k => (e k).trans (setR_mem k ms).symm
theorem setR_self {ns : List (List Int)} (h : rowUp ns) : setR ns = ns := (setR_of h fun _ => .rfl).symm
/-- rows as data -/
@[simp] def D.rows : List D → Option (List (List Int))
  | [] => some []
  | .tup d :: ds => match D.ints d, D.rows ds with | some r, some rs => some (r :: rs) | _, _ => none
  | _ :: _ => none
abbrev rowD (r : List Int) : D := .tup (r.map .int)
theorem rows_map : ∀ {ds : List D} {rs : List (List Int)}, D.rows ds = some rs → ds = rs.map rowD
  | [], rs, h => by unfold D.rows at h; cases h; rfl
  | d :: ds, rs, h => by
    cases d <;> unfold D.rows at h <;> first | cases h | skip
    rename_i d
    cases e : D.ints d with
    | none => rw [e] at h; cases h
    | some r =>
      cases e2 : D.rows ds with
      | none => rw [e, e2] at h; cases h
      | some q =>
        rw [e, e2] at h
        cases h
        rw [ints_map e, rows_map e2]; rfl
theorem rows_of : ∀ (rs : List (List Int)), D.rows (rs.map rowD) = some rs
  | [] => rfl
  | r :: rs => by
    rw [List.map_cons]
    unfold D.rows
    rw [ints_of, rows_of rs]
/-- rows on the heap -/
theorem rows_refs {Z : Zs} {P : Addr → Prop} {H : Hp} : ∀ {rs : List (List Int)} {vs : List V}, DnL Z P H (rs.map rowD) vs → ∃ ks : List (Addr × List Int), vs = ks.map (fun p => V.ref p.1) ∧ ks.map (·.2) = rs ∧ ∀ p ∈ ks, p.2.length ≤ sizeLine ∧ SqN Z.K H p.1 (p.2.map V.int)
  | [], vs, h => by rw [h.of_nil]; exact ⟨[], rfl, rfl, fun p hp => by cases hp⟩
  | r :: rs, vs, h => by
    obtain ⟨v, ws, rfl, h1, h2⟩ := h.of_cons
    obtain ⟨ks, e1, e2, e3⟩ := rows_refs h2
    obtain ⟨z, a, us, rfl, t, l⟩ := dn_tupN.mp h1
    refine ⟨(a, r) :: ks, by rw [e1]; rfl, by rw [List.map_cons, e2], fun p hp => ?_⟩
    rcases List.mem_cons.mp hp with rfl | hp
    · rw [l.ints] at t
      exact ⟨by simpa using z, t⟩
    · exact e3 p hp
theorem rows_dn {Z : Zs} {P : Addr → Prop} {H : Hp} : ∀ {ks : List (Addr × List Int)}, (∀ p ∈ ks, p.2.length ≤ sizeLine ∧ SqN Z.K H p.1 (p.2.map V.int)) → DnL Z P H ((ks.map (·.2)).map rowD) (ks.map fun p => V.ref p.1)
  | [], _ => .nil
  | p :: ks, h => by
    have ⟨h1, h2⟩ := h p List.mem_cons_self
    exact .cons (dn_tupN.mpr ⟨by simpa using h1, p.1, _, rfl, h2, DnL.of_ints⟩) (rows_dn fun q hq => h q (List.mem_cons_of_mem _ hq))
end DL

namespace DL
open PySem L2 PySem.Spec PyProof.Rows
/-! ### set(a tuple of tuples of ints) -/
section
variable {P : Program} {w : World} {A : Around} {E : Value → Shared → Prop} {s : Shared}
theorem set_tup_tups {l : Addr} {items : Array Value} (ks : List (Addr × List Int)) {Q : Value → Shared → Prop} (hh : A.handled = none) (hl : s.heap.IsTuple l items) (hit : items.toList = ks.map fun p => Value.ref p.1)
    (hk : ∀ p ∈ ks, IsT P w s.heap p.2 p.1) (hfew : ks.length < 64) (hu : A.units + 3 < cLine)
    (h : ∀ (h' : Heap) (tk : Nat) L es ep t, SetTR P w h' s.heap.objs.size L es ep t → Got ks ks.length L → (∀ b o, s.heap.get? b = some o → h'.get? b = some o) → Q (.ref s.heap.objs.size) { s with heap := h', toks := tk }) :
    wpAny (model P w) A (call (.type "set") [.ref l]) Q E s := by
  have hisz : items.size = ks.length := by have q := congrArg List.length hit; rw [Array.length_toList, List.length_map] at q; exact q
  obtain ⟨c, tl, hmro⟩ := F.called_set.mro
  have hmade := F.called_set.made; have hsub := F.called_set.sub
  refine wpAny_call (codeAny_of_tree ?_)
  show wpAny _ _ (callAny (.type "set") _) _ _ _
  refine wpAny_pure ⟨Code.quiet_builtin _ (by decide +kernel), codeAny_builtin F.entry_type_call ?_⟩
  rw [Around.under_plain (weight_type_call_type "set" [.ref l] []) rfl]
  have h1 := F.called_set.notType; have h2 := F.called_set.canCreate
  have hct := F.typeCall_set_1 (.ref l)
  repeat (any_goals (first | assumption | wp_step))
  refine codeAny_mono (code_set_led1 (.ref l) (E := E) (Q₁ := fun obj s₁ => obj = .ref s.heap.objs.size ∧ s₁ = { s with heap := s.heap.push (emptySet w) }) ⟨rfl, rfl⟩) fun r s₁ hr => ?_
  cases r with
  | error e => exact hr
  | ok fl =>
    cases fl with
    | ret obj =>
      obtain ⟨rfl, rfl⟩ := hr
      have hS : (s.heap.push (emptySet w)).get? s.heap.objs.size = some (emptySet w) := Heap.get?_push_size _ rfl
      have hT : Shared.TypeIs { s with heap := s.heap.push (emptySet w) } (.ref s.heap.objs.size) "set" := ⟨_, hS, rfl⟩
      have hli := F.called_set.init.lookup; have hbi := F.called_set.init.bind (.ref s.heap.objs.size)
      repeat (any_goals (first | assumption | wp_step))
      refine codeAny_mono (codeAny_call_builtin (R := wants (fun r s₂ => r = .none ∧ ∃ h' tk L es ep t, s₂ = { s with heap := h', toks := tk } ∧ SetTR P w h' s.heap.objs.size L es ep t ∧ Got ks ks.length L ∧ (∀ b o, s.heap.get? b = some o → h'.get? b = some o)) E) F.called_set.init.plain F.entry_set_init (check_set_init_1 hT ?_)) fun r₂ s₂ hr₂ => ?_
      · obtain ⟨ol, hol, hcl, nl, hdl⟩ := hl
        obtain ⟨ocls, odict, odata, oslots⟩ := ol
        simp only at hcl hdl
        subst hcl; subst hdl
        have hol' : (s.heap.push (emptySet w)).get? l = some { cls := .type "tuple", dict := odict, data := .seq items nl, slots := oslots } := Heap.get?_push_of_some _ hol
        have hsls := F.sub_tuple_set; have hslf := F.sub_tuple_frozenset
        have hne : (Value.type "tuple" == Value.type "dict") = false := by decide
        have hl1 : (s.heap.push (emptySet w)).IsTuple l items := ⟨_, hol', rfl, nl, rfl⟩
        unfold Builtin.«set.__init__» noKeywords Builtin.Frozenset.updateFrom
        generalize hPI : pyIter = PI
        wp_walk
        subst hPI
        refine wpAny_pyIter_tuple hl1 ?_
        refine wpAny_bind (wpAny_runValue ?_)
        have hlS : l < s.heap.objs.size := Heap.lt_size hol
        have hh3 : A.in1.in1.in1.handled = none := by simp [hh]
        have hneI : l ≠ (s.heap.push (emptySet w)).objs.size := by rw [Heap.size_push]; exact Nat.ne_of_lt (Nat.lt_succ_of_lt hlS)
        have hSf : s.heap.objs.size ∉ [(s.heap.push (emptySet w)).objs.size, l] := by
          rw [Heap.size_push]; simp only [List.mem_cons, List.mem_singleton, List.not_mem_nil, or_false, not_or]
          exact ⟨Nat.ne_of_lt (Nat.lt_succ_self _), Nat.ne_of_gt hlS⟩
        have hval : ∀ (i : Nat) (v : Value), items[i]? = some v → ∃ p, ks[i]? = some p ∧ v = .ref p.1 := fun i v hv => by
          have q : items.toList[i]? = some v := by rw [Array.getElem?_toList]; exact hv
          rw [hit, List.getElem?_map] at q
          cases hq : ks[i]? with
          | none => rw [hq] at q; cases q
          | some p => rw [hq] at q; exact ⟨p, rfl, (Option.some.inj q).symm⟩
        have nobody : ∀ b, s.heap.objs.size ≤ b → s.heap.get? b = none := fun b hb => by
          cases q : s.heap.get? b with
          | none => rfl
          | some o => exact absurd (Nat.lt_of_lt_of_le (Heap.lt_size q) hb) (Nat.lt_irrefl _)
        refine set_update_tups ((Walks.tuple hh3 _ l hneI items).toS) s.heap.objs.size hSf ks hisz hfew hval s.heap hk (nobody _ (Nat.le_refl _)) (fun b hb => nobody b (by rw [List.mem_singleton.mp hb, Heap.size_push]; exact Nat.le_succ _)) hu (items.size - 0) 0 _ (by omega) (Nat.zero_le _) ⟨⟨_, Heap.get?_push_size _ rfl, rfl, rfl⟩, (hl1.push _)⟩ (fun b o e => Heap.get?_push_of_some _ (Heap.get?_push_of_some _ e)) ?hS0 ?hR
        case hS0 =>
          have hget : ((s.heap.push (emptySet w)).push { cls := .type "tuple_iterator", data := .fields #[.ref l, .int 0 0] }).get? s.heap.objs.size = some (emptySet w) := Heap.get?_push_of_some _ hS
          exact ⟨[], #[], 0, _, setTR_fresh hget, Got.zero ks⟩
        case hR =>
          intro s' L es ep t hm hS' g' hkp
          obtain ⟨h', g2, d', tk', os'⟩ := s'
          have eg : g2 = s.gens := hm.gens
          have ed : d' = s.drawn := hm.drawn
          have eo : os' = s.os := hm.os
          subst eg; subst ed; subst eo
          show wpAny _ _ _ _ _ _
          refine wpAny_pure ?_
          show wpAny _ _ (ret Value.none) _ _ _
          rw [hisz] at g'
          exact wpAny_pure ⟨rfl, h', tk', L, es, ep, t, rfl, hS', g', hkp⟩
      · cases r₂ with
        | error e => exact hr₂
        | ok fl₂ =>
          cases fl₂ with
          | ret r =>
            obtain ⟨rfl, h', tk, L, es, ep, t, rfl, hS', g', hk'⟩ := hr₂
            repeat (any_goals (first | assumption | wp_step))
            exact h _ _ _ _ _ _ hS' g' hk'
          | _ => exact hr₂.elim
    | _ => exact hr.elim
end
section
variable {L : Ls} {Z Z' : Zs} {X : Cx} {k : Nat} {ε : Nat → Str → Prop} {e tg : Expr} {es : List Expr} {te : TD} {pos : Pos} {δ : Env} {σ : L2.St} {H H' : Hp}
def rSetOfTT (K : PySem.W.Frag) (P : Program) (w : World) : List V → Hp → VK → Prop := fun xs H Q => ∃ (l : Addr) (ks : List (Addr × List Int)), xs = [V.ref l] ∧ SqT K H l (ks.map fun p => V.ref p.1) ∧ (∀ p ∈ ks, SqT K H p.1 (p.2.map V.int)) ∧ ks.length < 64 ∧
  ∀ a L, H a = none → (∀ p ∈ L, p ∈ ks) → (∀ p ∈ ks, p.2 ∈ L.map (·.2)) → Q (.ref a) (upd H a (SetTO P w a L))
theorem cr_setOfTT (hc : X.calm = true) (hu : X.A.units + 64 < cLine) : CallR X (.type "set") (rSetOfTT X.K X.prog X.w) := by
  intro pins s σ H xs us Q I r h
  obtain ⟨l, ks, rfl, hl, hk, hf, q⟩ := h
  rw [Vals.ref1 r]
  obtain ⟨its, rv, pl, hz⟩ := I.tuple hl
  have hn : H s.heap.objs.size = none := I.hok.fresh (Nat.le_refl _)
  refine set_tup_tups (P := X.prog) (w := X.w) (items := its.toArray) ks (I.ok.hd hc) pl (by simpa using refs_of_vals rv) (fun p hp => I.isT (hk p hp)) hf (by omega) fun h' tk L es ep t R g k => ?_
  refine ⟨.ref s.heap.objs.size, upd H s.heap.objs.size (SetTO X.prog X.w s.heap.objs.size L), I.laid (t' := tk) k (Nat.le_refl _) (setTO_new R.t0), rfl, q _ L hn (fun p hp => ?_) fun p hp => ?_⟩
  · exact List.mem_of_mem_take (g.sub p hp)
  · exact g.all p (by rw [List.take_length]; exact hp)
/-- sorted(set(e)), rows of ints -/
@[simp] def dSS (ds : List D) (Q : D → Prop) : Prop := ∃ rows n B, D.rows ds = some rows ∧ rows.length < 64 ∧ 1 ≤ n ∧ (∀ r ∈ rows, r.length = n ∧ TS.Bd B r) ∧ Q (.lst ((setR rows).map rowD))
@[simp] def rSortSet (te : TD) : TD := fun m δ Q => te m δ fun m d => match d with | .lst ds => dSS ds (Q m) | .tup ds => dSS ds (Q m) | _ => False
theorem ss_end {K : PySem.W.Frag} {P : Program} {w : World} (hK : K = Z.K) {ks Ls : List (Addr × List Int)} {rows : List (List Int)} {n : Nat} {B : Int} (e2 : ks.map (·.2) = rows) (e3 : ∀ p ∈ ks, p.2.length ≤ sizeLine ∧ SqN Z.K H p.1 (p.2.map V.int))
    (hn : 1 ≤ n) (hb : ∀ r ∈ rows, r.length = n ∧ TS.Bd B r) (sub : ∀ p ∈ Ls, p ∈ ks) (all : ∀ p ∈ ks, p.2 ∈ Ls.map (·.2)) (a : Addr) (ha : H a = none) {R : VK}
    (r : ∀ H1, Same H H1 → ∀ L' : List (Addr × List Int), (L'.map (·.2) = setR rows) → L'.length ≤ sizeLine → (∀ p ∈ L', p.2.length ≤ sizeLine ∧ SqN Z.K H1 p.1 (p.2.map V.int)) → ∀ p, H1 p = none → R (.ref p) (upd H1 p (.lst (L'.map fun q => V.ref q.1)))) :
    rSortedT K P w [V.ref a] (upd H a (SetTO P w a Ls)) R := by
  have s1 : Same H (upd H a (SetTO P w a Ls)) := same_upd ha
  have hr : ∀ p ∈ ks, p.2.length = n ∧ TS.Bd B p.2 := fun p hp => hb p.2 (by rw [← e2]; exact List.mem_map.mpr ⟨p, hp, rfl⟩)
  have st : ∀ p ∈ ks, SqN Z.K (upd H a (SetTO P w a Ls)) p.1 (p.2.map V.int) := fun p hp => (Stp.same (P := fun _ => False) s1).sqN (e3 p hp).2
  refine ⟨a, Ls, n, B, rfl, upd_same, fun p hp => by rw [hK]; exact (st p (sub p hp)).t, hn, fun p hp => hr p (sub p hp), fun L' p pm nd hl pw hp => ?_⟩
  have subL : ∀ q ∈ L', q ∈ ks := fun q hq => sub q (pm.mem_iff.mp hq)
  have e : L'.map (·.2) = setR rows := by
    refine setR_of ?_ fun k => ?_
    · rw [rowUp, List.pairwise_map]
      refine (List.pairwise_map.mp nd).and pw |>.imp_of_mem fun {q r} hq hr' h => ?_
      have b1 := hr q (subL q hq)
      have b2 := hr r (subL r hr')
      cases z : HT.lexLt q.2 r.2 with
      | true => rfl
      | false =>
        have := lex_code (B := B) (b2.1.trans b1.1.symm) b2.2 b1.2 (lex_tot z h.1)
        have := h.2
        omega
    · constructor
      · intro hk
        obtain ⟨q, hq, rfl⟩ := List.mem_map.mp hk
        rw [← e2]
        exact List.mem_map.mpr ⟨q, subL q hq, rfl⟩
      · intro hk
        rw [← e2] at hk
        obtain ⟨q, hq, rfl⟩ := List.mem_map.mp hk
        obtain ⟨q', h1, h2⟩ := List.mem_map.mp (all q hq)
        rw [← h2]
        exact List.mem_map.mpr ⟨q', pm.mem_iff.mpr h1, rfl⟩
  exact r _ s1 L' e (by rw [sizeLine_eq]; omega) (fun q hq => ⟨(e3 q (subL q hq)).1, st q (subL q hq)⟩) p hp
theorem de_sortSet (F : XF L Z X k ε) {p p2 q : Pos} (he : DE Z X e te) (hm : X.mg "sorted" = none) (hm2 : X.mg "set" = none) (hg : Gl X "sorted" := by rfl) (hg2 : Gl X "set" := by rfl) (na : starEach [e] X.env = (false, eval e X.env) :: starEach [] X.env := by rfl) (hpl : (backTo q (starEach [] X.env)).any (·.1) = false := by rfl)
    (na2 : starEach [.Call (.Name "set" p2) [e] [] q] X.env = (false, eval (.Call (.Name "set" p2) [e] [] q) X.env) :: starEach [] X.env := by rfl) (hpl2 : (backTo pos (starEach [] X.env)).any (·.1) = false := by rfl) :
    DE Z X (.Call (.Name "sorted" p) [.Call (.Name "set" p2) [e] [] q] [] pos) (rSortSet te) := by
  obtain ⟨T, pe, h⟩ := he.ex
  refine ⟨_, pe_callB (cr_sortedT F.calm) hg hm (by decide +kernel) (pa_cons (pe_callTy (CallR.or (cr_setOfT F.calm F.hu64) (cr_setOfTT F.calm F.hu64)) hg2 hm2 (by decide +kernel) (pa_cons pe pa_nil na) (by decide) (by decide) na hpl) pa_nil na2) (by decide) (by decide) na2 hpl2, fun m δ σ H Q R n g r => h m δ σ H _ _ n g fun m v d H1 n1 s1 d1 g1 => ?_⟩
  have fin : ∀ {rows : List (List Int)}, Q m (.lst ((setR rows).map rowD)) → ∀ H2, Same H1 H2 → ∀ L' : List (Addr × List Int), (L'.map (·.2) = setR rows) → L'.length ≤ sizeLine → (∀ p ∈ L', p.2.length ≤ sizeLine ∧ SqN Z.K H2 p.1 (p.2.map V.int)) → ∀ p, H2 p = none → R (.ref p) (upd H2 p (.lst (L'.map fun q => V.ref q.1))) := by
    intro rows hq H2 sm L' e hl hs p hp
    have n2 := n1.same F.zok sm
    have dl := rows_dn (Z := Z) (P := OO Z σ δ) hs
    rw [e] at dl
    exact r _ _ (.lst ((setR rows).map rowD)) _ (n2.same F.zok (same_upd hp)) ((s1.trans (.same sm)).trans (.same (same_upd hp))) (dn_newL dl (by rw [List.length_map, ← e, List.length_map]; exact hl) hp (n2.fresh F.zok hp)) hq
  cases d <;> first | exact g1.elim | skip
  case tup ds =>
    obtain ⟨rows, n', B, e1, h64, hn, hb, hq⟩ := g1
    rw [rows_map e1] at d1
    obtain ⟨z, a, vs, rfl, t, l⟩ := dn_tupT d1
    obtain ⟨ks, rfl, e2, e3⟩ := rows_refs l
    refine .inr ⟨a, ks, rfl, by rw [F.K]; exact t, fun p hp => by rw [F.K]; exact (e3 p hp).2.t, by rw [← e2, List.length_map] at h64; exact h64, fun b Ls hb' sub all => ?_⟩
    exact ss_end F.K e2 e3 hn hb sub all b hb' (fin hq)
  case lst ds =>
    obtain ⟨rows, n', B, e1, h64, hn, hb, hq⟩ := g1
    rw [rows_map e1] at d1
    obtain ⟨z, a, vs, rfl, np, t, l⟩ := dn_lst.mp d1
    obtain ⟨ks, rfl, e2, e3⟩ := rows_refs l
    refine .inl ⟨a, ks, rfl, .inl (.inl t), fun p hp => by rw [F.K]; exact (e3 p hp).2.t, by rw [← e2, List.length_map] at h64; exact h64, fun b Ls hb' sub all => ?_⟩
    exact ss_end F.K e2 e3 hn hb sub all b hb' (fin hq)
end
end DL

namespace DL
open PySem L2 PySem.Spec PyProof.Rows
section
variable {L : Ls} {Z Z' : Zs} {X : Cx} {k : Nat} {ε : Nat → Str → Prop} {e tg : Expr} {es : List Expr} {te : TD} {pos : Pos} {δ : Env} {σ : L2.St} {H H' : Hp}
/-! ### sorted of a dict's keys, too -/
def dSortedK : List D → (D → Prop) → Prop
  | [.dci ks], Q => ks.length < 64 ∧ Q (.lst ((srt ks).map .int))
  | _, _ => False
theorem k_sortedK (F : XF L Z X k ε) : CalD Z X (.builtin "sorted") dSortedK := by
  refine ⟨_, call_sortedDI F.calm, fun P H xs ds Q R hp gi hd hg kk => ?_⟩
  unfold dSortedK at hg
  split at hg
  · obtain ⟨hn, hg⟩ := hg
    obtain ⟨v, rfl, h⟩ := hd.one
    obtain ⟨a, od, rfl, t⟩ := dn_dci.mp h
    rename_i ks
    refine ⟨a, kvI ks, ks, rfl, .inr ⟨od, t⟩, by unfold kvI; rw [List.map_map]; rfl, hn, fun ys p hP hW hp' => ?_⟩
    rw [srt_of hP hW]
    exact kk _ _ _ (same_upd hp') (dn_newL DnL.of_ints (by rw [List.length_map, srt_len, sizeLine_eq]; omega) hp' (hp p hp')) hg
  · exact hg.elim
@[simp] def dSortedA : List D → (D → Prop) → Prop
  | [.lst ds], Q => ∃ ns, D.ints ds = some ns ∧ Q (.lst ((srt ns).map .int))
  | [.set ns], Q => ns.length < 64 ∧ Q (.lst (ns.map .int))
  | [.dci ks], Q => ks.length < 64 ∧ Q (.lst ((srt ks).map .int))
  | _, _ => False
theorem k_sortedA (F : XF L Z X k ε) : CalD Z X (.builtin "sorted") dSortedA := ((k_sorted F).or (k_sortedK F)).imp fun ds Q h => by
  unfold dSortedA at h
  split at h
  · exact .inl h
  · exact .inl h
  · exact .inr h
  · exact h.elim
/-! ### t.index(i), a tuple of ints -/
@[simp] def rIdx (ta tb : TD) : TD := fun m δ Q => ta m δ fun m d => match d with
  | .tup ds => ∃ ns, D.ints ds = some ns ∧ tb m δ fun m c => match c with | .int i => i ∈ ns ∧ Q m (.int (ns.idxOf i : Nat)) | _ => False
  | _ => False
theorem idxOf_first {i : Int} : ∀ {ns : List Int}, i ∈ ns → ns[ns.idxOf i]? = some i ∧ ∀ l, l < ns.idxOf i → ns[l]? ≠ some i
  | [], h => by cases h
  | n :: ns, h => by
    by_cases e : n = i
    · subst e
      rw [List.idxOf_cons_self]
      exact ⟨rfl, fun l hl => by omega⟩
    · obtain ⟨h1, h2⟩ := idxOf_first ((List.mem_cons.mp h).resolve_left (Ne.symm e))
      have e3 : (n :: ns).idxOf i = ns.idxOf i + 1 := by rw [List.idxOf_cons, beq_eq_false_iff_ne.mpr e]; rfl
      rw [e3]
      refine ⟨by simpa using h1, fun l hl => ?_⟩
      cases l with
      | zero => intro z; simp at z; exact e z
      | succ l => rw [List.getElem?_cons_succ]; exact h2 l (by omega)
theorem de_idx (F : XF L Z X k ε) {o : Expr} {to : TD} {apos : Pos} (ho : DE Z X o to) (he : DE Z X e te) (hs : starEach [e] X.env = (false, eval e X.env) :: starEach [] X.env := by rfl) (hbase : attributeBase o "index" X.env (eval o X.env) = eval o X.env := by rfl)
    (hfew : ((backTo pos (starEach [e] X.env)).all (fun x => !x.1) && (backToKw pos (keywordEach [] X.env)).all (fun x => x.1.isSome) && decide (([e] : List Expr).length + ([] : List Keyword).length + (if ([] : List Keyword).isEmpty then 0 else 1) < 30)) = true := by rfl)
    (hline : (apos.endLine == pos.line) = true := by rfl) (hpl : (backTo pos (starEach [] X.env)).any (·.1) = false := by rfl) : DE Z X (.Call (.Attribute o "index" apos) [e] [] pos) (rIdx to te) := by
  obtain ⟨To, po, ho⟩ := ho.ex
  obtain ⟨Te, pe, he⟩ := he.ex
  refine ⟨_, pe_idxN po (pa_cons pe pa_nil hs) hbase hfew hline hs hpl, fun m δ σ H Q R n g q => ho m δ σ H _ _ n g fun m v d H1 n1 s1 d1 g1 => ?_⟩
  cases d <;> first | exact g1.elim | skip
  rename_i ds
  obtain ⟨ns, e1, g1⟩ := g1
  rw [ints_map e1] at d1
  obtain ⟨z, a, vs, rfl, t, l⟩ := dn_tupN.mp d1
  rw [l.ints] at t
  refine ⟨⟨a, _, rfl, by rw [F.K]; exact t⟩, he m δ σ H1 _ _ n1 g1 fun m u c H2 n2 s2 d2 g2 => ?_⟩
  cases c <;> first | exact g2.elim | skip
  rename_i i
  obtain ⟨hi, hq⟩ := g2
  obtain ⟨h1, h2⟩ := idxOf_first hi
  exact ⟨a, ns, i, ns.idxOf i, rfl, by rw [dn_int.mp d2], by rw [F.K]; exact s2.sqN t, h1, h2, q _ _ (.int (ns.idxOf i : Nat)) H2 n2 (s1.trans s2) (dn_int.mpr rfl) hq⟩
end
/-! ### a law that makes lambdas itself -/
section
variable {P : Program} {w : World} {K : PySem.W.Frag} {mg : Str → Option Value} {base : Heap} {L : Ls}
theorem law_okC {x qual : Str} {st : Stmt} {rest : List Stmt} {f fb c : Addr} {fd fdb : FuncData} {N : List Str} {k : Nat} {p1 p2 p3 p4 p5 : Pos} {t : TSd} (hK : L.K = K ∧ L.w = w) (F : FunC K x qual st f fd c) (Sc : FnScope N ["script"] (defScope st))
    (i : Nat) (hi : N[i]? = some ("state" : Str)) (hi0 : i ≠ 0) (hloc : Loc (defScope st) ("state" : Str))
    (hN : ∃ r, N = ("script" : Str) :: r) (hscr : Loc (defScope st) ("script" : Str)) (hgl : (defScope st).names.lookup ("_law_begun" : Str) = some NameKind.globalImplicit)
    (FB : FnOk P w K mg base (L2.CX P w) k fb fdb ["script"] (spBegun L)) (mB : mg ("_law_begun" : Str) = some (.ref fb)) (kB : PySem.W.keepIn K (.ref fb) = true) (bB : Binds K fdb ["script"] [])
    (hb : defBody st = .Assign [.Name "state" p1] (.Call (.Name "_law_begun" p2) [.Name "script" p3] [] p4) p5 :: rest)
    (body : ∀ (A : Around) (outer : List PySem.Env) (s : Shared) (H : Hp) (E : XK) (Z : Zs), XF L Z (cxOf (L2.CX P w) P w K mg base N qual (defScope st) f (.ref c) A outer s H E) k (fun _ _ => False) →
      DSs Z (cxOf (L2.CX P w) P w K mg base N qual (defScope st) f (.ref c) A outer s H E) rest t)
    (imp : ∀ ns : List Int, ns.length ≤ 63 → t { nx := fun _ _ => False, rt := fun _ d => d = .bl true } 0 ((params N [.scr ns]).set i (.val .rng))) :
    FnOk P w K mg base (L2.CX P w) (k + 1) f fd ["script"] (spLaw L K) := by
  obtain ⟨oc, od, kV, doc, pm, an, ct, osl, rfl, lk, hcd⟩ := F.ex
  exact fn_of lk hcd Sc (fun vs H Q E h => by obtain ⟨a, ns, rfl, _⟩ := h; rfl) fun A outer s H vs Q E hr h => law_body hK Sc i hi hloc hN hscr hgl FB mB kB bB hb hr (fun Z F' => body A outer s H E Z F') imp h
end
end DL

/-! [elt for tg in iter if .. for tg1 in iter1 if ..] -/
namespace DL
open PySem L2
section
variable {L : Ls} {Z Z' : Zs} {X : Cx} {k : Nat} {ε : Nat → Str → Prop} {tg iter tg1 iter1 elt : Expr} {ifs ifs1 : List Expr} {scope : Scope} {pos : Pos} {δ : Env} {σ : L2.St} {H H' : Hp}
/-- the inner walk: what is gathered must fit -/
def rLcIn (τ : Tgt) (tt : TB) (te : TD) : List D → List D → Nat → Env → (Nat → List D → Prop) → Prop
  | [], acc, m, _, Q => Q m acc
  | d :: ds, acc, m, δ, Q => gD τ d δ fun δ2 => tt m δ2 fun m b => if b = true then te m δ2 fun m y => acc.length < sizeLine ∧ rLcIn τ tt te ds (acc ++ [y]) m δ Q else rLcIn τ tt te ds acc m δ Q
def rLc2Go (τ : Tgt) (tt : TB) (τ1 : Tgt) (vs1 : List Nat) (ti1 : TL) (tt1 : TB) (te : TD) : List D → List D → Nat → Env → (Nat → List D → Prop) → Prop
  | [], acc, m, _, Q => Q m acc
  | d :: ds, acc, m, δ, Q => gD τ d δ fun δ2 => tt m δ2 fun m b => if b = true then noOwn δ2 vs1 = true ∧ ti1 m δ2 fun m ds1 => rLcIn τ1 tt1 te ds1 acc m (wipeE δ2 vs1) fun m acc => rLc2Go τ tt τ1 vs1 ti1 tt1 te ds acc m δ Q else rLc2Go τ tt τ1 vs1 ti1 tt1 te ds acc m δ Q
@[simp] def rLc2 (τ : Tgt) (vs : List Nat) (ti : TL) (tt : TB) (τ1 : Tgt) (vs1 : List Nat) (ti1 : TL) (tt1 : TB) (te : TD) : TL := fun m δ Q => noOwn δ vs = true ∧ ti m δ fun m ds => rLc2Go τ tt τ1 vs1 ti1 tt1 te ds [] m (wipeE δ vs) Q
def cI (Y : Shared → Hp → Addr → List (Str × Addr) → List Addr → Cx) (tg iter : Expr) : TI := fun σ H R => ∀ (s0 : Shared) (H0 : Hp) (C : Addr) (cl : List (Str × Addr)) (fp : List Addr) (pins : List (Addr × Obj)) (s : Shared), Inv (Y s0 H0 C cl fp) pins σ H s →
    wpAny (model (Y s0 H0 C cl fp).prog (Y s0 H0 C cl fp).w) (Y s0 H0 C cl fp).A (eval iter (Y s0 H0 C cl fp).env) (fun v s1 => wpAny (model (Y s0 H0 C cl fp).prog (Y s0 H0 C cl fp).w) (Y s0 H0 C cl fp).A (pyIter v) (PIE (Y s0 H0 C cl fp) pins σ tg R) (Y s0 H0 C cl fp).xe s1) (Y s0 H0 C cl fp).xe s
theorem lc2_sem (F : XF L Z X k ε) {τ τ1 : Tgt} {vs vs1 : List Nat} {wi : TI} {tt tt1 : TB} {te : TD} {ti ti1 : TL} (hτ : ∀ i ∈ τ.is, i ∈ vs) (hτ1 : ∀ i ∈ τ1.is, i ∈ vs1) (hv : ∀ i ∈ vs1, i ∈ vs)
    (hi : ∀ (m : Nat) (δ : Env) (σ : L2.St) (H : Hp) (Q : Nat → List D → Prop) (R : It → Hp → Prop), Nv Z m δ σ H → ti m δ Q →
      (∀ m' J H1 ds G, Nv Z m' δ σ H1 → Stp (zone Z) H H1 → (∀ p ∈ G, Dn Z (OO Z σ δ) H1 p.1 p.2) → ItD Z.L Z.st J ds G → ds.length ≤ sizeLine → Q m' ds → R J H1) → wi σ H R)
    (ht : ∀ Z' s H C cl fp, XF L Z' (blkY X scope s H C cl fp) k (fun _ _ => False) → DTs Z' (blkY X scope s H C cl fp) ifs tt)
    (hi1 : ∀ Z' s H C cl fp, XF L Z' (blkY X scope s H C cl fp) k (fun _ _ => False) → DI Z' (blkY X scope s H C cl fp) tg1 iter1 ti1)
    (ht1 : ∀ Z' s H C cl fp, XF L Z' (blkY X scope s H C cl fp) k (fun _ _ => False) → DTs Z' (blkY X scope s H C cl fp) ifs1 tt1)
    (he : ∀ Z' s H C cl fp, XF L Z' (blkY X scope s H C cl fp) k (fun _ _ => False) → DE Z' (blkY X scope s H C cl fp) elt te)
    {m : Nat} {Q : Nat → List D → Prop} {R : VK} (n : Nv Z m δ σ H) (q : rLc2 τ vs ti tt τ1 vs1 ti1 tt1 te m δ Q)
    (r : ∀ m' p vs ds H', Nv (Z.plus p) m' δ σ H' → Stp (zone Z) H H' → ¬ OO Z σ δ p → Fr0 Z.H0 p → H' p = some (.lst vs) → DnL (Z.plus p) (OO (Z.plus p) σ δ) H' ds vs → ds.length ≤ sizeLine → Q m' ds → R (.ref p) H') :
    tLc2 wi (hT X.K τ) (cT (blkY X scope) ifs) (cI (blkY X scope) tg1 iter1) (hT X.K τ1) (cT (blkY X scope) ifs1) (cE (blkY X scope) elt) vs vs1 σ H R := by
  obtain ⟨no, q⟩ := q
  refine hi m δ σ H _ _ n q fun m1 J H1 ds G n1 s1 hG it hz q1 p hp => ?_
  have hK : X.K = Z.L.K := F.K
  have np : ¬ OO Z σ δ p := n1.fresh F.zok hp
  have h0 : Fr0 Z.H0 p := n1.h0 hp
  have nzp : ¬ zone Z p := fun z => np (.inl (F.zok.zo p z))
  have xp := Ext.plus Z p h0
  have Fp := F.ext xp
  have zp : zone (Z.plus p) = zone Z := xp.zone
  have hp0 : Fr0 H p := fun o z => by
    by_cases t : Nt o
    · obtain ⟨o', e, _⟩ := s1.there p o z t
      rw [hp] at e; cases e
    · exact Classical.byContradiction fun z => t fun ps e => z ⟨ps, e⟩
  have off : ∀ {H2 : Hp} {o : HO}, Stp (zone Z) H H2 → Stp (zone Z) H (upd H2 p o) := fun s => Stp.off s fun a o e nt q => by rw [q] at e; obtain ⟨ps, z⟩ := hp0 _ e; exact nt ps z
  refine ⟨fun i w H2 => w = ds.length - i ∧ i ≤ ds.length ∧ ∃ mm acc ws, acc.length ≤ sizeLine ∧ Nv ((Z.plus p).gh (G ++ acc.zip ws)) mm δ σ H2 ∧ Stp (zone Z) H H2 ∧ ws.length = acc.length ∧ H2 p = some (.lst ws) ∧ rLc2Go τ tt τ1 vs1 ti1 tt1 te (ds.drop i) acc mm (wipeE δ vs) Q,
    ⟨ds.length, rfl, Nat.zero_le _, m1, [], [], Nat.zero_le _, ?_, s1.trans (.same (same_upd hp)), rfl, upd_same, q1⟩, ?_⟩
  · refine (n1.plus F.zok hp).gh fun g hg => ?_
    rw [List.zip_nil_left, List.append_nil] at hg
    exact Dn.stp (.same (same_upd hp)) _ _ (Dn.plus hp (hG g hg))
  · rintro i w H2 ⟨rfl, hi, m2, acc, ws, ha, n2, s2, hw, hp2, q2⟩
    have xi : Ext (Z.plus p) ((Z.plus p).gh (G ++ acc.zip ws)) := Ext.gh _ _
    have Fi := Fp.ext xi
    have zi : zone ((Z.plus p).gh (G ++ acc.zip ws)) = zone Z := xi.zone.trans zp
    have gG : ∀ g ∈ G, Dn ((Z.plus p).gh (G ++ acc.zip ws)) (OO ((Z.plus p).gh (G ++ acc.zip ws)) σ δ) H2 g.1 g.2 := fun g hg => n2.gho g (List.mem_append_left _ (List.mem_append_left _ hg))
    by_cases hlt : i < ds.length
    · have hd : ds[i]? = some ds[i] := List.getElem?_eq_getElem hlt
      obtain ⟨hgo, hy⟩ := it.go ((Z.plus p).gh (G ++ acc.zip ws)) _ H2 i ds[i] rfl rfl gG hd (fun a ha => n2.fresh Fi.zok ha)
      rw [List.drop_eq_getElem_cons hlt] at q2
      refine .inr ⟨hgo, fun H5 => ∃ mm acc ws, acc.length ≤ sizeLine ∧ Nv ((Z.plus p).gh (G ++ acc.zip ws)) mm δ σ H5 ∧ Stp (zone Z) H H5 ∧ ws.length = acc.length ∧ H5 p = some (.lst ws) ∧ rLc2Go τ tt τ1 vs1 ti1 tt1 te (ds.drop (i + 1)) acc mm (wipeE δ vs) Q, fun H5 z => ⟨ds.length - (i + 1), by omega, rfl, hlt, z⟩, fun x H3 hyl => ?_⟩
      obtain ⟨sm, dx⟩ := hy x H3 hyl
      have n3 := n2.same Fi.zok sm
      have sub0 : ∀ a, OO ((Z.plus p).gh (G ++ acc.zip ws)) (L2.wipe σ vs) (wipeE δ vs) a → OO ((Z.plus p).gh (G ++ acc.zip ws)) σ δ a := OO_wiped no
      rw [show X.K = ((Z.plus p).gh (G ++ acc.zip ws)).K from hK]
      refine tgt_sem (n3.wipe vs) (Dn.mono sub0 _ _ dx) q2 fun δ2 σ2 n4 w q3 => ⟨by rw [w.s vs hτ, wipe_idem], fun s0 H0 C cl fp pins s I => ?_⟩
      obtain ⟨TT, pT, hTt⟩ := (ht _ s0 H0 C cl fp Fi.blk).ex
      refine pT.run pins s σ2 H3 _ I (hTt _ δ2 σ2 H3 _ _ n4 q3 fun m b H4 n5 s5 q4 => ?_)
      have n3' : Nv ((Z.plus p).gh (G ++ acc.zip ws)) _ δ σ H4 := n3.go Fi.zok s5 n5.gi
      rw [zi] at s5
      have s4 := (s2.trans (.same sm)).trans s5
      have hp4 : H4 p = some (.lst ws) := s5.keep _ _ (sm _ _ hp2) (fun _ z => nomatch z) nzp
      cases b with
      | false => exact iteF ⟨_, acc, ws, ha, n3', s4, hw, hp4, by simpa using q4⟩
      | true =>
        refine iteT fun s0' H0' C' cl' fp' pins' s' I' => ?_
        have q4 := show noOwn δ2 vs1 = true ∧ _ by simpa using q4
        obtain ⟨no1, q4⟩ := q4
        obtain ⟨wJ, pJ, hJ⟩ := (hi1 _ s0' H0' C' cl' fp' Fi.blk).ex
        refine pJ.run pins' s' σ2 H4 _ I' (hJ _ δ2 σ2 H4 _ _ n5 q4 fun m3 J1 H6 ds1 G1 n6 s6 hG1 it1 hz1 q5 => ?_)
        have n3'' : Nv ((Z.plus p).gh (G ++ acc.zip ws)) _ δ σ H6 := n3'.go Fi.zok s6 n6.gi
        rw [zi] at s6
        have s7 := s4.trans s6
        have hp6 : H6 p = some (.lst ws) := s6.keep _ _ hp4 (fun _ z => nomatch z) nzp
        have sub1 : ∀ {Zq : Zs} a, OO Zq σ δ a → OO Zq σ2 δ2 a := fun a => OO_wp (Z := _) hτ no w a
        -- the inner state: the ghosts of the inner walk ahead
        refine ⟨fun j w1 H7 => w1 = ds1.length - j ∧ j ≤ ds1.length ∧ ∃ mm acc ws, acc.length ≤ sizeLine ∧ Nv (((Z.plus p).gh (G ++ acc.zip ws)).gh G1) mm δ σ H7 ∧ Nv (((Z.plus p).gh (G ++ acc.zip ws)).gh G1) mm δ2 σ2 H7 ∧ Stp (zone Z) H H7 ∧ ws.length = acc.length ∧ H7 p = some (.lst ws) ∧
            rLcIn τ1 tt1 te (ds1.drop j) acc mm (wipeE δ2 vs1) fun m acc => rLc2Go τ tt τ1 vs1 ti1 tt1 te (ds.drop (i + 1)) acc m (wipeE δ vs) Q,
          ⟨ds1.length, rfl, Nat.zero_le _, m3, acc, ws, ha, n3''.gh fun g hg => Dn.mono sub1 _ _ (hG1 g hg), n6.gh hG1, s7, hw, hp6, q5⟩, ?_⟩
        rintro j w1 H7 ⟨rfl, hj, m4, acc, ws, ha, n7, n8, s8, hw, hp7, q6⟩
        have xj : Ext (Z.plus p) (((Z.plus p).gh (G ++ acc.zip ws)).gh G1) := (Ext.gh _ _).trans (Ext.gh _ _)
        have Fj := Fp.ext xj
        have zj : zone (((Z.plus p).gh (G ++ acc.zip ws)).gh G1) = zone Z := xj.zone.trans zp
        have gG1 : ∀ g ∈ G1, Dn (((Z.plus p).gh (G ++ acc.zip ws)).gh G1) (OO (((Z.plus p).gh (G ++ acc.zip ws)).gh G1) σ2 δ2) H7 g.1 g.2 := fun g hg => n8.gho g (List.mem_append_left _ hg)
        by_cases hlt1 : j < ds1.length
        · have hd1 : ds1[j]? = some ds1[j] := List.getElem?_eq_getElem hlt1
          obtain ⟨hgo1, hy1⟩ := it1.go (((Z.plus p).gh (G ++ acc.zip ws)).gh G1) _ H7 j ds1[j] rfl rfl gG1 hd1 (fun a ha => n8.fresh Fj.zok ha)
          rw [List.drop_eq_getElem_cons hlt1] at q6
          refine .inr ⟨hgo1, fun H9 => ∃ mm acc ws, acc.length ≤ sizeLine ∧ Nv (((Z.plus p).gh (G ++ acc.zip ws)).gh G1) mm δ σ H9 ∧ Nv (((Z.plus p).gh (G ++ acc.zip ws)).gh G1) mm δ2 σ2 H9 ∧ Stp (zone Z) H H9 ∧ ws.length = acc.length ∧ H9 p = some (.lst ws) ∧
              rLcIn τ1 tt1 te (ds1.drop (j + 1)) acc mm (wipeE δ2 vs1) fun m acc => rLc2Go τ tt τ1 vs1 ti1 tt1 te (ds.drop (i + 1)) acc m (wipeE δ vs) Q, fun H9 z => ⟨ds1.length - (j + 1), by omega, rfl, hlt1, z⟩, fun x1 H8 hyl1 => ?_⟩
          obtain ⟨sm1, dx1⟩ := hy1 x1 H8 hyl1
          have n9 := n7.same Fj.zok sm1
          have n10 := n8.same Fj.zok sm1
          have sub2 : ∀ a, OO (((Z.plus p).gh (G ++ acc.zip ws)).gh G1) (L2.wipe σ2 vs1) (wipeE δ2 vs1) a → OO (((Z.plus p).gh (G ++ acc.zip ws)).gh G1) σ2 δ2 a := OO_wiped no1
          change hT (((Z.plus p).gh (G ++ acc.zip ws)).gh G1).K τ1 x1 (L2.wipe σ2 vs1) H8 _
          refine tgt_sem (n10.wipe vs1) (Dn.mono sub2 _ _ dx1) q6 fun δ3 σ3 n11 w3 q7 => ⟨by rw [w3.s vs1 hτ1, wipe_idem], fun s0 H0 C cl fp pins s I => ?_⟩
          obtain ⟨T1, pT1, hT1⟩ := (ht1 _ s0 H0 C cl fp Fj.blk).ex
          refine pT1.run pins s σ3 H8 _ I (hT1 _ δ3 σ3 H8 _ _ n11 q7 fun m5 b1 H10 n12 s10 q8 => ?_)
          have n13 : Nv (((Z.plus p).gh (G ++ acc.zip ws)).gh G1) _ δ σ H10 := n9.go Fj.zok s10 n12.gi
          have n14 : Nv (((Z.plus p).gh (G ++ acc.zip ws)).gh G1) _ δ2 σ2 H10 := n10.go Fj.zok s10 n12.gi
          rw [zj] at s10
          have s11 := (s8.trans (.same sm1)).trans s10
          have hp10 : H10 p = some (.lst ws) := s10.keep _ _ (sm1 _ _ hp7) (fun _ z => nomatch z) nzp
          cases b1 with
          | false => exact iteF ⟨_, acc, ws, ha, n13, n14, s11, hw, hp10, by simpa using q8⟩
          | true =>
            refine iteT fun s0' H0' C' cl' fp' pins' s' I' => ?_
            refine (he _ s0' H0' C' cl' fp' Fj.blk).run n12 (by simpa using q8) (fun m6 y d H12 n15 s12 d6 q9 => ?_) I'
            obtain ⟨hfit, q9⟩ := q9
            have n16 : Nv (((Z.plus p).gh (G ++ acc.zip ws)).gh G1) _ δ σ H12 := n13.go Fj.zok s12 n15.gi
            have n17 : Nv (((Z.plus p).gh (G ++ acc.zip ws)).gh G1) _ δ2 σ2 H12 := n14.go Fj.zok s12 n15.gi
            rw [zj] at s12
            have hp12 : H12 p = some (.lst ws) := s12.keep _ _ hp10 (fun _ z => nomatch z) nzp
            have nzj : ¬ zone (((Z.plus p).gh (G ++ acc.zip ws)).gh G1) p := by rw [zj]; exact nzp
            have hOp : (((Z.plus p).gh (G ++ acc.zip ws)).gh G1).O p := Or.inr rfl
            have n18 := n16.poke (ys := ws ++ [y]) Fj.zok hOp nzj h0 hp12
            have n19 := n17.poke (ys := ws ++ [y]) Fj.zok hOp nzj h0 hp12
            have e7 : Dn (((Z.plus p).gh (G ++ acc.zip ws)).gh G1) (OO (((Z.plus p).gh (G ++ acc.zip ws)).gh G1) σ2 δ2) H12 d y := Dn.mono (OO_wp hτ1 no1 w3) d y d6
            have d7 : Dn (((Z.plus p).gh (G ++ acc.zip ws)).gh G1) (OO (((Z.plus p).gh (G ++ acc.zip ws)).gh G1) σ δ) (upd H12 p (.lst (ws ++ [y]))) d y := Dn.stp (.own (Or.inl hOp) hp12) d y (Dn.mono sub1 d y e7)
            have d8 : Dn (((Z.plus p).gh (G ++ acc.zip ws)).gh G1) (OO (((Z.plus p).gh (G ++ acc.zip ws)).gh G1) σ2 δ2) (upd H12 p (.lst (ws ++ [y]))) d y := Dn.stp (.own (Or.inl hOp) hp12) d y e7
            have n20 := n18.gh (G := [(d, y)]) fun g hg => by cases List.mem_singleton.mp hg; exact d7
            have n21 := n19.gh (G := [(d, y)]) fun g hg => by cases List.mem_singleton.mp hg; exact d8
            have xx : Ext (((Z.plus p).gh (G ++ (acc ++ [d]).zip (ws ++ [y]))).gh G1) ((((Z.plus p).gh (G ++ acc.zip ws)).gh G1).gh [(d, y)]) := by
              refine ⟨rfl, rfl, rfl, fun _ h => h, fun g hg => ?_, fun _ h => .inl h⟩
              rw [List.zip_append hw.symm] at hg
              show g ∈ [(d, y)] ++ (G1 ++ ((G ++ acc.zip ws) ++ _))
              rcases List.mem_append.mp hg with hg | hg
              · exact List.mem_append_right _ (List.mem_append_left _ hg)
              · rcases List.mem_append.mp hg with hg | hg
                · rcases List.mem_append.mp hg with hg | hg
                  · exact List.mem_append_right _ (List.mem_append_right _ (List.mem_append_left _ (List.mem_append_left _ hg)))
                  · rcases List.mem_append.mp hg with hg | hg
                    · exact List.mem_append_right _ (List.mem_append_right _ (List.mem_append_left _ (List.mem_append_right _ hg)))
                    · exact List.mem_append_left _ (by simpa using hg)
                · exact List.mem_append_right _ (List.mem_append_right _ (List.mem_append_right _ hg))
            exact ⟨ws, hp12, by rw [hw]; exact hfit, m6, acc ++ [d], ws ++ [y], by rw [List.length_append]; exact hfit, xx.nv n20, xx.nv n21, off (s11.trans s12), by rw [List.length_append, List.length_append, hw]; rfl, upd_same, q9⟩
        · have e : j = ds1.length := by omega
          subst e
          rw [List.drop_length] at q6
          exact .inl ⟨it1.stop (((Z.plus p).gh (G ++ acc.zip ws)).gh G1) _ H7 rfl rfl gG1, m4, acc, ws, ha, (Ext.gh _ _).nv n7, s8, hw, hp7, q6⟩
    · have e : i = ds.length := by omega
      subst e
      rw [List.drop_length] at q2
      refine .inl ⟨it.stop ((Z.plus p).gh (G ++ acc.zip ws)) _ H2 rfl rfl gG, r _ p ws acc H2 (xi.nv n2) s2 np h0 hp2 ?_ ha q2⟩
      exact DnL.zs (Z := (Z.plus p).gh (G ++ acc.zip ws)) (Z' := Z.plus p) rfl rfl acc ws (DnL.ofG hw fun g hg => n2.gho g (List.mem_append_left _ (List.mem_append_right _ hg)))
theorem del_lc2 (F : XF L Z X k ε) (τ : Tgt) (own : List (Str × Nat)) (τ1 : Tgt) (vs1 : List Nat) {ti ti1 : TL} {tt tt1 : TB} {te : TD} (hi : DI Z X tg iter ti)
    (hg : ∀ s H C cl fp, (blkY X scope s H C cl fp).N.Nodup → (blkY X scope s H C cl fp).calm = true → PG (blkY X scope s H C cl fp) tg (hT X.K τ))
    (ht : ∀ Z' s H C cl fp, XF L Z' (blkY X scope s H C cl fp) k (fun _ _ => False) → DTs Z' (blkY X scope s H C cl fp) ifs tt)
    (hi1 : ∀ Z' s H C cl fp, XF L Z' (blkY X scope s H C cl fp) k (fun _ _ => False) → DI Z' (blkY X scope s H C cl fp) tg1 iter1 ti1)
    (hg1 : ∀ s H C cl fp, (blkY X scope s H C cl fp).N.Nodup → (blkY X scope s H C cl fp).calm = true → PG (blkY X scope s H C cl fp) tg1 (hT X.K τ1))
    (ht1 : ∀ Z' s H C cl fp, XF L Z' (blkY X scope s H C cl fp) k (fun _ _ => False) → DTs Z' (blkY X scope s H C cl fp) ifs1 tt1)
    (he : ∀ Z' s H C cl fp, XF L Z' (blkY X scope s H C cl fp) k (fun _ _ => False) → DE Z' (blkY X scope s H C cl fp) elt te)
    (ok : blkC X.N X.env.scope scope own = true := by kernel_rfl) (hτ : (τ.is.all fun i => (own.map (·.2)).contains i) = true := by decide) (hτ1 : (τ1.is.all fun i => vs1.contains i) = true := by decide) (hv : (vs1.all fun i => (own.map (·.2)).contains i) = true := by decide)
    (hs : ∀ x, foldedSetIterable iter X.env x = pure x := by intro _; rfl) (hs1 : ∀ env x, foldedSetIterable iter1 env x = pure x := by intro _ _; rfl) :
    DEl Z X (.ListComp elt [⟨tg, iter, ifs, 0⟩, ⟨tg1, iter1, ifs1, 0⟩] scope pos) (rLc2 τ (own.map (·.2)) ti tt τ1 vs1 ti1 tt1 te) := by
  obtain ⟨wi, pi, hi⟩ := hi.ex
  have a1 : ∀ i ∈ τ.is, i ∈ own.map (·.2) := fun i h => by rw [List.all_eq_true] at hτ; simpa using hτ i h
  have a2 : ∀ i ∈ τ1.is, i ∈ vs1 := fun i h => by rw [List.all_eq_true] at hτ1; simpa using hτ1 i h
  have a3 : ∀ i ∈ vs1, i ∈ own.map (·.2) := fun i h => by rw [List.all_eq_true] at hv; simpa using hv i h
  refine ⟨_, pe_lc2 (tt := cT (blkY X scope) ifs) (tt1 := cT (blkY X scope) ifs1) (wi1 := cI (blkY X scope) tg1 iter1) (te := cE (blkY X scope) elt) F.calm F.nd pi (blkOk_by ok) a3 (fun s H C cl fp => hg s H C cl fp F.nd F.calm) (fun s0 H0 C cl fp => ⟨fun pins s σ H Q I h => h s0 H0 C cl fp pins s I⟩)
    (fun s0 H0 C cl fp => ⟨fun pins s σ H R I h => h s0 H0 C cl fp pins s I⟩) (fun s H C cl fp => hg1 s H C cl fp F.nd F.calm) (fun s0 H0 C cl fp => ⟨fun pins s σ H Q I h => h s0 H0 C cl fp pins s I⟩) (fun s0 H0 C cl fp => ⟨fun pins s σ H Q I h => h s0 H0 C cl fp pins s I⟩) hs hs1, ?_⟩
  exact fun m δ σ H Q R n q r => lc2_sem F a1 a2 a3 hi ht hi1 ht1 he n q r
theorem dsl_lc2 (F : XF L Z X k ε) (i : Nat) (τ : Tgt) (own : List (Str × Nat)) (τ1 : Tgt) (vs1 : List Nat) {y : Str} {py spos : Pos} {ti ti1 : TL} {tt tt1 : TB} {te : TD} (hi : DI Z X tg iter ti)
    (hg : ∀ s H C cl fp, (blkY X scope s H C cl fp).N.Nodup → (blkY X scope s H C cl fp).calm = true → PG (blkY X scope s H C cl fp) tg (hT X.K τ))
    (ht : ∀ Z' s H C cl fp, XF L Z' (blkY X scope s H C cl fp) k (fun _ _ => False) → DTs Z' (blkY X scope s H C cl fp) ifs tt)
    (hi1 : ∀ Z' s H C cl fp, XF L Z' (blkY X scope s H C cl fp) k (fun _ _ => False) → DI Z' (blkY X scope s H C cl fp) tg1 iter1 ti1)
    (hg1 : ∀ s H C cl fp, (blkY X scope s H C cl fp).N.Nodup → (blkY X scope s H C cl fp).calm = true → PG (blkY X scope s H C cl fp) tg1 (hT X.K τ1))
    (ht1 : ∀ Z' s H C cl fp, XF L Z' (blkY X scope s H C cl fp) k (fun _ _ => False) → DTs Z' (blkY X scope s H C cl fp) ifs1 tt1)
    (he : ∀ Z' s H C cl fp, XF L Z' (blkY X scope s H C cl fp) k (fun _ _ => False) → DE Z' (blkY X scope s H C cl fp) elt te)
    (hy : X.N[i]? = some y := by rfl) (hyl : X.env.scope.names.lookup y = some .local := by rfl) (hsw : swapsWith (.ListComp elt [⟨tg, iter, ifs, 0⟩, ⟨tg1, iter1, ifs1, 0⟩] scope pos) (some (.Name y py)) spos.line X.env = pure true := by exact sw_true rfl rfl rfl (by decide +kernel))
    (ok : blkC X.N X.env.scope scope own = true := by kernel_rfl) (hτ : (τ.is.all fun i => (own.map (·.2)).contains i) = true := by decide) (hτ1 : (τ1.is.all fun i => vs1.contains i) = true := by decide) (hv : (vs1.all fun i => (own.map (·.2)).contains i) = true := by decide)
    (hs : ∀ x, foldedSetIterable iter X.env x = pure x := by intro _; rfl) (hs1 : ∀ env x, foldedSetIterable iter1 env x = pure x := by intro _ _; rfl) :
    DS Z X (.Assign [.Name y py] (.ListComp elt [⟨tg, iter, ifs, 0⟩, ⟨tg1, iter1, ifs1, 0⟩] scope pos) spos) (rSet i (rL (rLc2 τ (own.map (·.2)) ti tt τ1 vs1 ti1 tt1 te))) ∧ DS Z X (.Assign [.Name y py] (.ListComp elt [⟨tg, iter, ifs, 0⟩, ⟨tg1, iter1, ifs1, 0⟩] scope pos) spos) (rOwn i (rLc2 τ (own.map (·.2)) ti tt τ1 vs1 ti1 tt1 te)) := by
  obtain ⟨wi, pi, hi⟩ := hi.ex
  have a1 : ∀ i ∈ τ.is, i ∈ own.map (·.2) := fun i h => by rw [List.all_eq_true] at hτ; simpa using hτ i h
  have a2 : ∀ i ∈ τ1.is, i ∈ vs1 := fun i h => by rw [List.all_eq_true] at hτ1; simpa using hτ1 i h
  have a3 : ∀ i ∈ vs1, i ∈ own.map (·.2) := fun i h => by rw [List.all_eq_true] at hv; simpa using hv i h
  have P := ps_setLc2 (i := i) (tt := cT (blkY X scope) ifs) (tt1 := cT (blkY X scope) ifs1) (wi1 := cI (blkY X scope) tg1 iter1) (te := cE (blkY X scope) elt) F.calm F.nd hy hyl hsw pi (blkOk_by ok) a3 (fun s H C cl fp => hg s H C cl fp F.nd F.calm) (fun s0 H0 C cl fp => ⟨fun pins s σ H Q I h => h s0 H0 C cl fp pins s I⟩)
    (fun s0 H0 C cl fp => ⟨fun pins s σ H R I h => h s0 H0 C cl fp pins s I⟩) (fun s H C cl fp => hg1 s H C cl fp F.nd F.calm) (fun s0 H0 C cl fp => ⟨fun pins s σ H Q I h => h s0 H0 C cl fp pins s I⟩) (fun s0 H0 C cl fp => ⟨fun pins s σ H Q I h => h s0 H0 C cl fp pins s I⟩) hs hs1
  refine ⟨⟨_, P, fun m δ σ H B R n q o => lc2_sem F a1 a2 a3 hi ht hi1 ht1 he n q fun m p vs ds H' n' s np h0 hp hl z hq => ?_⟩, ⟨_, P, fun m δ σ H B R n q o => lc2_sem F a1 a2 a3 hi ht hi1 ht1 he n q fun m p vs ds H' n' s np h0 hp hl z hq => own_end o n' np h0 hp hl z hq⟩⟩
  have x := Ext.plus Z p h0
  exact o.nx _ _ _ H' ((x.nv n').setV (dn_lst.mpr ⟨z, p, vs, rfl, np, hp, DnL.zs (Z := Z.plus p) (Z' := Z) rfl rfl ds vs (DnL.mono (fun a h => (OO_plus a).mpr (.inl h)) ds vs hl)⟩)) hq
end
end DL

/-! dicts keyed by rows of ints: made in a nest of two walks, then in, not in -/
namespace DL
open PySem L2 PySem.Spec PyProof.Rows
section
variable {X : Cx} {pins : List (Addr × Obj)} {σ : L2.St} {H : Hp} {s : Shared} {a : Addr}
theorem dctO_ok {P : Program} {w : World} {H : Hp} {h : Heap} {xs : List (List Int × Addr × Value)} (x : DctT0 h a xs) : ObjOk P w H h a (DctO a xs) := by
  obtain ⟨o, es, ep, ho, r⟩ := id x
  refine ⟨x, ⟨o, ho⟩, fun h1 h2 p k => ?_⟩
  obtain ⟨o', es', ep', ho', r'⟩ := (show DctT0 h1 a xs from p)
  exact ⟨o', es', ep', k o' ho', r'⟩
theorem dct_rd (I : Inv X pins σ H s) {xs : List (List Int × Addr × Value)} (e : Rd H a (DctO a xs)) : DctT0 s.heap a xs := by
  rcases e with e | ⟨od, e⟩
  · exact (I.hok a _ e).1
  · exact (I.hok a _ e).2.1
/-- the dict with its keys as they stand -/
theorem dct_full (I : Inv X pins σ H s) {xs : List (List Int × Addr × Value)} (d : DctT0 s.heap a xs) (hk : ∀ x ∈ xs, SqN X.K H x.2.1 (x.1.map V.int)) : s.heap.DictOfH (PySem.tupleKind (PySem.intKind X.prog X.w)) a xs := by
  obtain ⟨o, es, ep, ho, hex, hd, he, nd, _⟩ := d
  exact ⟨o, es, ep, ho, hex, hd, he X.prog X.w, fun x hx => I.isT (hk x hx).t, nd⟩
theorem dct_back {h : Heap} {P : Program} {w : World} {xs : List (List Int × Addr × Value)} (d : h.DictOfH (PySem.tupleKind (PySem.intKind P w)) a xs) (ns : (a == sysModules) = false) : DctT0 h a xs := by
  obtain ⟨o, es, ep, ho, hex, hd, he, _, nd⟩ := d
  exact ⟨o, es, ep, ho, hex, hd, fun P' w' => he, nd, ns⟩
/-- {} -/
theorem pe_dnewR {pos : Pos} : PE X (.Dict [] [] pos) (fun _ H Q => ∀ p, H p = none → Q (.ref p) (upd H p (DctO p []))) := ⟨fun pins s σ H Q I h => by
  refine wpAny_Dict_empty ⟨.ref s.heap.objs.size, _, I.laid (a := s.heap.objs.size) (o := DctO s.heap.objs.size []) (t' := s.toks) (fun _ _ q => Heap.get?_push_of_some _ q) (Nat.le_refl _) (dctO_ok ?_), rfl, h _ (I.hok.fresh (Nat.le_refl _))⟩
  refine dct_back (P := X.prog) (w := X.w) (Heap.DictOfH.new s.heap) ?_
  have hb := I.big
  exact beq_eq_false_iff_ne.mpr fun e => by rw [e] at hb; exact Nat.lt_irrefl _ hb⟩
/-- d[k] = True -/
def sPutR (td ty : TE) : TS := fun D σ H => td σ H fun x H2 => ty σ H2 fun y H3 => ∃ (a b : Addr) (r : List Int) (xs : List (List Int × Addr × Value)), x = .ref a ∧ y = .ref b ∧ H3 a = some (DctO a xs) ∧ (∀ z ∈ xs, SqN X.K H3 z.2.1 (z.1.map V.int)) ∧ SqN X.K H3 b (r.map V.int) ∧ xs.length < sizeLine ∧
  D.nx σ (upd H3 a (DctO a (PySem.storedH xs r b (.bool true))))
end
section
variable {X : Cx} {o i : Expr} {td ty : TE} {pos pos' p0 : Pos} {j : Nat}
theorem ps_putR (hu : X.A.units + 1 < cLine) (ho : PE X o td) (hi : PE X i ty) (hs : swapsWith (.Constant (.bool true) j p0) (some (.Subscript o i pos')) pos.line X.env = pure false := by rfl) : PS X (.Assign [.Subscript o i pos'] (.Constant (.bool true) j p0) pos) (sPutR (X := X) td ty) := by
  refine ⟨fun pins s σ H D I h => ?_⟩
  refine wpAny_Assign_Subscript (thn ((pe_bl (X := X) (b := true)).run pins s σ H (fun v H1 => v = .bl true ∧ H1 = H) I ⟨rfl, rfl⟩) ?_) hs
  rintro r s1 ⟨v, H1, I1, rv, ev, eH⟩
  subst ev eH
  refine thn (ho.run pins s1 σ _ _ I1 h) ?_
  rintro u s2 ⟨x, H2, I2, rx, q2⟩
  refine thn (hi.run pins s2 σ H2 _ I2 q2) ?_
  rintro iv s3 ⟨y, H3, I3, ry, q3⟩
  cases rv
  obtain ⟨a, b, k, xs, rfl, rfl, ha, hk, hb, hz, q⟩ := q3
  cases rx; cases ry
  have d0 := dct_rd I3 (.inl ha)
  obtain ⟨_, _, _, _, _, _, _, _, ns⟩ := id d0
  refine wpAny_setItem_heap (knd := PySem.tupleKind (PySem.intKind X.prog X.w)) (hsz := Nat.le_of_lt hz) (tupleKind_room_in1 hu) (I3.isT hb.t) (dct_full I3 d0 hk) fun h' dd' hs => ?_
  have he : ∃ q, h'.get? a = some q := let ⟨q, _, _, hq, _⟩ := dd'; ⟨q, hq⟩
  exact ⟨σ, _, I3.write (x := a) (e := a) (by rw [ha]; exact True.intro) (.inl rfl) (fun b q hb z => (hs.2 b hb).trans z) he (dctO_ok (dct_back dd' ns)), q⟩
/-! ### in, not in -/
def rInR (K : PySem.W.Frag) (neg : Bool) : R2 := fun x y H Q => ∃ (b a : Addr) (r : List Int) (xs : List (List Int × Addr × Value)), x = .ref b ∧ y = .ref a ∧ Rd H a (DctO a xs) ∧ (∀ z ∈ xs, SqN K H z.2.1 (z.1.map V.int)) ∧ SqN K H b (r.map V.int) ∧ Q (.bl (if neg then !decide (r ∈ xs.map (·.1)) else decide (r ∈ xs.map (·.1)))) H
theorem atKey_some (xs : List (List Int × Addr × Value)) (r : List Int) : (PySem.atKey xs r).isSome = decide (r ∈ xs.map (·.1)) := by
  unfold PySem.atKey
  rw [Option.isSome_map, Bool.eq_iff_iff, List.find?_isSome, decide_eq_true_iff]
  simp only [decide_eq_true_eq, List.mem_map]
theorem op_inR (hu : X.A.units + 1 < cLine) : OpR X (compareOp .In) (rInR X.K false) := by
  rintro pins s σ H x y v u Q I rx ry ⟨b, a, r, xs, rfl, rfl, hd, hk, hb, q⟩
  cases rx; cases ry
  have d0 := dct_rd I hd
  obtain ⟨_, _, _, _, _, _, _, _, ns⟩ := id d0
  refine wpAny_in_heap (knd := PySem.tupleKind (PySem.intKind X.prog X.w)) (tupleKind_room_in1 hu) (I.isT hb.t) ns (dct_full I d0 hk) ⟨.bl _, H, I.tok _, rfl, ?_⟩
  rw [atKey_some]
  exact q
theorem op_ninR (hu : X.A.units + 1 < cLine) : OpR X (compareOp .NotIn) (rInR X.K true) := by
  rintro pins s σ H x y v u Q I rx ry ⟨b, a, r, xs, rfl, rfl, hd, hk, hb, q⟩
  cases rx; cases ry
  have d0 := dct_rd I hd
  obtain ⟨_, _, _, _, _, _, _, _, ns⟩ := id d0
  refine wpAny_notIn_heap (knd := PySem.tupleKind (PySem.intKind X.prog X.w)) (tupleKind_room_in1 hu) (I.isT hb.t) ns (dct_full I d0 hk) ⟨.bl _, H, I.tok _, rfl, ?_⟩
  rw [atKey_some]
  exact q
end
section
variable {L : Ls} {Z Z' : Zs} {X : Cx} {k : Nat} {ε : Nat → Str → Prop} {e tg : Expr} {es : List Expr} {te : TD} {pos : Pos} {δ : Env} {σ : L2.St} {H H' : Hp} {m : Nat}
theorem dn_dcs {P : Addr → Prop} {ks : List (List Int)} {v : V} : Dn Z P H (.dcs ks) v ↔ ∃ a xs od, v = .ref a ∧ H a = some (.frz od (DctO a xs)) ∧ xs.map (·.1) = ks ∧ ∀ x ∈ xs, SqN Z.K H x.2.1 (x.1.map V.int) := by unfold Dn; exact Iff.rfl
def gInR (neg : Bool) : D → D → (D → Prop) → Prop
  | .tup ds, .dcs ks, Q => ∃ r, D.ints ds = some r ∧ Q (.bl (if neg then !decide (r ∈ ks) else decide (r ∈ ks)))
  | _, _, _ => False
theorem b_inR {f : Value → Value → Sem Value} {neg : Bool} (hK : X.K = Z.K) (o : OpR X f (rInR X.K neg)) : BinD Z X f (gInR neg) := by
  refine ⟨_, o, fun P H x y d e Q R hp hd he h q => ?_⟩
  unfold gInR at h
  split at h
  · obtain ⟨r, er, hq⟩ := h
    rw [ints_map er] at hd
    obtain ⟨z, b, vs, rfl, t, l⟩ := dn_tupN.mp hd
    rw [l.ints] at t
    obtain ⟨a, xs, od, rfl, ha, ek, hk⟩ := dn_dcs.mp he
    refine ⟨b, a, r, xs, rfl, rfl, .inr ⟨od, ha⟩, fun x hx => by rw [hK]; exact hk x hx, by rw [hK]; exact t, ?_⟩
    rw [ek]
    exact q _ _ H (Same.refl _) (dn_bl.mpr rfl) hq
  · exact h.elim
@[simp] def dInB (d e : D) (Q : D → Prop) : Prop := match e with
  | .dcs ks => match d with | .tup ds => ∃ r, D.ints ds = some r ∧ Q (.bl (decide (r ∈ ks))) | _ => False
  | e => dInA d e Q
@[simp] def dNinB (d e : D) (Q : D → Prop) : Prop := match e with
  | .dcs ks => match d with | .tup ds => ∃ r, D.ints ds = some r ∧ Q (.bl (!decide (r ∈ ks))) | _ => False
  | e => dNinA d e Q
theorem o_inB (F : XF L Z X k ε) : BinD Z X (compareOp .In) dInB := ((b_inR F.K (op_inR F.hu)).or (o_inA F)).imp fun d e Q h => by
  unfold dInB at h
  split at h
  · split at h
    · exact .inl h
    · exact h.elim
  · exact .inr h
theorem o_ninB (F : XF L Z X k ε) : BinD Z X (compareOp .NotIn) dNinB := ((b_inR F.K (op_ninR F.hu)).or (o_ninA F)).imp fun d e Q h => by
  unfold dNinB at h
  split at h
  · split at h
    · exact .inl h
    · exact h.elim
  · exact .inr h
/-! ### x = {}; for tg in iter: for tg1 in iter1: x[key] = True -/
def addR (ks : List (List Int)) (r : List Int) : List (List Int) := if r ∈ ks then ks else ks ++ [r]
def rRowIn (τ : Tgt) (tk : TD) : List D → List (List Int) → Nat → Env → (Nat → Env → List (List Int) → Prop) → Prop
  | [], ks, m, δ, Q => Q m δ ks
  | d :: ds, ks, m, δ, Q => gD τ d δ fun δ => tk m δ fun m c => match c with
    | .tup cs => ∃ r, D.ints cs = some r ∧ ks.length < sizeLine ∧ rRowIn τ tk ds (addR ks r) m δ Q
    | _ => False
def rRowGo (τ τ1 : Tgt) (ti1 : TL) (tk : TD) : List D → List (List Int) → Nat → Env → (Nat → Env → List (List Int) → Prop) → Prop
  | [], ks, m, δ, Q => Q m δ ks
  | d :: ds, ks, m, δ, Q => gD τ d δ fun δ => ti1 m δ fun m ds1 => rRowIn τ1 tk ds1 ks m δ fun m δ ks => rRowGo τ τ1 ti1 tk ds ks m δ Q
@[simp] def rRows (i : Nat) (τ : Tgt) (ti : TL) (τ1 : Tgt) (ti1 : TL) (tk : TD) (u : TSd) : TSd := fun B m δ => ti m (δ.set i .no) fun m ds => rRowGo τ τ1 ti1 tk ds [] m (δ.set i .no) fun m δ ks => u B m (δ.set i (.val (.dcs ks)))
theorem storedH_keys {xs : List (List Int × Addr × Value)} {r : List Int} {b : Addr} {u : Value} : (PySem.storedH xs r b u).map (·.1) = addR (xs.map (·.1)) r := by
  unfold PySem.storedH addR
  rw [atKey_some]
  by_cases h : r ∈ xs.map (·.1)
  · rw [if_pos (decide_eq_true h), if_pos h, List.map_map]
    refine List.map_congr_left fun x _ => ?_
    show (PySem.putAt r u x).1 = x.1
    unfold PySem.putAt
    split <;> rfl
  · rw [if_neg (by simpa using h), if_neg h, List.map_append]; rfl
theorem storedH_at {xs : List (List Int × Addr × Value)} {r : List Int} {b : Addr} {u : Value} {x : List Int × Addr × Value} (h : x ∈ PySem.storedH xs r b u) : (∃ y ∈ xs, x.1 = y.1 ∧ x.2.1 = y.2.1) ∨ (x.1 = r ∧ x.2.1 = b) := by
  unfold PySem.storedH at h
  split at h
  · obtain ⟨y, hy, rfl⟩ := List.mem_map.mp h
    refine .inl ⟨y, hy, ?_⟩
    unfold PySem.putAt
    split <;> exact ⟨rfl, rfl⟩
  · rcases List.mem_append.mp h with h | h
    · exact .inl ⟨x, h, rfl, rfl⟩
    · rw [List.mem_singleton.mp h]; exact .inr ⟨rfl, rfl⟩
end
end DL

namespace DL
open PySem L2 PySem.Spec PyProof.Rows
/-- a dict is no code object -/
theorem dct_code {a : Addr} {xs : List (List Int × Addr × Value)} {q : Str} : DctO a xs ≠ LamX.CodeO a q := by
  intro e
  unfold DctO LamX.CodeO at e
  injection e with e
  have hg : (({ objs := Array.replicate (a + 1) { cls := .none, data := .fields #[.none, .str q 0] } } : Heap)).get? a = some { cls := .none, data := .fields #[.none, .str q 0] } := by
    unfold Heap.get?
    rw [Array.getElem?_replicate, if_pos (Nat.lt_succ_self a)]
  have z := congrFun e ({ objs := Array.replicate (a + 1) { cls := .none, data := .fields #[.none, .str q 0] } } : Heap)
  have hc : DctT0 ({ objs := Array.replicate (a + 1) { cls := .none, data := .fields #[.none, .str q 0] } } : Heap) a xs := by
    rw [z]
    exact ⟨_, _, 0, hg, rfl, rfl⟩
  obtain ⟨o, es, ep, ho, _, hd, _⟩ := hc
  rw [hg] at ho
  cases ho
  cases hd
section
variable {Z : Zs} {δ : Env} {σ : L2.St} {H : Hp} {m : Nat} {p : Addr} {xs : List (List Int × Addr × Value)} {o : HO}
theorem tab_neX {a : Addr} {q : Str} {P : Addr} {o' : HO} (h : H a = some (DctO a xs)) (t : LamX.TabS H P q) : LamX.TabS (L2.upd H a o') P q := by
  obtain ⟨ps, h1, h2, h3⟩ := t
  refine ⟨ps, by rw [upd_ne (ne_of h1 h (by intro z; cases z))]; exact h1, h2, fun pos cv hc => ?_⟩
  obtain ⟨c, e1, e2⟩ := h3 pos cv hc
  exact ⟨c, e1, by rw [upd_ne (fun z => by subst z; rw [h] at e2; exact dct_code (Option.some.inj e2))]; exact e2⟩
theorem Stp.ownX {P : Addr → Prop} {a : Addr} (pa : P a) (h : H a = some (DctO a xs)) (nt : Nt o) : Stp P H (L2.upd H a o) :=
  ⟨fun c u e _ q => by rw [upd_ne (fun z => q (by rw [z]; exact pa))]; exact e, fun c ys e => by rw [upd_ne (ne_of e h (by intro z; cases z))]; exact e,
    fun c ob u e => by rw [upd_ne (ne_of e h (by intro z; cases z))]; exact e, fun c u e n => by
      by_cases q : c = a
      · subst q; exact ⟨o, upd_same, nt⟩
      · exact ⟨u, by rw [upd_ne q]; exact e, n⟩⟩
theorem Gi.updX (g : Gi Z m H) (h : H p = some (DctO p xs)) (hz : ¬ zone Z p) : Gi Z m (L2.upd H p o) :=
  ⟨fun q hq => tab_neX h (g.tabs q hq), fun s b c e => by
    obtain ⟨gs, cs, l, t, h1, h2, h3, r⟩ := (g.rng s b c e).ex
    have n1 : s ≠ p := fun z => hz ⟨s, b, c, e, .inl z.symm⟩
    exact ⟨gs, cs, l, t, by rw [upd_ne n1]; exact h1, by rw [upd_ne (ne_of h2 h (by intro z; cases z))]; exact h2, by rw [upd_ne (ne_of h3 h (by intro z; cases z))]; exact h3, r⟩⟩
theorem Nv.pokeX (n : Nv Z m δ σ H) (z : Zok Z) (hO : Z.O p) (hz : ¬ zone Z p) (h0 : Fr0 Z.H0 p) (h : H p = some (DctO p xs)) (nt : Nt o) : Nv Z m δ σ (L2.upd H p o) := by
  have s : Stp (OO Z σ δ) H (L2.upd H p o) := .ownX (Or.inl hO) h nt
  refine ⟨n.len, fun i d q => ?_, fun i ds q => ?_, n.sep, n.gi.updX h hz, ?_, fun a q => ?_, fun q hq => Dn.stp s _ _ (n.gho q hq)⟩
  · obtain ⟨v, h1, h2⟩ := n.val i d q
    exact ⟨v, h1, Dn.stp s d v h2⟩
  · obtain ⟨a, vs, h1, h2, h3, h4, h5, h6⟩ := n.own i ds q
    exact ⟨a, vs, h1, by rw [upd_ne (fun e => h4 (by rw [e]; exact hO))]; exact h2, DnL.stp s ds vs h3, h4, h5, h6⟩
  · have ne : ∀ a ob, Z.H0 a = some ob → Nt ob → a ≠ p := fun a ob e nt' q => by rw [q] at e; obtain ⟨ps, z⟩ := h0 _ e; exact nt' ps z
    exact Stp.off n.stp ne
  · obtain ⟨o', e, nt'⟩ := n.trk a q
    by_cases ha : a = p
    · exact ⟨o, by rw [ha]; exact upd_same, nt⟩
    · exact ⟨o', by rw [upd_ne ha]; exact e, nt'⟩
/-- a slot that holds whatever -/
theorem Nv.blur {i : Nat} {x : Option V} (n : Nv Z m δ σ H) : Nv Z m (δ.set i .no) (σ.set i x) H := by
  have ne : ∀ {j : Nat} {s : Slot}, s ≠ .no → (δ.set i .no)[j]? = some s → i ≠ j ∧ δ[j]? = some s := by
    intro j s hs h
    by_cases hj : i = j
    · subst hj
      by_cases hl : i < δ.length
      · rw [List.getElem?_set_self hl] at h; cases h; exact absurd rfl hs
      · rw [List.getElem?_eq_none (by rw [List.length_set]; omega)] at h; cases h
    · rw [List.getElem?_set_ne hj] at h; exact ⟨hj, h⟩
  have sub : ∀ a, OO Z (σ.set i x) (δ.set i .no) a → OO Z σ δ a := by
    rintro a (h | ⟨j, ds, h1, h2⟩)
    · exact .inl h
    · obtain ⟨hj, h1⟩ := ne (by intro z; cases z) h1
      rw [List.getElem?_set_ne hj] at h2
      exact .inr ⟨j, ds, h1, h2⟩
  refine ⟨by rw [List.length_set, List.length_set]; exact n.len, fun j c h => ?_, fun j ds h => ?_, fun j l ds es a h1 h2 h3 h4 => ?_, n.gi, n.stp, n.trk, fun p hp => Dn.mono sub _ _ (n.gho p hp)⟩
  · obtain ⟨hj, h⟩ := ne (by intro z; cases z) h
    obtain ⟨w, h1, h2⟩ := n.val j c h
    exact ⟨w, by rw [List.getElem?_set_ne hj]; exact h1, Dn.mono sub c w h2⟩
  · obtain ⟨hj, h⟩ := ne (by intro z; cases z) h
    obtain ⟨a, vs, h1, h2, h3, h4⟩ := n.own j ds h
    exact ⟨a, vs, by rw [List.getElem?_set_ne hj]; exact h1, h2, DnL.mono sub ds vs h3, h4⟩
  · obtain ⟨hj, h1⟩ := ne (by intro z; cases z) h1
    obtain ⟨hl, h2⟩ := ne (by intro z; cases z) h2
    rw [List.getElem?_set_ne hj] at h3
    rw [List.getElem?_set_ne hl] at h4
    exact n.sep j l ds es a h1 h2 h3 h4
theorem Wp.slot {us : List Nat} {δ' : Env} {σ' : L2.St} {i : Nat} (w : Wp us δ δ' σ σ') (hi : i ∉ us) : δ'[i]? = δ[i]? ∧ σ'[i]? = σ[i]? := by
  have e1 := w.e us fun _ h => h
  have e2 := w.s us fun _ h => h
  exact ⟨by rw [← wipeE_out (δ := δ') hi, e1, wipeE_out hi], by rw [← wipe_out (σ := σ') hi, e2, wipe_out hi]⟩
end
section
variable {X : Cx} {st : Stmt} {T : TS}
/-- behind a statement an object is locked -/
def tLockB (T : TS) : TS := fun D σ H => T { D with nx := fun σ' H' => ∃ d u, H' d = some u ∧ Mut (some u) ∧ ∀ od, D.nx σ' (L2.upd H' d (.frz od u)) } σ H
theorem ps_lockB (h : PS X st T) : PS X st (tLockB T) := by
  refine ⟨fun pins s σ H D I q => wpAny_mono (h.run pins s σ H _ I q) (fun f s' hv => ?_) fun _ _ z => z⟩
  cases f with
  | next =>
    obtain ⟨σ', H', J, d, u, hd, mu, k⟩ := hv
    obtain ⟨od, J2⟩ := J.lock hd mu
    exact ⟨σ', _, J2, k od⟩
  | brk => exact hv
  | cont => exact hv
  | ret v => exact hv
end
end DL

namespace DL
open PySem L2 PySem.Spec PyProof.Rows
section
variable {L : Ls} {Z Z' : Zs} {X : Cx} {k : Nat} {ε : Nat → Str → Prop} {e tg iter tg1 iter1 key : Expr} {es : List Expr} {te : TD} {pos : Pos} {δ : Env} {σ : L2.St} {H H' Hb : Hp} {m : Nat}
abbrev kys (xs : List (List Int × Addr × Value)) : List (List Int) := xs.map (·.1)
/-- how it stands while the dict at p is filled: slot i holds it -/
structure Fil (Hb : Hp) (Z : Zs) (i : Nat) (p : Addr) (xs : List (List Int × Addr × Value)) (m : Nat) (δ : Env) (σ : L2.St) (H : Hp) : Prop where
  nv : Nv Z m δ σ H
  no : δ[i]? = some .no
  at_ : σ[i]? = some (some (.ref p))
  dct : H p = some (DctO p xs)
  keys : ∀ x ∈ xs, SqN Z.K H x.2.1 (x.1.map V.int)
  few : xs.length ≤ sizeLine
  old : Stp (zone Z) Hb H
theorem Fil.step {i : Nat} {p : Addr} {xs : List (List Int × Addr × Value)} {m' : Nat} {δ' : Env} {σ' : L2.St} {us : List Nat} (f : Fil Hb Z i p xs m δ σ H) (np : ¬ zone Z p) (s : Stp (zone Z) H H') (n : Nv Z m' δ' σ' H') (w : Wp us δ δ' σ σ') (hi : i ∉ us) : Fil Hb Z i p xs m' δ' σ' H' := by
  obtain ⟨e1, e2⟩ := w.slot hi
  exact ⟨n, by rw [e1]; exact f.no, by rw [e2]; exact f.at_, s.keep _ _ f.dct (fun _ z => nomatch z) np, fun x hx => s.sqN (f.keys x hx), f.few, f.old.trans s⟩
theorem Wp.refl {us : List Nat} : Wp us δ δ σ σ := ⟨fun _ _ => rfl, fun _ _ => rfl⟩
theorem Fil.gh {i : Nat} {p : Addr} {xs : List (List Int × Addr × Value)} {G : List (D × V)} (f : Fil Hb Z i p xs m δ σ H) (h : ∀ g ∈ G, Dn Z (OO Z σ δ) H g.1 g.2) : Fil Hb (Z.gh G) i p xs m δ σ H := ⟨f.nv.gh h, f.no, f.at_, f.dct, f.keys, f.few, by rw [(Ext.gh Z G).zone]; exact f.old⟩
theorem Fil.ungh {i : Nat} {p : Addr} {xs : List (List Int × Addr × Value)} {G : List (D × V)} (f : Fil Hb (Z.gh G) i p xs m δ σ H) : Fil Hb Z i p xs m δ σ H := ⟨(Ext.gh Z G).nv f.nv, f.no, f.at_, f.dct, f.keys, f.few, by have := f.old; rw [(Ext.gh Z G).zone] at this; exact this⟩
/-- the inner walk's turn: x[key] = True -/
theorem put_ok (F : XF L Z X k ε) {i : Nat} {x : Str} {p4 p5 p6 p7 : Pos} {j : Nat} {tk : TD} (hk : DE Z X key tk) (hN : X.N[i]? = some x) (hv : Vis X.env.scope x) (hd : (x == ("__debug__" : Str)) = false) (hcd : (x == ("__classdict__" : Str)) = false)
    (hs : swapsWith (.Constant (.bool true) j p6) (some (.Subscript (.Name x p4) key p5)) p7.line X.env = pure false) {p : Addr} {xs : List (List Int × Addr × Value)} (hO : Z.O p) (np : ¬ zone Z p) (h0 : Fr0 Z.H0 p) (hb0 : Fr0 Hb p) {R : Ends} {Q : Nat → Env → List (List Int) → Prop} (f : Fil Hb Z i p xs m δ σ H)
    (q : tk m δ fun m c => match c with | .tup cs => ∃ r, D.ints cs = some r ∧ (xs.map (·.1)).length < sizeLine ∧ Q m δ (addR (xs.map (·.1)) r) | _ => False)
    (r : ∀ m' ys H', Fil Hb Z i p ys m' δ σ H' → Q m' δ (ys.map (·.1)) → R.nx σ H') : cSs X [.Assign [.Subscript (.Name x p4) key p5] (.Constant (.bool true) j p6) p7] R σ H := by
  obtain ⟨T, pk, hT⟩ := hk.ex
  intro pins s I
  refine (pss_one (ps_putR F.hu (pe_var hN hv hd hcd) pk hs)).run pins s σ H R I ⟨.ref p, f.at_, hT m δ σ H _ _ f.nv q fun m' v d H4 n4 s4 d4 q4 => ?_⟩
  cases d <;> first | exact q4.elim | skip
  rename_i cs
  obtain ⟨row, er, hl, q4⟩ := q4
  rw [ints_map er] at d4
  obtain ⟨z, b, vs, rfl, t, l⟩ := dn_tupN.mp d4
  rw [l.ints] at t
  rw [List.length_map] at hl
  have f4 := f.step np s4 n4 (Wp.refl (us := [])) (by simp)
  refine ⟨p, b, row, xs, rfl, rfl, f4.dct, fun y hy => by rw [F.K]; exact f4.keys y hy, by rw [F.K]; exact t, hl, ?_⟩
  have n5 := f4.nv.pokeX (o := DctO p (PySem.storedH xs row b (.bool true))) F.zok hO np h0 f4.dct (fun _ z => nomatch z)
  have keep : ∀ (c : Addr) (us : List V), SqN Z.K H4 c us → SqN Z.K (L2.upd H4 p (DctO p (PySem.storedH xs row b (.bool true)))) c us := fun c us h => by
    rcases h with ⟨o, h, hd⟩ | h
    · exact .inl ⟨o, by rw [upd_ne (ne_of h f4.dct (by intro z; cases z))]; exact h, hd⟩
    · exact .inr h
  have ek : (PySem.storedH xs row b (.bool true)).map (·.1) = addR (xs.map (·.1)) row := storedH_keys
  refine r m' (PySem.storedH xs row b (.bool true)) _ ⟨n5, f4.no, f4.at_, upd_same, fun y hy => ?_, ?_, ?_⟩ (by rw [ek]; exact q4)
  · rcases storedH_at hy with ⟨w, hw, e1, e2⟩ | ⟨e1, e2⟩
    · rw [e1, e2]; exact keep _ _ (f4.keys w hw)
    · rw [e1, e2]; exact keep _ _ t
  · have : (PySem.storedH xs row b (.bool true)).length = ((PySem.storedH xs row b (.bool true)).map (·.1)).length := by rw [List.length_map]
    rw [this, ek]
    unfold addR
    split
    · rw [List.length_map]; omega
    · rw [List.length_append, List.length_map]; simp; omega
  · exact Stp.off f4.old fun a o e nt q => by rw [q] at e; obtain ⟨ps, z⟩ := hb0 _ e; exact nt ps z
/-- what the nest asks of the names -/
structure PutN (X : Cx) (i : Nat) (x : Str) (key : Expr) (p4 p5 p6 p7 : Pos) (j : Nat) : Prop where
  hN : X.N[i]? = some x
  hv : Vis X.env.scope x
  hd : (x == ("__debug__" : Str)) = false
  hcd : (x == ("__classdict__" : Str)) = false
  hs : swapsWith (.Constant (.bool true) j p6) (some (.Subscript (.Name x p4) key p5)) p7.line X.env = pure false
theorem in_ok (F : XF L Z X k ε) {i : Nat} {x : Str} {p4 p5 p6 p7 p8 : Pos} {j : Nat} {tk : TD} {τ1 : Tgt} {ti1 : TL} (hi1 : DI Z X tg1 iter1 ti1) (hg1 : PG X tg1 (hT X.K τ1)) (hk : ∀ Z', XF L Z' X k ε → DE Z' X key tk) (pn : PutN X i x key p4 p5 p6 p7 j)
    (hs1 : ∀ x, foldedSetIterable iter1 X.env x = pure x) (ni : i ∉ τ1.is) {p : Addr} {xs : List (List Int × Addr × Value)} (hO : Z.O p) (np : ¬ zone Z p) (h0 : Fr0 Z.H0 p) (hb0 : Fr0 Hb p) {R : Ends} {Q : Nat → Env → List (List Int) → Prop} (f : Fil Hb Z i p xs m δ σ H)
    (q : ti1 m δ fun m ds1 => rRowIn τ1 tk ds1 (xs.map (·.1)) m δ Q) (r : ∀ m' δ' σ' H' ys, Fil Hb Z i p ys m' δ' σ' H' → Q m' δ' (ys.map (·.1)) → R.nx σ' H') :
    cSs X [.For tg1 iter1 [.Assign [.Subscript (.Name x p4) key p5] (.Constant (.bool true) j p6) p7] [] p8] R σ H := by
  obtain ⟨wi, pi, hJ⟩ := hi1.ex
  intro pins s I
  refine (pss_one (ps_for F.pass F.calm pi hg1 (pss_c (X := X) (body := [.Assign [.Subscript (.Name x p4) key p5] (.Constant (.bool true) j p6) p7])) hs1)).run pins s σ H R I (hJ m δ σ H _ _ f.nv q fun m1 J H1 ds1 G1 n1 s1 hG it hz q1 => ?_)
  have f1 := f.step np s1 n1 (Wp.refl (us := [])) (by simp)
  have xg := Ext.gh Z G1
  have F' := F.ext xg
  have np' : ¬ zone (Z.gh G1) p := by rw [xg.zone]; exact np
  refine ⟨fun l w σ H => w = ds1.length - l ∧ l ≤ ds1.length ∧ ∃ (mm : Nat) (δ : Env) (xs : List (List Int × Addr × Value)), Fil Hb (Z.gh G1) i p xs mm δ σ H ∧ rRowIn τ1 tk (ds1.drop l) (kys xs) mm δ Q, ⟨ds1.length, rfl, Nat.zero_le _, m1, δ, xs, f1.gh hG, q1⟩, ?_⟩
  rintro l w σ' H' ⟨rfl, hl, mm, δ', xs, f', q'⟩
  have gG : ∀ g ∈ G1, Dn (Z.gh G1) (OO (Z.gh G1) σ' δ') H' g.1 g.2 := fun g hg => f'.nv.gho g (List.mem_append_left _ hg)
  by_cases hlt : l < ds1.length
  · have hd : ds1[l]? = some ds1[l] := List.getElem?_eq_getElem hlt
    obtain ⟨hgo, hy⟩ := it.go (Z.gh G1) _ H' l ds1[l] rfl rfl gG hd (fun a ha => f'.nv.fresh F'.zok ha)
    rw [List.drop_eq_getElem_cons hlt] at q'
    refine .inr ⟨hgo, fun σ2 H2 => ∃ (mm : Nat) (δ : Env) (xs : List (List Int × Addr × Value)), Fil Hb (Z.gh G1) i p xs mm δ σ2 H2 ∧ rRowIn τ1 tk (ds1.drop (l + 1)) (kys xs) mm δ Q, fun σ2 H2 z => ⟨ds1.length - (l + 1), by omega, rfl, hlt, z⟩, fun y H2 hyl => ?_⟩
    obtain ⟨sm, dx⟩ := hy y H2 hyl
    have f2 := f'.step np' (.same sm) (f'.nv.same F'.zok sm) (Wp.refl (us := [])) (by simp)
    rw [show X.K = (Z.gh G1).K from F.K]
    refine tgt_sem f2.nv dx q' fun δ3 σ3 n3 w3 q3 => ?_
    have f3 := f2.step np' (.refl _ _) n3 w3 ni
    exact put_ok F' (hk _ F') pn.hN pn.hv pn.hd pn.hcd pn.hs hO np' h0 hb0 (Q := fun m δ ks => rRowIn τ1 tk (ds1.drop (l + 1)) ks m δ Q) f3 q3 fun m' ys H' f q => ⟨m', δ3, ys, f, q⟩
  · have e : l = ds1.length := by omega
    subst e
    rw [List.drop_length] at q'
    exact .inl ⟨it.stop (Z.gh G1) _ H' rfl rfl gG, r mm δ' σ' H' xs f'.ungh q'⟩
theorem out_ok (F : XF L Z X k ε) {i : Nat} {x : Str} {p4 p5 p6 p7 p8 p9 : Pos} {j : Nat} {tk : TD} {τ τ1 : Tgt} {ti ti1 : TL} (hi : DI Z X tg iter ti) (hg : PG X tg (hT X.K τ)) (hi1 : ∀ Z', XF L Z' X k ε → DI Z' X tg1 iter1 ti1) (hg1 : PG X tg1 (hT X.K τ1)) (hk : ∀ Z', XF L Z' X k ε → DE Z' X key tk) (pn : PutN X i x key p4 p5 p6 p7 j)
    (hs : ∀ x, foldedSetIterable iter X.env x = pure x) (hs1 : ∀ x, foldedSetIterable iter1 X.env x = pure x) (ni : i ∉ τ.is) (ni1 : i ∉ τ1.is) {p : Addr} {xs : List (List Int × Addr × Value)} (hO : Z.O p) (np : ¬ zone Z p) (h0 : Fr0 Z.H0 p) (hb0 : Fr0 Hb p) {Q : Nat → Env → List (List Int) → Prop} (f : Fil Hb Z i p xs m δ σ H)
    (q : ti m δ fun m ds => rRowGo τ τ1 ti1 tk ds (xs.map (·.1)) m δ Q) :
    ∃ T, PS X (.For tg iter [.For tg1 iter1 [.Assign [.Subscript (.Name x p4) key p5] (.Constant (.bool true) j p6) p7] [] p8] [] p9) T ∧ ∀ R : Ends, (∀ m' δ' σ' H' ys, Fil Hb Z i p ys m' δ' σ' H' → Q m' δ' (ys.map (·.1)) → R.nx σ' H') → T R σ H := by
  obtain ⟨wi, pi, hJ⟩ := hi.ex
  refine ⟨_, ps_for F.pass F.calm pi hg (pss_c (X := X) (body := [.For tg1 iter1 [.Assign [.Subscript (.Name x p4) key p5] (.Constant (.bool true) j p6) p7] [] p8])) hs, fun R r => hJ m δ σ H _ _ f.nv q fun m1 J H1 ds G n1 s1 hG it hz q1 => ?_⟩
  have f1 := f.step np s1 n1 (Wp.refl (us := [])) (by simp)
  have xg := Ext.gh Z G
  have F' := F.ext xg
  have np' : ¬ zone (Z.gh G) p := by rw [xg.zone]; exact np
  refine ⟨fun l w σ H => w = ds.length - l ∧ l ≤ ds.length ∧ ∃ (mm : Nat) (δ : Env) (xs : List (List Int × Addr × Value)), Fil Hb (Z.gh G) i p xs mm δ σ H ∧ rRowGo τ τ1 ti1 tk (ds.drop l) (kys xs) mm δ Q, ⟨ds.length, rfl, Nat.zero_le _, m1, δ, xs, f1.gh hG, q1⟩, ?_⟩
  rintro l w σ' H' ⟨rfl, hl, mm, δ', xs, f', q'⟩
  have gG : ∀ g ∈ G, Dn (Z.gh G) (OO (Z.gh G) σ' δ') H' g.1 g.2 := fun g hg => f'.nv.gho g (List.mem_append_left _ hg)
  by_cases hlt : l < ds.length
  · have hd : ds[l]? = some ds[l] := List.getElem?_eq_getElem hlt
    obtain ⟨hgo, hy⟩ := it.go (Z.gh G) _ H' l ds[l] rfl rfl gG hd (fun a ha => f'.nv.fresh F'.zok ha)
    rw [List.drop_eq_getElem_cons hlt] at q'
    refine .inr ⟨hgo, fun σ2 H2 => ∃ (mm : Nat) (δ : Env) (xs : List (List Int × Addr × Value)), Fil Hb (Z.gh G) i p xs mm δ σ2 H2 ∧ rRowGo τ τ1 ti1 tk (ds.drop (l + 1)) (kys xs) mm δ Q, fun σ2 H2 z => ⟨ds.length - (l + 1), by omega, rfl, hlt, z⟩, fun y H2 hyl => ?_⟩
    obtain ⟨sm, dx⟩ := hy y H2 hyl
    have f2 := f'.step np' (.same sm) (f'.nv.same F'.zok sm) (Wp.refl (us := [])) (by simp)
    rw [show X.K = (Z.gh G).K from F.K]
    refine tgt_sem f2.nv dx q' fun δ3 σ3 n3 w3 q3 => ?_
    have f3 := f2.step np' (.refl _ _) n3 w3 ni
    exact in_ok F' (hi1 _ F') hg1 hk pn hs1 ni1 hO np' h0 hb0 (Q := fun m δ ks => rRowGo τ τ1 ti1 tk (ds.drop (l + 1)) ks m δ Q) f3 q3 fun m' δ' σ' H' ys f q => ⟨m', δ', ys, f, q⟩
  · have e : l = ds.length := by omega
    subst e
    rw [List.drop_length] at q'
    exact .inl ⟨it.stop (Z.gh G) _ H' rfl rfl gG, r mm δ' σ' H' xs f'.ungh q'⟩
/-- x = {}; for tg in iter: for tg1 in iter1: x[key] = True; and what follows: the dict stands still from there on -/
theorem dss_rows (F : XF L Z X k ε) (i : Nat) (τ τ1 : Tgt) {x : Str} {p1 p2 p3 p4 p5 p6 p7 p8 p9 : Pos} {j : Nat} {tk : TD} {ti ti1 : TL} {u : TSd} {rest : List Stmt} (hi : ∀ Z', XF L Z' X k ε → DI Z' X tg iter ti) (hg : PG X tg (hT X.K τ)) (hi1 : ∀ Z', XF L Z' X k ε → DI Z' X tg1 iter1 ti1) (hg1 : PG X tg1 (hT X.K τ1)) (hk : ∀ Z', XF L Z' X k ε → DE Z' X key tk) (hu : DSs Z X rest u)
    (hN : X.N[i]? = some x := by rfl) (hv : Vis X.env.scope x := by first | exact Or.inl rfl | exact Or.inr (Or.inl rfl) | exact Or.inr (Or.inr rfl)) (hx : Loc X.env.scope x := by first | exact Or.inl rfl | exact Or.inr rfl) (hd : (x == ("__debug__" : Str)) = false := by decide) (hcd : (x == ("__classdict__" : Str)) = false := by decide)
    (hsw : swapsWith (.Dict [] [] p2) (some (.Name x p1)) p3.line X.env = pure false := by rfl) (hsp : swapsWith (.Constant (.bool true) j p6) (some (.Subscript (.Name x p4) key p5)) p7.line X.env = pure false := by rfl) (hf : X.fn x = true ∨ X.env.scope.names.lookup x = some .local := by first | exact .inl rfl | exact .inr rfl)
    (hs : ∀ x, foldedSetIterable iter X.env x = pure x := by intro _; rfl) (hs1 : ∀ x, foldedSetIterable iter1 X.env x = pure x := by intro _; rfl) (ni : i ∉ τ.is := by decide) (ni1 : i ∉ τ1.is := by decide) :
    DSs Z X (.Assign [.Name x p1] (.Dict [] [] p2) p3 :: .For tg iter [.For tg1 iter1 [.Assign [.Subscript (.Name x p4) key p5] (.Constant (.bool true) j p6) p7] [] p8] [] p9 :: rest) (rRows i τ ti τ1 ti1 tk u) := by
  refine ⟨_, pss_cons (ps_set F.nd hN hx pe_dnewR hsw hf) (pss_c (X := X) (body := .For tg iter [.For tg1 iter1 [.Assign [.Subscript (.Name x p4) key p5] (.Constant (.bool true) j p6) p7] [] p8] [] p9 :: rest)), fun m δ σ H B R n q o => ?_⟩
  intro p hp pins s I
  have np : ¬ OO Z σ δ p := n.fresh F.zok hp
  have h0 : Fr0 Z.H0 p := n.h0 hp
  have nzp : ¬ zone Z p := fun z => np (.inl (F.zok.zo p z))
  have xp := Ext.plus Z p h0
  have Fp := F.ext xp
  have zp : zone (Z.plus p) = zone Z := xp.zone
  have hb0 : Fr0 H p := fun o z => by rw [hp] at z; cases z
  have il : i < σ.length := by
    have e1 := I.len
    rw [List.length_set] at e1
    rw [e1]
    exact (List.getElem?_eq_some_iff.mp hN).1
  have f0 : Fil H (Z.plus p) i p [] m (δ.set i .no) (σ.set i (some (.ref p))) (L2.upd H p (DctO p [])) :=
    ⟨(n.plus F.zok hp (nt := by intro _ z; unfold DctO at z; cases z)).blur, List.getElem?_set_self (by rw [← n.len]; exact il), List.getElem?_set_self il, upd_same, fun x hx => (by cases hx), Nat.zero_le _, by rw [zp]; exact .same (same_upd hp)⟩
  obtain ⟨T, pT, hTT⟩ := out_ok Fp (hi _ Fp) hg hi1 hg1 hk (p8 := p8) (p9 := p9) (⟨hN, hv, hd, hcd, hsp⟩ : PutN X i x key p4 p5 p6 p7 j) hs hs1 ni ni1 (Or.inr rfl) (by rw [zp]; exact nzp) h0 hb0 (Q := fun m δ ks => u B m (δ.set i (.val (.dcs ks)))) f0 q
  refine (pss_cons (ps_lockB pT) (pss_c (X := X) (body := rest))).run pins s _ _ R I (hTT _ fun m' δ' σ' H' ys f hq => ⟨p, DctO p ys, f.dct, True.intro, fun od => ?_⟩)
  intro pins2 s2 I2
  have n2 := xp.nv (f.nv.pokeX (o := .frz od (DctO p ys)) Fp.zok (Or.inr rfl) (by rw [zp]; exact nzp) h0 f.dct (fun _ z => nomatch z))
  have keep : ∀ (c : Addr) (us : List V), SqN Z.K H' c us → SqN Z.K (L2.upd H' p (.frz od (DctO p ys))) c us := fun c us h => by
    rcases h with ⟨o, h, hd⟩ | h
    · exact .inl ⟨o, by rw [upd_ne (ne_of h f.dct (by intro z; unfold DctO at z; cases z))]; exact h, hd⟩
    · exact .inr h
  have n3 := n2.setV (i := i) (d := .dcs (kys ys)) (v := .ref p) (dn_dcs.mpr ⟨p, ys, od, rfl, upd_same, rfl, fun y hy => keep _ _ (f.keys y hy)⟩)
  have es : σ'.set i (some (V.ref p)) = σ' := by
    have hl : i < σ'.length := (List.getElem?_eq_some_iff.mp f.at_).1
    refine List.ext_getElem? fun l => ?_
    by_cases h : i = l
    · subst h; rw [List.getElem?_set_self hl, f.at_]
    · rw [List.getElem?_set_ne h]
  rw [es] at n3
  exact hu.run n3 hq o I2
end
end DL

/-! zip of two things of any kind: what is asked of their iterators -/
namespace DL
open PySem L2 PySem.Spec PyProof.Rows RZ
/-- the iterator at i goes through xs, which stand at l; J k: it stands ahead of the k-th -/
structure Nxt (P : Program) (w : World) (i l : Addr) (xs : Array Value) (J : Nat → Heap → Prop) : Prop where
  stay : ∀ {k : Nat} {h h' : Heap}, J k h → (∀ o, h.get? i = some o → h'.get? i = some o) → (∀ o, h.get? l = some o → h'.get? l = some o) → J k h'
  item : ∀ {A : Around} {E : Value → Shared → Prop} {s : Shared} {k : Nat} {x : Value} {Q : Value → Shared → Prop}, J k s.heap → xs[k]? = some x → (∀ h', J (k + 1) h' → Heap.SameBut i s.heap h' → Q x { s with heap := h' }) → wpAny (model P w) A (Builtin.SmallTypes.nextOf (.ref i)) Q E s
  last : ∀ {A : Around} {E : Value → Shared → Prop} {s : Shared} {k : Nat} {Q : Value → Shared → Prop}, A.handled = none → J k s.heap → xs[k]? = none → (∀ h' e, Heap.ExtBut i s.heap h' → (∃ o, h'.get? e = some o ∧ o.cls = .type "StopIteration") → E (.ref e) { s with heap := h' }) → wpAny (model P w) A (Builtin.SmallTypes.nextOf (.ref i)) Q E s
  obj : ∀ {k : Nat} {h : Heap}, J k h → ∃ o, h.get? i = some o ∧ ∀ v, o.data ≠ .cell v
def jT (i l : Addr) (xs : Array Value) : Nat → Heap → Prop := fun k h => h.IsTupleIter i l k ∧ h.IsTuple l xs
def jL (i l : Addr) (xs : Array Value) : Nat → Heap → Prop := fun k h => h.IsListIter i l k ∧ h.IsList l xs
theorem nxt_T {P : Program} {w : World} {i l : Addr} {xs : Array Value} (hil : l ≠ i) : Nxt P w i l xs (jT i l xs) where
  stay := fun ⟨a, b⟩ hi hl => ⟨a.at hi, let ⟨o, ho, r⟩ := b; ⟨o, hl o ho, r⟩⟩
  item := fun ⟨a, b⟩ hx q => nextOf_tuple_item a b hx fun h' a' sb => q h' ⟨a', let ⟨o, ho, r⟩ := b; ⟨o, sb.extBut _ _ hil ho, r⟩⟩ sb
  last := fun hh ⟨a, b⟩ hx q => nextOf_tuple_end hh a b hx q
  obj := fun ⟨⟨o, e, _, d⟩, _⟩ => ⟨o, e, fun v q => by rw [d] at q; cases q⟩
theorem nxt_L {P : Program} {w : World} {i l : Addr} {xs : Array Value} (hil : l ≠ i) : Nxt P w i l xs (jL i l xs) where
  stay := fun ⟨a, b⟩ hi hl => ⟨a.at hi, let ⟨o, ho, r⟩ := b; ⟨o, hl o ho, r⟩⟩
  item := fun ⟨a, b⟩ hx q => wpAny_nextOf_list_item a b hx fun h' a' sb => q h' ⟨a', let ⟨o, ho, r⟩ := b; ⟨o, sb.extBut _ _ hil ho, r⟩⟩ sb
  last := fun hh ⟨a, b⟩ hx q => wpAny_nextOf_list_end hh a b hx q
  obj := fun ⟨⟨o, e, _, d⟩, _⟩ => ⟨o, e, fun v q => by rw [d] at q; cases q⟩
section
variable {P : Program} {w : World} {A : Around} {E : Value → Shared → Prop} {s : Shared} {z TI TO i1 i2 l1 l2 : Addr} {k1 k2 : Nat} {xs ys : Array Value} {J1 J2 : Nat → Heap → Prop} {a b : Value}
/-- zip's own turn, both have an item -/
theorem zipN_item {x y : Value} {Q : Value → Shared → Prop} (N1 : Nxt P w i1 l1 xs J1) (N2 : Nxt P w i2 l2 ys J2) (D : ZipApart z TI TO i1 i2 l1 l2) (hz : IsZip s.heap z TI TO .none) (hTI : IsPair s.heap TI (.ref i1) (.ref i2)) (hTO : IsPair s.heap TO a b) (h1 : J1 k1 s.heap) (h2 : J2 k2 s.heap) (hx : xs[k1]? = some x) (hy : ys[k2]? = some y)
    (hQ : ∀ h', IsZip h' z TI TO (rawInt s.heap.objs.size) → IsPair h' TO x y → J1 (k1 + 1) h' → J2 (k2 + 1) h' → IsPair h' s.heap.objs.size x y → h'.objs.size = s.heap.objs.size + 1 → (∀ c o, c ≠ z → c ≠ TO → c ≠ i1 → c ≠ i2 → s.heap.get? c = some o → h'.get? c = some o) → Q (.ref s.heap.objs.size) { s with heap := h' }) :
    wpAny (model P w) A (Builtin.«zip.__next__» ⟨[.ref z], []⟩) (fun fin s' => ∃ v, fin = .done (.ret v) ∧ Q v s') E s := by
  show wpAny _ _ (field (.ref z) 2 >>= _) _ _ _; refine wpAny_bind (wpAny_field hz rfl (x := .bool false) rfl ?_)
  show wpAny _ _ (field (.ref z) 3 >>= _) _ _ _; refine wpAny_bind (wpAny_field hz rfl (x := .ref TI) rfl (wpAny_bind (wpAny_seqItems hTI rfl ?_)))
  show wpAny _ _ (Builtin.SmallTypes.ownedTupleIsFree (.ref z) >>= _) _ _ _; refine wpAny_bind ?_; unfold Builtin.SmallTypes.ownedTupleIsFree
  refine wpAny_bind (wpAny_field hz rfl (x := .none) rfl (wpAny_pure ?_)); simp only [if_true]
  refine wpAny_bind (wpAny_rule (wpAny_bind (wpAny_field hz rfl (x := .ref TO) rfl (wpAny_bind (wpAny_setField_rec hz (by simp) fun g1 z1 s1 => ?_)))))
  replace z1 : IsZip g1 z TI TO .ellipsis := z1
  refine wpAny_bind ?_; simp only [List.zipIdx_cons, List.zipIdx_nil, List.forIn_cons, List.forIn_nil]
  -- the first item
  refine wpAny_bind (wpAny_bind (wpAny_onRaise ?_)); show wpAny _ _ (Builtin.SmallTypes.nextOf (.ref i1) >>= _) _ _ _
  refine wpAny_bind (N1.item (N1.stay h1 (fun o e => s1.extBut _ _ D.i1z e) fun o e => s1.extBut _ _ D.l1z e) hx fun g2 a2 s2 => wpAny_pure ?_)
  have t2 : IsPair g2 TO a b := s2.extBut _ _ D.TOi1 (s1.extBut _ _ D.TOz hTO)
  refine wpAny_bind (wpAny_seqItems t2 rfl (wpAny_bind (wpAny_updateSeq_pair t2 fun g3 t3 s3 => wpAny_bind (wpAny_letGo (wpAny_pure ?_)))))
  replace t3 : IsPair g3 TO x b := t3
  -- the second
  refine wpAny_bind (wpAny_bind (wpAny_onRaise ?_)); show wpAny _ _ (Builtin.SmallTypes.nextOf (.ref i2) >>= _) _ _ _
  refine wpAny_bind (N2.item (N2.stay h2 (fun o e => s3.extBut _ _ D.TOi2.symm (s2.extBut _ _ D.i12.symm (s1.extBut _ _ D.i2z e))) fun o e => s3.extBut _ _ D.l2TO (s2.extBut _ _ D.l2i1 (s1.extBut _ _ D.l2z e))) hy fun g4 a4 s4 => wpAny_pure ?_)
  have t4 : IsPair g4 TO x b := s4.extBut _ _ D.TOi2 t3
  refine wpAny_bind (wpAny_seqItems t4 rfl (wpAny_bind (wpAny_updateSeq_pair t4 fun g5 t5 s5 => wpAny_bind (wpAny_letGo (wpAny_pure (wpAny_pure ?_))))))
  replace t5 : IsPair g5 TO x y := t5
  refine wpAny_bind (wpAny_seqItems t5 rfl (wpAny_bind (wpAny_newTuple ?_)))
  have size5 : g5.objs.size = s.heap.objs.size := by rw [s5.1, s4.1, s3.1, s2.1, s1.1]
  have z5 : IsZip g5 z TI TO .ellipsis := s5.extBut _ _ D.TOz.symm (s4.extBut _ _ D.i2z.symm (s3.extBut _ _ D.TOz.symm (s2.extBut _ _ D.i1z.symm z1)))
  have k5 : ∀ c o, c ≠ z → c ≠ TO → c ≠ i1 → c ≠ i2 → s.heap.get? c = some o → g5.get? c = some o := fun c o c1 c2 c3 c4 e => s5.extBut _ _ c2 (s4.extBut _ _ c4 (s3.extBut _ _ c2 (s2.extBut _ _ c3 (s1.extBut _ _ c1 e))))
  have j1 : J1 (k1 + 1) g5 := N1.stay a2 (fun o e => s5.extBut _ _ D.TOi1.symm (s4.extBut _ _ D.i12 (s3.extBut _ _ D.TOi1.symm e))) fun o e => s5.extBut _ _ D.l1TO (s4.extBut _ _ D.l1i2 (s3.extBut _ _ D.l1TO e))
  have j2 : J2 (k2 + 1) g5 := N2.stay a4 (fun o e => s5.extBut _ _ D.TOi2.symm e) fun o e => s5.extBut _ _ D.l2TO e
  have zl : z < g5.objs.size := Heap.lt_size z5
  show wpAny _ _ (Builtin.SmallTypes.ownedTupleHandOut (.ref z) (.ref g5.objs.size) >>= _) _ _ _; refine wpAny_bind ?_; unfold Builtin.SmallTypes.ownedTupleHandOut
  have z6 : IsZip (g5.push { cls := .type "tuple", data := .seq #[x, y] }) z TI TO .ellipsis := Heap.get?_push_of_some _ z5
  refine wpAny_bind (wpAny_setField_rec z6 (by simp) fun g7 z7 s7 => ?_)
  replace z7 : IsZip g7 z TI TO (rawInt g5.objs.size) := z7
  refine wpAny_setField_rec z7 (by simp) fun g8 z8 s8 => ?_
  replace z8 : IsZip g8 z TI TO (rawInt g5.objs.size) := z8
  have up : ∀ c o, c ≠ z → g5.get? c = some o → g8.get? c = some o := fun c o c1 e => s8.extBut _ _ c1 (s7.extBut _ _ c1 (Heap.get?_push_of_some _ e))
  have t8 : IsPair g8 g5.objs.size x y := s8.extBut _ _ (Nat.ne_of_gt zl) (s7.extBut _ _ (Nat.ne_of_gt zl) (Heap.get?_push_size _ rfl))
  have size8 : g8.objs.size = g5.objs.size + 1 := by rw [s8.1, s7.1, Heap.size_push]
  rw [size5] at z8 t8 size8
  refine wpAny_pure ⟨_, rfl, ?_⟩; show Q (.ref g5.objs.size) _; rw [size5]
  exact hQ g8 z8 (up _ _ D.TOz t5) (N1.stay j1 (fun o e => up _ o D.i1z e) fun o e => up _ o D.l1z e) (N2.stay j2 (fun o e => up _ o D.i2z e) fun o e => up _ o D.l2z e) t8 size8 fun c o c1 c2 c3 c4 e => up c o c1 (k5 c o c1 c2 c3 c4 e)
/-- .. one has come to its end -/
theorem zipN_last {Q : Fin → Shared → Prop} (N1 : Nxt P w i1 l1 xs J1) (N2 : Nxt P w i2 l2 ys J2) (hh : A.handled = none) (D : ZipApart z TI TO i1 i2 l1 l2) (hz : IsZip s.heap z TI TO .none) (hTI : IsPair s.heap TI (.ref i1) (.ref i2)) (hTO : IsPair s.heap TO a b) (h1 : J1 k1 s.heap) (h2 : J2 k2 s.heap) (hend : xs[k1]? = none ∨ ys[k2]? = none)
    (hE : ∀ h' e, (∀ c o, c ≠ z → c ≠ TO → c ≠ i1 → c ≠ i2 → s.heap.get? c = some o → h'.get? c = some o) → (∃ o, h'.get? e = some o ∧ o.cls = .type "StopIteration") → E (.ref e) { s with heap := h' }) : wpAny (model P w) A (Builtin.«zip.__next__» ⟨[.ref z], []⟩) Q E s := by
  show wpAny _ _ (field (.ref z) 2 >>= _) _ _ _; refine wpAny_bind (wpAny_field hz rfl (x := .bool false) rfl ?_)
  show wpAny _ _ (field (.ref z) 3 >>= _) _ _ _; refine wpAny_bind (wpAny_field hz rfl (x := .ref TI) rfl (wpAny_bind (wpAny_seqItems hTI rfl ?_)))
  show wpAny _ _ (Builtin.SmallTypes.ownedTupleIsFree (.ref z) >>= _) _ _ _; refine wpAny_bind ?_; unfold Builtin.SmallTypes.ownedTupleIsFree
  refine wpAny_bind (wpAny_field hz rfl (x := .none) rfl (wpAny_pure ?_)); simp only [if_true]
  refine wpAny_bind (wpAny_rule (wpAny_bind (wpAny_field hz rfl (x := .ref TO) rfl (wpAny_bind (wpAny_setField_rec hz (by simp) fun g1 z1 s1 => ?_)))))
  replace z1 : IsZip g1 z TI TO .ellipsis := z1
  refine wpAny_bind ?_; simp only [List.zipIdx_cons, List.zipIdx_nil, List.forIn_cons, List.forIn_nil]
  refine wpAny_bind (wpAny_bind (wpAny_onRaise ?_)); show wpAny _ _ (Builtin.SmallTypes.nextOf (.ref i1) >>= _) _ _ _
  have j1 := N1.stay h1 (fun o e => s1.extBut _ _ D.i1z e) fun o e => s1.extBut _ _ D.l1z e
  cases hx : xs[k1]? with
  | none =>
    refine wpAny_bind (N1.last hh j1 hx fun g2 e s2 ⟨oe, hoe, hce⟩ => ?_)
    have z2 : IsZip g2 z TI TO .ellipsis := s2 _ _ D.i1z.symm z1
    have ez : e ≠ z := fun q => by rw [q, z2] at hoe; cases hoe; simp at hce
    exact wpAny_setField_rec z2 (by simp) fun g3 _ s3 => hE g3 e (fun c o c1 _ c3 _ q => s3.extBut _ _ c1 (s2 _ _ c3 (s1.extBut _ _ c1 q))) ⟨oe, s3.extBut _ _ ez hoe, hce⟩
  | some x =>
    have hy : ys[k2]? = none := hend.resolve_left fun q => by rw [hx] at q; cases q
    refine wpAny_bind (N1.item j1 hx fun g2 a2 s2 => wpAny_pure ?_)
    have t2 : IsPair g2 TO a b := s2.extBut _ _ D.TOi1 (s1.extBut _ _ D.TOz hTO)
    refine wpAny_bind (wpAny_seqItems t2 rfl (wpAny_bind (wpAny_updateSeq_pair t2 fun g3 t3 s3 => wpAny_bind (wpAny_letGo (wpAny_pure ?_)))))
    refine wpAny_bind (wpAny_bind (wpAny_onRaise ?_)); show wpAny _ _ (Builtin.SmallTypes.nextOf (.ref i2) >>= _) _ _ _
    refine wpAny_bind (N2.last hh (N2.stay h2 (fun o e => s3.extBut _ _ D.TOi2.symm (s2.extBut _ _ D.i12.symm (s1.extBut _ _ D.i2z e))) fun o e => s3.extBut _ _ D.l2TO (s2.extBut _ _ D.l2i1 (s1.extBut _ _ D.l2z e))) hy fun g4 e s4 ⟨oe, hoe, hce⟩ => ?_)
    have z4 : IsZip g4 z TI TO .ellipsis := s4 _ _ D.i2z.symm (s3.extBut _ _ D.TOz.symm (s2.extBut _ _ D.i1z.symm z1))
    have ez : e ≠ z := fun q => by rw [q, z4] at hoe; cases hoe; simp at hce
    exact wpAny_setField_rec z4 (by simp) fun g5 _ s5 => hE g5 e (fun c o c1 c2 c3 c4 q => s5.extBut _ _ c1 (s4 _ _ c4 (s3.extBut _ _ c2 (s2.extBut _ _ c3 (s1.extBut _ _ c1 q))))) ⟨oe, s5.extBut _ _ ez hoe, hce⟩
end
end DL

namespace DL
open PySem L2 PySem.Spec PyProof.Rows RZ
section
variable {P : Program} {w : World} {A : Around} {E : Value → Shared → Prop} {s : Shared} {z TI TO i1 i2 l1 l2 : Addr} {k1 k2 : Nat} {xs ys : Array Value} {J1 J2 : Nat → Heap → Prop} {a b : Value}
theorem nextN_item {x y : Value} {Q : Option Value → Shared → Prop} (N1 : Nxt P w i1 l1 xs J1) (N2 : Nxt P w i2 l2 ys J2) (D : ZipApart z TI TO i1 i2 l1 l2) (hz : IsZip s.heap z TI TO .none) (hTI : IsPair s.heap TI (.ref i1) (.ref i2)) (hTO : IsPair s.heap TO a b) (h1 : J1 k1 s.heap) (h2 : J2 k2 s.heap) (hx : xs[k1]? = some x) (hy : ys[k2]? = some y)
    (hQ : ∀ h', IsZip h' z TI TO (rawInt s.heap.objs.size) → IsPair h' TO x y → J1 (k1 + 1) h' → J2 (k2 + 1) h' → IsPair h' s.heap.objs.size x y → h'.objs.size = s.heap.objs.size + 1 → (∀ c o, c ≠ z → c ≠ TO → c ≠ i1 → c ≠ i2 → s.heap.get? c = some o → h'.get? c = some o) → Q (some (.ref s.heap.objs.size)) { s with heap := h' }) :
    wpAny (model P w) A (pyNext (.ref z)) Q E s := by
  have hT : s.TypeIs (.ref z) "zip" := ⟨_, hz, rfl⟩
  unfold pyNext
  exact wpAny_bind (wpAny_attempt (wpAny_callSpecial?_slot (name := Str.ofString "__next__") hT F.slot_zip_next (wpAny_call_entry F.slot_zip_next hT F.entry_zip_next (zipN_item N1 N2 D hz hTI hTO h1 h2 hx hy fun h' a1 a2 a3 a4 a5 a6 a7 => wpAny_pure (hQ h' a1 a2 a3 a4 a5 a6 a7)) (F.args_zip_next_1 _))))
theorem nextN_last {Q : Option Value → Shared → Prop} (N1 : Nxt P w i1 l1 xs J1) (N2 : Nxt P w i2 l2 ys J2) (hh : A.handled = none) (D : ZipApart z TI TO i1 i2 l1 l2) (hz : IsZip s.heap z TI TO .none) (hTI : IsPair s.heap TI (.ref i1) (.ref i2)) (hTO : IsPair s.heap TO a b) (h1 : J1 k1 s.heap) (h2 : J2 k2 s.heap) (hend : xs[k1]? = none ∨ ys[k2]? = none)
    (hQ : ∀ h', (∀ c o, c ≠ z → c ≠ TO → c ≠ i1 → c ≠ i2 → s.heap.get? c = some o → h'.get? c = some o) → Q none { s with heap := h' }) : wpAny (model P w) A (pyNext (.ref z)) Q E s := by
  have hT : s.TypeIs (.ref z) "zip" := ⟨_, hz, rfl⟩
  unfold pyNext
  refine wpAny_bind (wpAny_attempt (wpAny_callSpecial?_slot (name := Str.ofString "__next__") hT F.slot_zip_next (wpAny_call_entry F.slot_zip_next hT F.entry_zip_next (zipN_last N1 N2 hh D hz hTI hTO h1 h2 hend fun h' e hk he => ?_) (F.args_zip_next_1 _))))
  obtain ⟨o, ho, hc⟩ := he
  exact wpAny_bind (wpAny_isInstance (T := "StopIteration") (b := true) ⟨o, ho, hc⟩ isSubtype_stop (wpAny_pure (hQ _ hk)))
/-- zip(a tuple, a list) is made -/
abbrev zM1 (h : Heap) (l1 : Addr) : Heap := h.push { cls := .type "tuple_iterator", data := .fields #[.ref l1, .int 0 0] }
abbrev zM2 (h : Heap) (l1 l2 : Addr) : Heap := (zM1 h l1).push { cls := .type "list_iterator", data := .fields #[.ref l2, .int 0 0] }
abbrev zM3 (h : Heap) (l1 l2 : Addr) : Heap := (zM2 h l1 l2).push { cls := .type "tuple", data := .seq #[.ref h.objs.size, .ref (zM1 h l1).objs.size] }
abbrev zM4 (h : Heap) (l1 l2 : Addr) : Heap := (zM3 h l1 l2).push { cls := .type "tuple", data := .seq #[.none, .none] }
abbrev zM5 (h : Heap) (l1 l2 : Addr) : Heap := (zM4 h l1 l2).push { cls := .type "zip", data := .fields #[.none, .bool false, .bool false, .ref (zM2 h l1 l2).objs.size, .ref (zM3 h l1 l2).objs.size] }
theorem meets_zipM (l1 l2 : Addr) (xs ys : Array Value) : Meets (Builtin.«zip.__new__» ⟨[.type "zip", .ref l1, .ref l2], []⟩) (fun _ R s => s.heap.IsTuple l1 xs ∧ s.heap.IsList l2 ys ∧ R (.ok (.ret (.ref (zM4 s.heap l1 l2).objs.size))) { s with heap := zM5 s.heap l1 l2 }) :=
  .of_wp fun prog w A R s h => by
    obtain ⟨hp, g, d, tk, os⟩ := s; obtain ⟨hl1, hl2, h⟩ := h
    have hsub := sub_zip
    have c1 : Heap.IsTuple (Shared.heap ⟨hp, g, d, tk, os⟩) l1 xs := hl1
    have c2 : Heap.IsList (Shared.heap ⟨hp.push { cls := .type "tuple_iterator", data := .fields #[.ref l1, .int 0 0] }, g, d, tk, os⟩) l2 ys := Heap.IsList.push hl2 _
    wp_walk using wpAny_pyIter_tuple c1, wpAny_pyIter_list c2
    exact ⟨_, rfl, h⟩
theorem call_zipM {Q : Value → Shared → Prop} (hl1 : s.heap.IsTuple l1 xs) (hl2 : s.heap.IsList l2 ys)
    (h : ∀ h', IsZip h' (s.heap.objs.size + 4) (s.heap.objs.size + 2) (s.heap.objs.size + 3) .none → IsPair h' (s.heap.objs.size + 2) (.ref s.heap.objs.size) (.ref (s.heap.objs.size + 1)) → IsPair h' (s.heap.objs.size + 3) .none .none → h'.IsTupleIter s.heap.objs.size l1 0 → h'.IsListIter (s.heap.objs.size + 1) l2 0 →
      (∀ c o, s.heap.get? c = some o → h'.get? c = some o) → Q (.ref (s.heap.objs.size + 4)) { s with heap := h' }) : wpAny (model P w) A (call (.type "zip") [.ref l1, .ref l2]) Q E s := by
  refine callType_new F.called_zip (by decide) (F.typeCall_zip_2 _ _) (F.newCall_zip_2 _ _) (fun obj => F.args_object_init_3 obj _ _) F.entry_zip_new (meets_zipM l1 l2 xs ys) ⟨hl1, hl2, ?_⟩
  have e1 : (zM1 s.heap l1).objs.size = s.heap.objs.size + 1 := Heap.size_push ..
  have e2 : (zM2 s.heap l1 l2).objs.size = s.heap.objs.size + 2 := by rw [Heap.size_push, e1]
  have e3 : (zM3 s.heap l1 l2).objs.size = s.heap.objs.size + 3 := by rw [Heap.size_push, e2]
  have e4 : (zM4 s.heap l1 l2).objs.size = s.heap.objs.size + 4 := by rw [Heap.size_push, e3]
  have up : ∀ {h : Heap} {o : Obj} {c : Addr} {q : Obj}, h.get? c = some q → (h.push o).get? c = some q := fun e => Heap.get?_push_of_some _ e
  have g5 : (zM5 s.heap l1 l2).get? (zM4 s.heap l1 l2).objs.size = some _ := Heap.get?_push_size _ rfl
  have g4 : (zM5 s.heap l1 l2).get? (zM3 s.heap l1 l2).objs.size = some _ := up (Heap.get?_push_size _ rfl)
  have g3 : (zM5 s.heap l1 l2).get? (zM2 s.heap l1 l2).objs.size = some _ := up (up (Heap.get?_push_size _ rfl))
  have g2 : (zM5 s.heap l1 l2).get? (zM1 s.heap l1).objs.size = some _ := up (up (up (Heap.get?_push_size _ rfl)))
  have g1 : (zM5 s.heap l1 l2).get? s.heap.objs.size = some _ := up (up (up (up (Heap.get?_push_size _ rfl))))
  show _ ∧ _
  rw [e2, e3, e4] at g5
  rw [e1, e2] at g3
  rw [e3] at g4
  rw [e1] at g2
  rw [e4]
  exact ⟨⟨_, g5, rfl⟩, h _ g5 g3 g4 ⟨_, g1, rfl, rfl⟩ ⟨_, g2, rfl, rfl⟩ fun c o q => up (up (up (up (up q))))⟩
end
end DL

namespace DL
open PySem L2 PySem.Spec PyProof.Rows RZ
/-- the tuple at a and the list at b, as they stand at each turn -/
def ItzM (K : PySem.W.Frag) (a b : Addr) : It :=
  ⟨fun i H => ∃ (xs ys : List V) (x y : V), SqT K H a xs ∧ SqL K H b ys ∧ xs[i]? = some x ∧ ys[i]? = some y,
    fun i H v H' => ∃ T x y, v = .ref T ∧ H T = none ∧ H' = upd H T (.tup [x, y]) ∧ (∀ xs, SqT K H a xs → xs[i]? = some x) ∧ ∀ ys, SqL K H b ys → ys[i]? = some y,
    fun i H => ∃ xs ys : List V, SqT K H a xs ∧ SqL K H b ys ∧ (xs.length ≤ i ∨ ys.length ≤ i)⟩
theorem turn_zipM {P : Program} {w : World} {K : PySem.W.Frag} {elts : List Expr} {kk : Nat} {tpos : Pos} {a b z TI TO i1 i2 : Addr} (D : ZipApart z TI TO i1 i2 a b) :
    Turn P w K (.Tuple elts kk tpos) (ItzM K a b) [z, TI, TO, i1, i2] z (fun i h => IsZip h z TI TO .none ∧ IsPair h TI (.ref i1) (.ref i2) ∧ (∃ x y, IsPair h TO x y) ∧ h.IsTupleIter i1 a i ∧ h.IsListIter i2 b i) where
  mem := by simp
  obj := fun i h st c hc => by
    obtain ⟨hz, hTI, ⟨x, y, hTO⟩, ⟨o1, e1, _, d1⟩, ⟨o2, e2, _, d2⟩⟩ := st
    have five : c = z ∨ c = TI ∨ c = TO ∨ c = i1 ∨ c = i2 := by simpa using hc
    rcases five with rfl | rfl | rfl | rfl | rfl
    · exact ⟨_, hz, fun v q => nomatch q⟩
    · exact ⟨_, hTI, fun v q => nomatch q⟩
    · exact ⟨_, hTO, fun v q => nomatch q⟩
    · exact ⟨o1, e1, fun v q => by rw [d1] at q; cases q⟩
    · exact ⟨o2, e2, fun v q => by rw [d2] at q; cases q⟩
  keep := fun i h h' st k => by
    obtain ⟨hz, hTI, ⟨x, y, hTO⟩, h1, h2⟩ := st
    exact ⟨k z (by simp) _ hz, k TI (by simp) _ hTI, ⟨x, y, k TO (by simp) _ hTO⟩, h1.at fun o q => k i1 (by simp) o q, h2.at fun o q => k i2 (by simp) o q⟩
  item := by
    intro X hP hw hK hc i pins s σ H E I hf st hg
    subst hP hw hK
    obtain ⟨hz, hTI, ⟨x0, y0, hTO⟩, h1, h2⟩ := st
    obtain ⟨xs, ys, x, y, hqx, hqy, hx, hy⟩ := hg
    obtain ⟨its, rv, p, _⟩ := I.tuple hqx
    obtain ⟨its2, rv2, p2, _⟩ := I.list hqy
    obtain ⟨u, hu, ru⟩ := rv.get hx
    obtain ⟨u2, hu2, ru2⟩ := rv2.get hy
    have zl : z < s.heap.objs.size := Heap.lt_size hz
    refine nextN_item (nxt_T D.l1i1) (nxt_L D.l2i2) D hz hTI hTO (⟨h1, p⟩ : jT i1 a its.toArray i s.heap) (⟨h2, p2.isList⟩ : jL i2 b its2.toArray i s.heap) (x := u) (y := u2) (by simpa using hu) (by simpa using hu2) fun h' z' TO' j1 j2 hT hsz hk => ?_
    obtain ⟨h1', _⟩ := j1
    obtain ⟨h2', _⟩ := j2
    refine ⟨_, rfl, wpAny_letOwnedTupleGo_zip (s := { s with heap := h' }) z' fun h'' z'' sb => ?_⟩
    have hT2 : h''.get? s.heap.objs.size = some { cls := .type "tuple", data := .seq #[u, u2] } := (sb.2 _ (Nat.ne_of_gt zl)).trans hT
    have laid : ObjOk X.prog X.w (upd H s.heap.objs.size (.tup [x, y])) h'' s.heap.objs.size (.tup [x, y]) := ⟨by show 2 ≤ sizeLine; decide, [u, u2], .cons ru (.cons ru2 .nil), ⟨_, hT2, rfl, _, rfl⟩⟩
    have out : ∀ {c : Addr} {o : Obj}, c ∉ [z, TI, TO, i1, i2] → s.heap.get? c = some o → h''.get? c = some o := fun {c o} hb q => by
      simp only [List.mem_cons, List.not_mem_nil, or_false, not_or] at hb
      exact (sb.2 c hb.1).trans (hk c o hb.1 hb.2.2.1 hb.2.2.2.1 hb.2.2.2.2 q)
    have I1 : Inv X pins σ (upd H s.heap.objs.size (.tup [x, y])) { s with heap := h'' } := I.turnedNew (t' := s.toks) (ch := [z, TI, TO, i1, i2]) (fun c o hb q => out hb q) hf (Nat.le_refl _) laid
    refine ⟨.ref s.heap.objs.size, _, I1, rfl, ⟨_, x, y, rfl, I.hok.fresh (Nat.le_refl _), rfl, fun l hl => by rw [I.tuple_inj hl hqx]; exact hx, fun l hl => by rw [I.list_inj hl hqy]; exact hy⟩, ⟨z'', (sb.2 _ D.TIz).trans (hk _ _ D.TIz D.TITO D.TIi1 D.TIi2 hTI), ⟨u, u2, (sb.2 _ D.TOz).trans TO'⟩, h1'.at fun o q => (sb.2 _ D.i1z).trans q, h2'.at fun o q => (sb.2 _ D.i2z).trans q⟩, fun c hcm => ?_⟩
    have hlt : c < s.heap.objs.size := by
      have five : c = z ∨ c = TI ∨ c = TO ∨ c = i1 ∨ c = i2 := by simpa using hcm
      rcases five with rfl | rfl | rfl | rfl | rfl
      · exact zl
      · exact Heap.lt_size hTI
      · exact Heap.lt_size hTO
      · obtain ⟨_, e1, _⟩ := h1; exact Heap.lt_size e1
      · obtain ⟨_, e2, _⟩ := h2; exact Heap.lt_size e2
    rw [upd_ne (Nat.ne_of_lt hlt)]
    exact (hf c hcm).1
  done := by
    intro X hP hw hK hc i pins s σ H E I hf st hg
    subst hP hw hK
    obtain ⟨hz, hTI, ⟨x0, y0, hTO⟩, h1, h2⟩ := st
    obtain ⟨xs, ys, hqx, hqy, hend⟩ := hg
    obtain ⟨its, rv, p, _⟩ := I.tuple hqx
    obtain ⟨its2, rv2, p2, _⟩ := I.list hqy
    have l1 := rv.length
    have l2 := rv2.length
    have he : its.toArray[i]? = none ∨ its2.toArray[i]? = none := hend.imp (fun q => by simp; omega) fun q => by simp; omega
    refine nextN_last (nxt_T D.l1i1) (nxt_L D.l2i2) (I.ok.hd hc) D hz hTI hTO (⟨h1, p⟩ : jT i1 a its.toArray i s.heap) (⟨h2, p2.isList⟩ : jL i2 b its2.toArray i s.heap) he fun h' hk => ⟨rfl, I.turnedL (t' := s.toks) (ch := [z, TI, TO, i1, i2]) (fun c o hb q => ?_) hf⟩
    simp only [List.mem_cons, List.not_mem_nil, or_false, not_or] at hb
    exact hk c o hb.1 hb.2.2.1 hb.2.2.2.1 hb.2.2.2.2 q
  self := fun A i s Q E st h => wpAny_pyIter_zip st.1 h
/-- zip of two lists, two tuples, a tuple and a list -/
def iZipM (K : PySem.W.Frag) (ta : TA) : TI := fun σ H R => ta σ H fun vs H1 => ∃ a b xs ys, vs = [.ref a, .ref b] ∧ SqT K H1 a xs ∧ SqL K H1 b ys ∧ R (ItzM K a b) H1
theorem pi_zipM {X : Cx} {e e2 : Expr} {ta : TA} {p pos tpos : Pos} {elts : List Expr} {kk : Nat} (hg : Gl X "zip") (hm : X.mg "zip" = none) (ha : PA X [e, e2] ta) (hs : starEach [e, e2] X.env = (false, eval e X.env) :: starEach [e2] X.env := by rfl) (hpl : (backTo pos (starEach [e2] X.env)).any (·.1) = false := by rfl) :
    PI X (.Tuple elts kk tpos) (.Call (.Name "zip" p) [e, e2] [] pos) (iZipM X.K ta) := by
  refine ⟨fun pins s σ H R I h => Call_ (ld_blt I hg hm PyProof.Rows.boot_zip (PyProof.Rows.callWith_type1 (thn (ha.run pos pins s σ H _ I h) ?_) hs hpl))⟩
  rintro us s1 ⟨vs, H1, I1, r1, a, b, xs, ys, rfl, hqx, hqy, q⟩
  obtain ⟨v1, v2, rfl, q1, q2⟩ := vals2 r1
  cases q1; cases q2
  obtain ⟨its, rv, p1, _⟩ := I1.tuple hqx
  obtain ⟨its2, rv2, p2, _⟩ := I1.list hqy
  obtain ⟨o1, ho1, _⟩ := id p1
  refine call_zipM (show s1.heap.IsTuple a its.toArray from p1) p2.isList fun h' hz hTI hTO h1 h2 hk => wpAny_pyIter_zip hz ?_
  refine ⟨s1.heap.objs.size + 4, [s1.heap.objs.size + 4, s1.heap.objs.size + 2, s1.heap.objs.size + 3, s1.heap.objs.size, s1.heap.objs.size + 1], _, _, H1, rfl, I1.kept (t' := s1.toks) hk, turn_zipM (PySem.W.ktu_apart s1.heap.objs.size a b (Heap.lt_size ho1) p2.lt), ⟨hz, hTI, ⟨_, _, hTO⟩, h1, h2⟩, fun c hcm => ?_, q⟩
  have hle : s1.heap.objs.size ≤ c := by
    simp only [List.mem_cons, List.not_mem_nil, or_false] at hcm
    rcases hcm with rfl | rfl | rfl | rfl | rfl <;> first | exact Nat.le_add_right _ _ | exact Nat.le_refl _
  exact I1.fpOk hle (I1.hok.fresh hle)
section
variable {L : Ls} {Z Z' : Zs} {X : Cx} {k : Nat} {ε : Nat → Str → Prop} {e : Expr} {es : List Expr} {te : TD} {tg iter : Expr} {pos : Pos} {δ : Env} {σ : L2.St} {H H' : Hp}
theorem itzM_D {a b : Addr} {as bs : List D} {v w : V} (hv : v = .ref a) (hw : w = .ref b) {L : Ls} {st : Option (Addr × Addr × Addr)} {K : PySem.W.Frag} (hK : K = L.K) : ItD L st (ItzM K a b) (zipD as bs) [(.tup as, v), (.lst bs, w)] where
  stop := fun Z P H hL hs h => by
    obtain ⟨z, c, vs, e, t, l⟩ := dn_tupT (h _ List.mem_cons_self)
    rw [hv] at e; cases e
    obtain ⟨z', c', vs', e', p', t', l'⟩ := dn_lst.mp (h _ (List.mem_cons_of_mem _ List.mem_cons_self))
    rw [hw] at e'; cases e'
    rw [Zs.K, hL, ← hK] at t
    refine ⟨vs, vs', t, SqL_inj t', ?_⟩
    rw [l.length, l'.length, zipD_length]
    omega
  go := fun Z P H i d hL hs h hi hp => by
    obtain ⟨z, c, vs, e, t, l⟩ := dn_tupT (h _ List.mem_cons_self)
    rw [hv] at e; cases e
    obtain ⟨z', c', vs', e', p', t', l'⟩ := dn_lst.mp (h _ (List.mem_cons_of_mem _ List.mem_cons_self))
    rw [hw] at e'; cases e'
    rw [Zs.K, hL, ← hK] at t
    obtain ⟨x, y, h1, h2, rfl⟩ := zipD_get hi
    obtain ⟨x', hx, dx⟩ := l.get h1
    obtain ⟨y', hy, dy⟩ := l'.get h2
    refine ⟨⟨vs, vs', x', y', t, SqL_inj t', hx, hy⟩, fun q H' y => ?_⟩
    obtain ⟨T, u, w, e, hT, e2, y1, y2⟩ := y
    subst e e2
    have e1 := y1 vs t
    have e2 := y2 vs' (SqL_inj t')
    rw [hx] at e1; cases e1
    rw [hy] at e2; cases e2
    exact ⟨same_upd hT, pair_new dx dy hT⟩
@[simp] def rZipM (t : TL) : TL := fun m δ Q => t m δ fun m ds => match ds with | [.tup as, .lst bs] => Q m (zipD as bs) | _ => False
theorem di_zipM (F : XF L Z X k ε) {a b : Expr} {elts : List Expr} {kk : Nat} {tpos : Pos} {t : TL} {p : Pos} (ha : DA Z X [a, b] t) (hm : X.mg "zip" = none) (hg : Gl X "zip" := by rfl) (hs : starEach [a, b] X.env = (false, eval a X.env) :: starEach [b] X.env := by rfl) (hpl : (backTo pos (starEach [b] X.env)).any (·.1) = false := by rfl) :
    DI Z X (.Tuple elts kk tpos) (.Call (.Name "zip" p) [a, b] [] pos) (rZipM t) := by
  obtain ⟨T, pa, h⟩ := ha.ex
  refine ⟨_, pi_zipM hg hm pa hs hpl, fun m δ σ H Q R n q r => h m δ σ H _ _ n q fun m vs ds H1 n1 s1 d1 q1 => ?_⟩
  have hK : X.K = Z.L.K := F.K
  split at q1
  · rename_i as bs
    obtain ⟨v, w, rfl, hv, hw⟩ := d1.two
    obtain ⟨z, c, vs, e, t, l⟩ := dn_tupT hv
    obtain ⟨z', c', vs', e', p', t', l'⟩ := dn_lst.mp hw
    refine ⟨c, c', vs, vs', by rw [e, e'], by rw [hK]; exact t, SqL_inj t', r _ _ H1 _ [(.tup as, v), (.lst bs, w)] n1 s1 (fun p hp => ?_) (itzM_D e e' hK) (by rw [zipD_length]; omega) q1⟩
    rcases List.mem_cons.mp hp with rfl | hp
    · exact hv
    · cases List.mem_singleton.mp hp; exact hw
  · exact q1.elim
end
end DL

namespace DL
open PySem L2 PySem.Spec PyProof.Rows
section
variable {L : Ls} {Z Z' : Zs} {X : Cx} {k : Nat} {ε : Nat → Str → Prop}
/-! ### in, not in: data of any depth in a tuple or a list -/
def rInTD (K : PySem.W.Frag) : R2 := fun x y H Q => ∃ d ds, Dp K H x d ∧ Dp K H y (.tuple ds) ∧ SeqAt.shaped d = true ∧ SeqAt.shaped (.tuple ds) = true ∧ Q (.bl (ds.any fun z => PyData.eqv z d)) H
def rNinTD (K : PySem.W.Frag) : R2 := fun x y H Q => ∃ d ds, Dp K H x d ∧ Dp K H y (.tuple ds) ∧ SeqAt.shaped d = true ∧ SeqAt.shaped (.tuple ds) = true ∧ Q (.bl (!ds.any fun z => PyData.eqv z d)) H
theorem op_inTD (hu : X.A.units + 65 < cLine) : OpR X (compareOp .In) (rInTD X.K) := by
  intro pins s σ H x y v u Q I rx ry ⟨d, ds, hd, he, sd, se, q⟩
  obtain ⟨as, r1⟩ := Dp.reads I d x v hd rx
  obtain ⟨bs, r2⟩ := Dp.reads I (.tuple ds) y u he ry
  have cs := SeqAt.canLay_of_shaped se
  unfold PyData.canLay0 at cs
  exact SeqAt.in_tuple_reads r2 r1 cs (SeqAt.canLay_of_shaped sd) (room_in_shaped sd hu) ⟨.bl _, H, I, rfl, q⟩
theorem op_ninTD (hu : X.A.units + 65 < cLine) : OpR X (compareOp .NotIn) (rNinTD X.K) := by
  intro pins s σ H x y v u Q I rx ry ⟨d, ds, hd, he, sd, se, q⟩
  obtain ⟨as, r1⟩ := Dp.reads I d x v hd rx
  obtain ⟨bs, r2⟩ := Dp.reads I (.tuple ds) y u he ry
  have cs := SeqAt.canLay_of_shaped se
  unfold PyData.canLay0 at cs
  exact SeqAt.notIn_tuple_reads r2 r1 cs (SeqAt.canLay_of_shaped sd) (room_in_shaped sd hu) ⟨.bl _, H, I, rfl, q⟩
@[simp] def dInD : D → D → (D → Prop) → Prop
  | d, .tup ds, Q => d.shp = true ∧ (D.tup ds).shp = true ∧ Q (.bl (ds.any fun c => c.eqv d))
  | d, .lst ds, Q => d.shp = true ∧ (D.lst ds).shp = true ∧ Q (.bl (ds.any fun c => c.eqv d))
  | _, _, _ => False
@[simp] def dNinD : D → D → (D → Prop) → Prop
  | d, .tup ds, Q => d.shp = true ∧ (D.tup ds).shp = true ∧ Q (.bl (!ds.any fun c => c.eqv d))
  | d, .lst ds, Q => d.shp = true ∧ (D.lst ds).shp = true ∧ Q (.bl (!ds.any fun c => c.eqv d))
  | _, _, _ => False
theorem any_pyL (d : D) : ∀ ds : List D, (D.pyL ds).any (fun z => PyData.eqv z d.py) = ds.any fun c => c.eqv d
  | [] => by simp [D.pyL]
  | c :: ds => by
    unfold D.pyL
    rw [List.any_cons, List.any_cons, any_pyL d ds]
    rfl
theorem o_inD (F : XF L Z X k ε) : BinD Z X (compareOp .In) dInD := by
  refine ⟨_, OpR.or (op_inTD F.hu65) (op_inD F.hu65), fun P H x y d e Q R hp hd he h q => ?_⟩
  unfold dInD at h
  split at h
  · rename_i ds
    have pe := dp_of F.K (.tup ds) y he (SeqAt.canLay_of_shaped h.2.1)
    unfold D.py at pe
    refine .inl ⟨_, _, dp_of F.K d x hd (SeqAt.canLay_of_shaped h.1), pe, h.1, ?_, ?_⟩
    · have := h.2.1; unfold D.shp D.py at this; exact this
    · rw [any_pyL]
      exact q _ _ H (Same.refl _) (dn_bl.mpr rfl) h.2.2
  · rename_i ds
    have pe := dp_of F.K (.lst ds) y he (SeqAt.canLay_of_shaped h.2.1)
    unfold D.py at pe
    refine .inr ⟨_, _, dp_of F.K d x hd (SeqAt.canLay_of_shaped h.1), pe, h.1, ?_, ?_⟩
    · have := h.2.1; unfold D.shp D.py at this; exact this
    · rw [any_pyL]
      exact q _ _ H (Same.refl _) (dn_bl.mpr rfl) h.2.2
  · exact h.elim
theorem o_ninD (F : XF L Z X k ε) : BinD Z X (compareOp .NotIn) dNinD := by
  refine ⟨_, OpR.or (op_ninTD F.hu65) (op_notInD F.hu65), fun P H x y d e Q R hp hd he h q => ?_⟩
  unfold dNinD at h
  split at h
  · rename_i ds
    have pe := dp_of F.K (.tup ds) y he (SeqAt.canLay_of_shaped h.2.1)
    unfold D.py at pe
    refine .inl ⟨_, _, dp_of F.K d x hd (SeqAt.canLay_of_shaped h.1), pe, h.1, ?_, ?_⟩
    · have := h.2.1; unfold D.shp D.py at this; exact this
    · rw [any_pyL]
      exact q _ _ H (Same.refl _) (dn_bl.mpr rfl) h.2.2
  · rename_i ds
    have pe := dp_of F.K (.lst ds) y he (SeqAt.canLay_of_shaped h.2.1)
    unfold D.py at pe
    refine .inr ⟨_, _, dp_of F.K d x hd (SeqAt.canLay_of_shaped h.1), pe, h.1, ?_, ?_⟩
    · have := h.2.1; unfold D.shp D.py at this; exact this
    · rw [any_pyL]
      exact q _ _ H (Same.refl _) (dn_bl.mpr rfl) h.2.2
  · exact h.elim
end
end DL

/-! zip whose last pair is kept: its next turn; list(zip(..)) -/
namespace DL
open PySem L2 PySem.Spec PyProof.Rows RZ
section
variable {P : Program} {w : World} {A : Around} {E : Value → Shared → Prop} {s : Shared} {z TI TO T i1 i2 l1 l2 : Addr} {k1 k2 : Nat} {xs ys : Array Value} {J1 J2 : Nat → Heap → Prop} {f : Bool} {oT : Obj}
theorem zipH_item {x y : Value} {Q : Value → Shared → Prop} (N1 : Nxt P w i1 l1 xs J1) (N2 : Nxt P w i2 l2 ys J2) (D : ZipApart z TI TO i1 i2 l1 l2) (hz : IsZipHeld s.heap z TI TO T f) (hT : s.heap.get? T = some oT) (hTI : IsPair s.heap TI (.ref i1) (.ref i2)) (h1 : J1 k1 s.heap) (h2 : J2 k2 s.heap) (hx : xs[k1]? = some x) (hy : ys[k2]? = some y)
    (hQ : ∀ h', IsZipHeld h' z TI TO T true → J1 (k1 + 1) h' → J2 (k2 + 1) h' → IsPair h' s.heap.objs.size x y → h'.objs.size = s.heap.objs.size + 1 → (∀ c o, c ≠ z → c ≠ i1 → c ≠ i2 → s.heap.get? c = some o → h'.get? c = some o) → Q (.ref s.heap.objs.size) { s with heap := h' }) :
    wpAny (model P w) A (Builtin.«zip.__next__» ⟨[.ref z], []⟩) (fun fin s' => ∃ v, fin = .done (.ret v) ∧ Q v s') E s := by
  show wpAny _ _ (field (.ref z) 2 >>= _) _ _ _
  refine wpAny_bind (wpAny_field hz rfl (x := .bool false) rfl ?_)
  show wpAny _ _ (field (.ref z) 3 >>= _) _ _ _
  refine wpAny_bind (wpAny_field hz rfl (x := .ref TI) rfl ?_)
  refine wpAny_bind (wpAny_seqItems hTI rfl ?_)
  show wpAny _ _ (Builtin.SmallTypes.ownedTupleIsFree (.ref z) >>= _) _ _ _
  refine wpAny_bind (wpAny_tupleHeld_zip hz hT fun g1 z1 s1 => ?_)
  simp only [Bool.false_eq_true, if_false]
  refine wpAny_bind ?_
  rw [← Array.forIn_toList]
  simp only [List.forIn_cons, List.forIn_nil]
  refine wpAny_bind (wpAny_bind (wpAny_holding ?_))
  show wpAny _ _ (Builtin.SmallTypes.nextOf (.ref i1) >>= _) _ _ _
  refine wpAny_bind (N1.item (s := { s with heap := g1 }) (N1.stay h1 (fun o e => s1.extBut _ _ D.i1z e) fun o e => s1.extBut _ _ D.l1z e) hx fun g2 a2 s2 => wpAny_pure ?_)
  refine wpAny_pure ?_
  refine wpAny_bind (wpAny_bind (wpAny_holding ?_))
  show wpAny _ _ (Builtin.SmallTypes.nextOf (.ref i2) >>= _) _ _ _
  refine wpAny_bind (N2.item (s := { s with heap := g2 }) (N2.stay h2 (fun o e => s2.extBut _ _ D.i12.symm (s1.extBut _ _ D.i2z e)) fun o e => s2.extBut _ _ D.l2i1 (s1.extBut _ _ D.l2z e)) hy fun g3 a3 s3 => wpAny_pure ?_)
  refine wpAny_pure (wpAny_pure ?_)
  show wpAny _ _ (newTuple [x, y] >>= _) _ _ _
  refine wpAny_bind (wpAny_newTuple ?_)
  have hsz : g3.objs.size = s.heap.objs.size := by rw [s3.1, s2.1, s1.1]
  have z3 : IsZipHeld g3 z TI TO T true := s3.extBut _ _ D.i2z.symm (s2.extBut _ _ D.i1z.symm z1)
  have hk : ∀ c o, c ≠ z → c ≠ i1 → c ≠ i2 → s.heap.get? c = some o → g3.get? c = some o := fun c o c1 c2 c3 e => s3.extBut _ _ c3 (s2.extBut _ _ c2 (s1.extBut _ _ c1 e))
  have j1 : J1 (k1 + 1) g3 := N1.stay a2 (fun o e => s3.extBut _ _ D.i12 e) fun o e => s3.extBut _ _ D.l1i2 e
  refine wpAny_pure ⟨_, rfl, ?_⟩
  show Q (.ref g3.objs.size) _
  have hp : IsPair (g3.push { cls := .type "tuple", data := .seq #[x, y] }) g3.objs.size x y := Heap.get?_push_size _ rfl
  have sz4 : (g3.push { cls := .type "tuple", data := .seq #[x, y] }).objs.size = g3.objs.size + 1 := Heap.size_push ..
  rw [hsz] at hp sz4 ⊢
  exact hQ _ (Heap.get?_push_of_some _ z3) (N1.stay j1 (fun o e => Heap.get?_push_of_some _ e) fun o e => Heap.get?_push_of_some _ e) (N2.stay a3 (fun o e => Heap.get?_push_of_some _ e) fun o e => Heap.get?_push_of_some _ e) hp sz4 fun c o c1 c2 c3 e => Heap.get?_push_of_some _ (hk c o c1 c2 c3 e)
theorem zipH_last {Q : Fin → Shared → Prop} (N1 : Nxt P w i1 l1 xs J1) (N2 : Nxt P w i2 l2 ys J2) (hh : A.handled = none) (D : ZipApart z TI TO i1 i2 l1 l2) (hz : IsZipHeld s.heap z TI TO T f) (hT : s.heap.get? T = some oT) (hTI : IsPair s.heap TI (.ref i1) (.ref i2)) (h1 : J1 k1 s.heap) (h2 : J2 k2 s.heap) (hend : xs[k1]? = none ∨ ys[k2]? = none)
    (hE : ∀ h' e, (∀ c o, c ≠ z → c ≠ i1 → c ≠ i2 → s.heap.get? c = some o → h'.get? c = some o) → (∃ o, h'.get? e = some o ∧ o.cls = .type "StopIteration") → E (.ref e) { s with heap := h' }) :
    wpAny (model P w) A (Builtin.«zip.__next__» ⟨[.ref z], []⟩) Q E s := by
  show wpAny _ _ (field (.ref z) 2 >>= _) _ _ _
  refine wpAny_bind (wpAny_field hz rfl (x := .bool false) rfl ?_)
  show wpAny _ _ (field (.ref z) 3 >>= _) _ _ _
  refine wpAny_bind (wpAny_field hz rfl (x := .ref TI) rfl ?_)
  refine wpAny_bind (wpAny_seqItems hTI rfl ?_)
  show wpAny _ _ (Builtin.SmallTypes.ownedTupleIsFree (.ref z) >>= _) _ _ _
  refine wpAny_bind (wpAny_tupleHeld_zip hz hT fun g1 z1 s1 => ?_)
  simp only [Bool.false_eq_true, if_false]
  refine wpAny_bind ?_
  rw [← Array.forIn_toList]
  simp only [List.forIn_cons, List.forIn_nil]
  refine wpAny_bind (wpAny_bind (wpAny_holding ?_))
  show wpAny _ _ (Builtin.SmallTypes.nextOf (.ref i1) >>= _) _ _ _
  have j1 := N1.stay h1 (fun o e => s1.extBut _ _ D.i1z e) fun o e => s1.extBut _ _ D.l1z e
  cases hx : xs[k1]? with
  | none =>
    refine wpAny_bind (N1.last (s := { s with heap := g1 }) hh j1 hx fun g2 e s2 he => ?_)
    exact hE g2 e (fun c o c1 c2 _ x => s2 _ _ c2 (s1.extBut _ _ c1 x)) he
  | some x =>
    have hy : ys[k2]? = none := hend.resolve_left fun q => by rw [hx] at q; cases q
    refine wpAny_bind (N1.item (s := { s with heap := g1 }) j1 hx fun g2 a2 s2 => wpAny_pure ?_)
    refine wpAny_pure ?_
    refine wpAny_bind (wpAny_bind (wpAny_holding ?_))
    show wpAny _ _ (Builtin.SmallTypes.nextOf (.ref i2) >>= _) _ _ _
    refine wpAny_bind (N2.last (s := { s with heap := g2 }) hh (N2.stay h2 (fun o e => s2.extBut _ _ D.i12.symm (s1.extBut _ _ D.i2z e)) fun o e => s2.extBut _ _ D.l2i1 (s1.extBut _ _ D.l2z e)) hy fun g3 e s3 he => ?_)
    exact hE g3 e (fun c o c1 c2 c3 x => s3 _ _ c3 (s2.extBut _ _ c2 (s1.extBut _ _ c1 x))) he
theorem nextH_item {x y : Value} {Q : Option Value → Shared → Prop} (N1 : Nxt P w i1 l1 xs J1) (N2 : Nxt P w i2 l2 ys J2) (D : ZipApart z TI TO i1 i2 l1 l2) (hz : IsZipHeld s.heap z TI TO T f) (hT : s.heap.get? T = some oT) (hTI : IsPair s.heap TI (.ref i1) (.ref i2)) (h1 : J1 k1 s.heap) (h2 : J2 k2 s.heap) (hx : xs[k1]? = some x) (hy : ys[k2]? = some y)
    (hQ : ∀ h', IsZipHeld h' z TI TO T true → J1 (k1 + 1) h' → J2 (k2 + 1) h' → IsPair h' s.heap.objs.size x y → h'.objs.size = s.heap.objs.size + 1 → (∀ c o, c ≠ z → c ≠ i1 → c ≠ i2 → s.heap.get? c = some o → h'.get? c = some o) → Q (some (.ref s.heap.objs.size)) { s with heap := h' }) :
    wpAny (model P w) A (pyNext (.ref z)) Q E s := by
  have hTy : s.TypeIs (.ref z) "zip" := ⟨_, hz, rfl⟩
  unfold pyNext
  exact wpAny_bind (wpAny_attempt (wpAny_callSpecial?_slot (name := Str.ofString "__next__") hTy F.slot_zip_next (wpAny_call_entry F.slot_zip_next hTy F.entry_zip_next (zipH_item N1 N2 D hz hT hTI h1 h2 hx hy fun h' a1 a3 a4 a5 a6 a7 => wpAny_pure (hQ h' a1 a3 a4 a5 a6 a7)) (F.args_zip_next_1 _))))
theorem nextH_last {Q : Option Value → Shared → Prop} (N1 : Nxt P w i1 l1 xs J1) (N2 : Nxt P w i2 l2 ys J2) (hh : A.handled = none) (D : ZipApart z TI TO i1 i2 l1 l2) (hz : IsZipHeld s.heap z TI TO T f) (hT : s.heap.get? T = some oT) (hTI : IsPair s.heap TI (.ref i1) (.ref i2)) (h1 : J1 k1 s.heap) (h2 : J2 k2 s.heap) (hend : xs[k1]? = none ∨ ys[k2]? = none)
    (hQ : ∀ h', (∀ c o, c ≠ z → c ≠ i1 → c ≠ i2 → s.heap.get? c = some o → h'.get? c = some o) → Q none { s with heap := h' }) : wpAny (model P w) A (pyNext (.ref z)) Q E s := by
  have hTy : s.TypeIs (.ref z) "zip" := ⟨_, hz, rfl⟩
  unfold pyNext
  refine wpAny_bind (wpAny_attempt (wpAny_callSpecial?_slot (name := Str.ofString "__next__") hTy F.slot_zip_next (wpAny_call_entry F.slot_zip_next hTy F.entry_zip_next (zipH_last N1 N2 hh D hz hT hTI h1 h2 hend fun h' e hk he => ?_) (F.args_zip_next_1 _))))
  obtain ⟨o, ho, hc⟩ := he
  exact wpAny_bind (wpAny_isInstance (T := "StopIteration") (b := true) ⟨o, ho, hc⟩ isSubtype_stop (wpAny_pure (hQ _ hk)))
/-- how the zip stands ahead of its k-th turn, all pairs kept -/
def ZAt (h : Heap) (z TI TO : Addr) : Prop := (IsZip h z TI TO .none ∧ ∃ a b, IsPair h TO a b) ∨ ∃ T f oT, IsZipHeld h z TI TO T f ∧ h.get? T = some oT ∧ T ≠ z ∧ T ≠ TO ∧ ∃ oO, h.get? TO = some oO
theorem zat_item {x y : Value} {Q : Option Value → Shared → Prop} (N1 : Nxt P w i1 l1 xs J1) (N2 : Nxt P w i2 l2 ys J2) (D : ZipApart z TI TO i1 i2 l1 l2) (hz : ZAt s.heap z TI TO) (hTI : IsPair s.heap TI (.ref i1) (.ref i2)) (h1 : J1 k1 s.heap) (h2 : J2 k2 s.heap) (hx : xs[k1]? = some x) (hy : ys[k2]? = some y)
    (hQ : ∀ h', ZAt h' z TI TO → IsPair h' TI (.ref i1) (.ref i2) → J1 (k1 + 1) h' → J2 (k2 + 1) h' → IsPair h' s.heap.objs.size x y → h'.objs.size = s.heap.objs.size + 1 → (∀ c o, c ≠ z → c ≠ TO → c ≠ i1 → c ≠ i2 → s.heap.get? c = some o → h'.get? c = some o) → Q (some (.ref s.heap.objs.size)) { s with heap := h' }) :
    wpAny (model P w) A (pyNext (.ref z)) Q E s := by
  rcases hz with ⟨hz, a, b, hTO⟩ | ⟨T, f, oT, hz, hT, hTz, hTO, oO, hOO⟩
  · have zl : z < s.heap.objs.size := Heap.lt_size hz
    have tl : TO < s.heap.objs.size := Heap.lt_size hTO
    refine nextN_item N1 N2 D hz hTI hTO h1 h2 hx hy fun h' z' TO' j1 j2 hp hsz hk => ?_
    exact hQ h' (.inr ⟨s.heap.objs.size, false, _, z', hp, Nat.ne_of_gt zl, Nat.ne_of_gt tl, _, TO'⟩) (hk _ _ D.TIz D.TITO D.TIi1 D.TIi2 hTI) j1 j2 hp hsz hk
  · have zl : z < s.heap.objs.size := Heap.lt_size hz
    refine nextH_item N1 N2 D hz hT hTI h1 h2 hx hy fun h' z' j1 j2 hp hsz hk => ?_
    by_cases e1 : T = i1
    · subst e1
      obtain ⟨o, ho, _⟩ := N1.obj j1
      exact hQ h' (.inr ⟨T, true, o, z', ho, hTz, hTO, oO, hk _ _ D.TOz D.TOi1 D.TOi2 hOO⟩) (hk _ _ D.TIz D.TIi1 D.TIi2 hTI) j1 j2 hp hsz fun c o c1 _ c3 c4 e => hk c o c1 c3 c4 e
    by_cases e2 : T = i2
    · subst e2
      obtain ⟨o, ho, _⟩ := N2.obj j2
      exact hQ h' (.inr ⟨T, true, o, z', ho, hTz, hTO, oO, hk _ _ D.TOz D.TOi1 D.TOi2 hOO⟩) (hk _ _ D.TIz D.TIi1 D.TIi2 hTI) j1 j2 hp hsz fun c o c1 _ c3 c4 e => hk c o c1 c3 c4 e
    exact hQ h' (.inr ⟨T, true, oT, z', hk _ _ hTz e1 e2 hT, hTz, hTO, oO, hk _ _ D.TOz D.TOi1 D.TOi2 hOO⟩) (hk _ _ D.TIz D.TIi1 D.TIi2 hTI) j1 j2 hp hsz fun c o c1 _ c3 c4 e => hk c o c1 c3 c4 e
theorem zat_last {Q : Option Value → Shared → Prop} (N1 : Nxt P w i1 l1 xs J1) (N2 : Nxt P w i2 l2 ys J2) (hh : A.handled = none) (D : ZipApart z TI TO i1 i2 l1 l2) (hz : ZAt s.heap z TI TO) (hTI : IsPair s.heap TI (.ref i1) (.ref i2)) (h1 : J1 k1 s.heap) (h2 : J2 k2 s.heap) (hend : xs[k1]? = none ∨ ys[k2]? = none)
    (hQ : ∀ h', (∀ c o, c ≠ z → c ≠ TO → c ≠ i1 → c ≠ i2 → s.heap.get? c = some o → h'.get? c = some o) → Q none { s with heap := h' }) : wpAny (model P w) A (pyNext (.ref z)) Q E s := by
  rcases hz with ⟨hz, a, b, hTO⟩ | ⟨T, f, oT, hz, hT, hTz, hTO, oO, hOO⟩
  · exact nextN_last N1 N2 hh D hz hTI hTO h1 h2 hend fun h' hk => hQ h' hk
  · exact nextH_last N1 N2 hh D hz hT hTI h1 h2 hend fun h' hk => hQ h' fun c o c1 _ c3 c4 e => hk c o c1 c3 c4 e
end
end DL

/-! list(zip(a tuple, a tuple)) -/
namespace DL
open PySem L2 PySem.Spec PyProof.Rows RZ
theorem zip_no_len : typeLookup (.type "zip") "__len__" = pure none := by rw [typeLookup_type, builtinLookup_eq_fast]; kernel_rfl
theorem zip_no_hint : typeLookup (.type "zip") "__length_hint__" = pure none := by rw [typeLookup_type, builtinLookup_eq_fast]; kernel_rfl
/-- the pairs at ps -/
def PairsK (H : Hp) (ps : List Addr) (xs ys : List V) : Prop := ∀ (j : Nat) (t : Addr), ps[j]? = some t → ∃ x y, xs[j]? = some x ∧ ys[j]? = some y ∧ H t = some (.tup [x, y])
section
variable {X : Cx} {pins : List (Addr × Obj)} {σ : L2.St} {A : Around} {R : Result → Shared → Prop} {S z TI TO i1 i2 a b : Addr} {xs ys : List V} {H0 : Hp} {res : Value}
theorem lz_loop (hh : A.handled = none) (D : ZipApart z TI TO i1 i2 a b) (hSf : S ∉ [z, TI, TO, i1, i2]) (hS0 : H0 S = none) (hq1 : SqT X.K H0 a xs) (hq2 : SqT X.K H0 b ys)
    (hR : ∀ s' H' ps', ps'.length = min xs.length ys.length → Inv X pins σ H' s' → Same H0 H' → H' S = some (.lst (ps'.map V.ref)) → PairsK H' ps' xs ys → R (.ok (.ret res)) s') :
    ∀ (n k : Nat) (s : Shared) (H : Hp) (ps : List Addr), k + n = min xs.length ys.length → ps.length = k → Inv X pins σ H s → (∀ c ∈ [z, TI, TO, i1, i2], FpOk X pins H c) → Same H0 H → H S = some (.lst (ps.map V.ref)) → PairsK H ps xs ys →
      ZAt s.heap z TI TO → IsPair s.heap TI (.ref i1) (.ref i2) → s.heap.IsTupleIter i1 a k → s.heap.IsTupleIter i2 b k →
      codeAny (model X.prog X.w) A (.builtin "list.extend.loop" ⟨[.ref S, .ref z, res], []⟩) R s := by
  have hSf' := hSf
  simp only [List.mem_cons, List.not_mem_nil, or_false, not_or] at hSf'
  obtain ⟨nz, nTI, nTO, n1, n2⟩ := hSf'
  have hh1 : A.in1.handled = none := by simp [hh]
  intro n
  induction n with
  | zero =>
    intro k s H ps hk hl I hf sm hS hp hz hTI h1 h2
    obtain ⟨its, rv, p, _⟩ := I.tuple ((Stp.same (P := fun _ => False) sm).sqT hq1)
    obtain ⟨its2, rv2, p2, _⟩ := I.tuple ((Stp.same (P := fun _ => False) sm).sqT hq2)
    have e1 := rv.length
    have e2 := rv2.length
    have he : its.toArray[k]? = none ∨ its2.toArray[k]? = none := by
      rcases Nat.le_total xs.length ys.length with q | q
      · left; simp; omega
      · right; simp; omega
    refine codeAny_builtin F.entry_extend_loop ?_
    rw [Around.under_plainId F.plain_extend_loop _]
    show wpAny _ A.in1 (pyNext (.ref z) >>= _) _ _ s
    refine wpAny_bind (zat_last (nxt_T D.l1i1) (nxt_T D.l2i2) hh1 D hz hTI (⟨h1, p⟩ : jT i1 a its.toArray k s.heap) (⟨h2, p2⟩ : jT i2 b its2.toArray k s.heap) he fun h' hk' => ?_)
    refine wpAny_pure (hR _ H ps (by omega) (I.turnedL (t' := s.toks) (ch := [z, TI, TO, i1, i2]) (fun c o hb q => ?_) hf) sm hS hp)
    simp only [List.mem_cons, List.not_mem_nil, or_false, not_or] at hb
    exact hk' c o hb.1 hb.2.2.1 hb.2.2.2.1 hb.2.2.2.2 q
  | succ n ih =>
    intro k s H ps hk hl I hf sm hS hp hz hTI h1 h2
    have st : Stp (fun _ => False) H0 H := .same sm
    obtain ⟨its, rv, p, _⟩ := I.tuple (st.sqT hq1)
    obtain ⟨its2, rv2, p2, _⟩ := I.tuple (st.sqT hq2)
    have hkx : k < xs.length := by omega
    have hky : k < ys.length := by omega
    obtain ⟨u, hu, ru⟩ := rv.get (List.getElem?_eq_getElem hkx)
    obtain ⟨u2, hu2, ru2⟩ := rv2.get (List.getElem?_eq_getElem hky)
    obtain ⟨hlen, its3, c3, rv3, e3⟩ := I.hok S _ hS
    have l3 := rv3.length
    rw [List.length_map] at l3 hlen
    have sL := sizeLine_eq
    have hx64 : xs.length ≤ sizeLine := (I.tuple (st.sqT hq1)).choose_spec.2.2
    refine codeAny_builtin F.entry_extend_loop ?_
    rw [Around.under_plainId F.plain_extend_loop _]
    show wpAny _ A.in1 (pyNext (.ref z) >>= _) _ _ s
    refine wpAny_bind (zat_item (nxt_T D.l1i1) (nxt_T D.l2i2) D hz hTI (⟨h1, p⟩ : jT i1 a its.toArray k s.heap) (⟨h2, p2⟩ : jT i2 b its2.toArray k s.heap) (x := u) (y := u2) (by simpa using hu) (by simpa using hu2) fun h' z' TI' j1 j2 hT hsz hk' => ?_)
    obtain ⟨j1, _⟩ := j1
    obtain ⟨j2, _⟩ := j2
    have hS' : h'.get? S = some { cls := .type "list", data := .seq its3.toArray c3 } := hk' _ _ nz nTO n1 n2 e3
    have Sl : S < s.heap.objs.size := Heap.lt_size e3
    have fl : ∀ c ∈ [z, TI, TO, i1, i2], c < s.heap.objs.size := fun c hcm => by
      simp only [List.mem_cons, List.not_mem_nil, or_false] at hcm
      rcases hcm with rfl | rfl | rfl | rfl | rfl
      · rcases hz with ⟨q, _⟩ | ⟨_, _, _, q, _⟩ <;> exact Heap.lt_size q
      · exact Heap.lt_size hTI
      · rcases hz with ⟨_, _, _, q⟩ | ⟨_, _, _, _, _, _, _, oO, q⟩ <;> exact Heap.lt_size q
      · obtain ⟨_, q, _⟩ := h1; exact Heap.lt_size q
      · obtain ⟨_, q, _⟩ := h2; exact Heap.lt_size q
    show wpAny _ A.in1 (updateSeq S (·.push (Value.ref s.heap.objs.size)) >>= _) _ _ _
    refine wpAny_bind ?_
    refine wpAny_updateSeq hS' rfl (wpAny_pure ⟨plainId_quiet F.plain_extend_loop _, ?_⟩) (by simp; omega) (by show (its3.toArray.push _).size ≤ sizeLine + 1; rw [Array.size_push]; simp; omega)
    have laid : ObjOk X.prog X.w (upd H s.heap.objs.size (.tup [xs[k], ys[k]])) h' s.heap.objs.size (.tup [xs[k], ys[k]]) := ⟨by show 2 ≤ sizeLine; omega, [u, u2], .cons ru (.cons ru2 .nil), ⟨_, hT, rfl, _, rfl⟩⟩
    have I1 : Inv X pins σ (upd H s.heap.objs.size (.tup [xs[k], ys[k]])) { s with heap := h' } := I.turnedNew (t' := s.toks) (ch := [z, TI, TO, i1, i2]) (fun c o hb q => by
      simp only [List.mem_cons, List.not_mem_nil, or_false, not_or] at hb
      exact hk' c o hb.1 hb.2.2.1 hb.2.2.2.1 hb.2.2.2.2 q) hf (Nat.le_refl _) laid
    have hn : H s.heap.objs.size = none := I.hok.fresh (Nat.le_refl _)
    have neS : S ≠ s.heap.objs.size := Nat.ne_of_lt Sl
    have hS1 : (upd H s.heap.objs.size (.tup [xs[k], ys[k]])) S = some (.lst (ps.map V.ref)) := by rw [upd_ne neS]; exact hS
    have up : ∀ c o, c ≠ S → h'.get? c = some o → (h'.update S (Obj.mapSeq (·.push (Value.ref s.heap.objs.size)))).get? c = some o := fun c o hc e => (Heap.get?_update_other _ _ (Ne.symm hc)).trans e
    have gS := Heap.get?_update_self (Obj.mapSeq (·.push (Value.ref s.heap.objs.size))) hS' rfl
    have I2 : Inv X pins σ (upd (upd H s.heap.objs.size (.tup [xs[k], ys[k]])) S (.lst ((ps ++ [s.heap.objs.size]).map V.ref))) { s with heap := h'.update S (Obj.mapSeq (·.push (Value.ref s.heap.objs.size))) } :=
      I1.write (x := S) (e := S) (t' := s.toks) (by rw [hS1]; trivial) (.inl rfl) (fun c o hc e => up c o hc e) ⟨_, gS⟩ ⟨by rw [List.length_map, List.length_append]; simp; omega, its3 ++ [Value.ref s.heap.objs.size], c3 + 1, by
        rw [List.map_append]
        exact rv3.append (.cons rfl .nil), by
        rw [gS]
        simp [Obj.mapSeq]⟩
    have ne5 : ∀ c ∈ [z, TI, TO, i1, i2], c ≠ S := fun c hc e => hSf (by rw [← e]; exact hc)
    refine ih (k + 1) _ _ (ps ++ [s.heap.objs.size]) (by omega) (by rw [List.length_append, hl]; rfl) I2 (fun c hc => ⟨by rw [upd_ne (ne5 c hc), upd_ne (Nat.ne_of_lt (fl c hc))]; exact (hf c hc).1, (hf c hc).2⟩) (fun c o e => ?_) upd_same (fun j t e => ?_) ?_ (up _ _ (Ne.symm nTI) TI') (j1.at fun o q => up _ o (Ne.symm n1) q) (j2.at fun o q => up _ o (Ne.symm n2) q)
    · rw [upd_ne (ne_of_none e hS0), upd_ne (ne_of_none (sm _ _ e) hn)]
      exact sm _ _ e
    · by_cases hj : j < ps.length
      · rw [List.getElem?_append_left hj] at e
        obtain ⟨x, y, h1, h2, h3⟩ := hp j t e
        have : t ≠ S := fun q => by rw [q, hS] at h3; cases h3
        exact ⟨x, y, h1, h2, by rw [upd_ne this, upd_ne (ne_of_none h3 hn)]; exact h3⟩
      · rw [List.getElem?_append_right (by omega)] at e
        have hj0 : j - ps.length = 0 := by
          by_cases q : j - ps.length = 0
          · exact q
          · rw [List.getElem?_eq_none (by simp; omega)] at e; cases e
        rw [hj0] at e
        simp at e
        subst e
        have : j = k := by omega
        subst this
        exact ⟨_, _, List.getElem?_eq_getElem hkx, List.getElem?_eq_getElem hky, by rw [upd_ne neS.symm]; exact upd_same⟩
    · rcases z' with ⟨q, x, y, q2⟩ | ⟨T, f, oT, q, q2, q3, q4, oO, q5⟩
      · exact .inl ⟨up _ _ (Ne.symm nz) q, x, y, up _ _ (Ne.symm nTO) q2⟩
      · by_cases e : T = S
        · rw [e] at q q3 q4
          exact .inr ⟨S, f, _, up _ _ (Ne.symm nz) q, gS, q3, q4, oO, up _ _ (Ne.symm nTO) q5⟩
        · exact .inr ⟨T, f, oT, up _ _ (Ne.symm nz) q, up _ _ e q2, q3, q4, oO, up _ _ (Ne.symm nTO) q5⟩
end
end DL

/-! list(zip(a tuple, a tuple)), the expression -/
namespace DL
open PySem L2 PySem.Spec PyProof.Rows RZ
section
variable {X : Cx} {pins : List (Addr × Obj)} {σ : L2.St} {H : Hp} {s : Shared} {z TI TO i1 i2 a b : Addr} {xs ys : List V} {Q : V → Hp → Prop}
theorem run_listZ (hc : X.calm = true) (I : Inv X pins σ H s) (D : ZipApart z TI TO i1 i2 a b) (hq1 : SqT X.K H a xs) (hq2 : SqT X.K H b ys) (hf : ∀ c ∈ [z, TI, TO, i1, i2], FpOk X pins H c)
    (hz : IsZip s.heap z TI TO .none) (hTI : IsPair s.heap TI (.ref i1) (.ref i2)) (hTO : ∃ x y, IsPair s.heap TO x y) (h1 : s.heap.IsTupleIter i1 a 0) (h2 : s.heap.IsTupleIter i2 b 0)
    (q : ∀ S ps H', H S = none → ps.length = min xs.length ys.length → Same H H' → H' S = some (.lst (ps.map V.ref)) → PairsK H' ps xs ys → Q (.ref S) H') :
    wpAny (model X.prog X.w) X.A (call (.type "list") [.ref z]) (fun u s' => ∃ v H', Inv X pins σ H' s' ∧ RelV v u ∧ Q v H') X.xe s := by
  have hh : X.A.handled = none := I.ok.hd hc
  have lt : ∀ {c : Addr} {o : Obj}, s.heap.get? c = some o → s.heap.objs.size ≠ c := fun e => Nat.ne_of_gt (Heap.lt_size e)
  have hSz : s.heap.objs.size ≠ z := lt hz
  have hSf : s.heap.objs.size ∉ [z, TI, TO, i1, i2] := by
    simp only [List.mem_cons, List.not_mem_nil, or_false, not_or]
    obtain ⟨x, y, hTO⟩ := hTO
    obtain ⟨_, e1, _⟩ := h1
    obtain ⟨_, e2, _⟩ := h2
    exact ⟨hSz, lt hTI, lt hTO, lt e1, lt e2⟩
  refine callType_codes (Q₁ := fun obj s₁ => obj = .ref s.heap.objs.size ∧ s₁ = { s with heap := s.heap.push { cls := .type "list", data := .seq #[] } }) F.called_list (F.typeCall_list_1 _) F.entry_list_init
    (code_list_new _ ⟨rfl, rfl⟩) fun obj s₁ h₁ => ?_
  obtain ⟨rfl, rfl⟩ := h₁
  have hS : (s.heap.push { cls := .type "list", data := .seq #[] }).get? s.heap.objs.size = some { cls := .type "list", data := .seq #[] } := Heap.get?_push_size _ rfl
  refine ⟨⟨_, hS, rfl⟩, F.args_list_init_2 _ _, ?_⟩
  show wpAny _ X.A.in1.in1 (do let old ← Builtin.List.listItems (.ref s.heap.objs.size); Builtin.List.listUpdate (.ref s.heap.objs.size) (fun _ => #[]); letGo old.toList.reverse; Builtin.List.listExtendWith (.ref s.heap.objs.size) (.ref z) .none) _ _ _
  refine wpAny_bind ?_
  unfold Builtin.List.listItems
  refine wpAny_bind (wpAny_seqItems hS rfl (wpAny_pure ?_))
  show wpAny _ X.A.in1.in1 (updateSeq s.heap.objs.size (fun _ => #[]) >>= fun _ => letGo (#[] : Array Value).toList.reverse >>= fun _ => Builtin.List.listExtendWith (.ref s.heap.objs.size) (.ref z) .none) _ _ _
  refine wpAny_bind (wpAny_updateSeq hS rfl ?_)
  have hS2 := Heap.get?_update_self (Obj.mapSeq (fun _ => (#[] : Array Value))) hS rfl
  refine wpAny_bind (wpAny_letGo ?_)
  unfold Builtin.List.listExtendWith
  have up : ∀ (h : Heap) (f : Obj → Obj), (∀ b o, s.heap.get? b = some o → h.get? b = some o) → ∀ b o, s.heap.get? b = some o → (h.update s.heap.objs.size f).get? b = some o := fun h f q b o e =>
    (Heap.get?_update_other _ _ (Ne.symm (Nat.ne_of_lt (Heap.lt_size e)))).trans (q b o e)
  have k1 : ∀ b o, s.heap.get? b = some o → (s.heap.push { cls := .type "list", data := .seq #[] }).get? b = some o := fun b o e => Heap.get?_push_of_some _ e
  have k2 := up _ (Obj.mapSeq (fun _ => (#[] : Array Value))) k1
  have gty : ∀ {h : Heap} {tk : Nat}, (∀ b o, s.heap.get? b = some o → h.get? b = some o) → (Shared.TypeIs { s with heap := h, toks := tk } (.ref z) "zip") := fun {h tk} q => ⟨_, q _ _ hz, rfl⟩
  refine wpAny_bind (wpAny_typeOf (gty k2) ?_)
  have e1 : Builtin.List.listSameRef (.ref s.heap.objs.size) (.ref z) = false := by simp [Builtin.List.listSameRef, hSz]
  have e2 : (Value.type "zip" == Value.type "list") = false := by decide
  have e3 : (Value.type "zip" == Value.type "tuple") = false := by decide
  simp only [e1, e2, e3, Bool.or_false, Bool.false_eq_true, if_false]
  refine wpAny_bind (wpAny_pyIter_zip (k2 _ _ hz) ?_)
  refine wpAny_bind (wpAny_holding ?_)
  unfold Builtin.List.listLengthHint
  refine wpAny_bind (wpAny_specialOf (gty k2) zip_no_len ?_)
  show wpAny _ X.A.in1.in1 (specialOf (Value.ref z) (Str.ofString "__length_hint__") >>= _) _ _ _
  refine wpAny_bind (wpAny_specialOf (gty k2) zip_no_hint ?_)
  refine wpAny_pure ?_
  show wpAny _ X.A.in1.in1 (rule "list.extend.makes-room" >>= fun _ => Builtin.List.listTouch (.ref s.heap.objs.size) >>= fun _ =>
    again (.builtin "list.extend.loop" ⟨[.ref s.heap.objs.size, .ref z, .none], []⟩)) _ _ _
  refine wpAny_bind (wpAny_rule ?_)
  refine wpAny_bind ?_
  show wpAny _ X.A.in1.in1 (updateSeq s.heap.objs.size (·.push .none) >>= fun _ => updateSeq s.heap.objs.size (·.pop)) _ _ _
  refine wpAny_bind (wpAny_updateSeq hS2 rfl ?_)
  have hS3 := Heap.get?_update_self (Obj.mapSeq (·.push Value.none)) hS2 rfl
  refine wpAny_updateSeq (hz := by seq_fits) hS3 rfl ?_
  have hS4 := Heap.get?_update_self (Obj.mapSeq (·.pop)) hS3 rfl
  have k4 := up _ (Obj.mapSeq (·.pop)) (up _ (Obj.mapSeq (·.push Value.none)) k2)
  have hn : H s.heap.objs.size = none := I.hok.fresh (Nat.le_refl _)
  have I4 := I.laid (a := s.heap.objs.size) (o := .lst []) (t' := s.toks) k4 (Nat.le_refl _) ⟨Nat.zero_le _, [], _, .nil, hS4⟩
  refine wpAny_pure ⟨plainId_quiet F.plain_extend_loop _, ?_⟩
  have ne5 : ∀ c ∈ [z, TI, TO, i1, i2], c ≠ s.heap.objs.size := fun c hc e => hSf (by rw [← e]; exact hc)
  obtain ⟨x, y, hTO⟩ := hTO
  refine lz_loop (X := X) (pins := pins) (σ := σ) (A := X.A.in1) (S := s.heap.objs.size) (H0 := H) (by simp [hh]) D hSf hn hq1 hq2 (fun s' H' ps' hl I' sm hS' hp => ⟨rfl, .ref s.heap.objs.size, H', I', rfl, q _ ps' H' hn hl sm hS' hp⟩) (min xs.length ys.length) 0 _ _ [] (by omega) rfl I4
    (fun c hc => ⟨by rw [upd_ne (ne5 c hc)]; exact (hf c hc).1, (hf c hc).2⟩) (same_upd hn) upd_same (fun j t e => by simp at e) (.inl ⟨k4 _ _ hz, x, y, k4 _ _ hTO⟩) (k4 _ _ hTI) (h1.at fun o q => k4 _ o q) (h2.at fun o q => k4 _ o q)
/-- list(zip(e, e2)) of two tuples -/
def tListZ (K : PySem.W.Frag) (ta : TA) : TE := fun σ H R => ta σ H fun vs H1 => ∃ a b xs ys, vs = [.ref a, .ref b] ∧ SqT K H1 a xs ∧ SqT K H1 b ys ∧
  ∀ S ps H', H1 S = none → ps.length = min xs.length ys.length → Same H1 H' → H' S = some (.lst (ps.map V.ref)) → PairsK H' ps xs ys → R (.ref S) H'
theorem pe_listZip {e e2 : Expr} {ta : TA} {p p2 pos pos2 : Pos} (hc : X.calm = true) (ha : PA X [e, e2] ta) (hm : X.mg "zip" = none) (hm2 : X.mg "list" = none) (hg : Gl X "zip" := by rfl) (hg2 : Gl X "list" := by rfl)
    (hs : starEach [e, e2] X.env = (false, eval e X.env) :: starEach [e2] X.env := by rfl) (hpl : (backTo pos2 (starEach [e2] X.env)).any (·.1) = false := by rfl)
    (hs2 : starEach [.Call (.Name "zip" p) [e, e2] [] pos2] X.env = (false, eval (.Call (.Name "zip" p) [e, e2] [] pos2) X.env) :: starEach [] X.env := by rfl) (hpl2 : (backTo pos (starEach [] X.env)).any (·.1) = false := by rfl) :
    PE X (.Call (.Name "list" p2) [.Call (.Name "zip" p) [e, e2] [] pos2] [] pos) (tListZ X.K ta) := by
  refine ⟨fun pins s σ H Q I h => ?_⟩
  refine wpAny_Call_Name_kw (ld_blt I hg2 hm2 PyProof.Rows.boot_list ?_ (by decide) (by decide))
  refine PyProof.Rows.callWith_type1 ?_ hs2 hpl2
  rw [hs2]
  show wpAny _ _ (spliced ((false, eval (.Call (.Name "zip" p) [e, e2] [] pos2) X.env) :: backTo pos (starEach [] X.env))) _ _ s
  refine Calls.spliced_cons ?_
  refine wpAny_Call_Name_kw (ld_blt I hg hm PyProof.Rows.boot_zip ?_ (by decide) (by decide))
  refine PyProof.Rows.callWith_type1 (thn (ha.run pos2 pins s σ H _ I h) ?_) hs hpl
  rintro us s1 ⟨vs, H1, I1, r1, a, b, xs, ys, rfl, hqx, hqy, q⟩
  obtain ⟨v1, v2, rfl, q1, q2⟩ := vals2 r1
  cases q1; cases q2
  obtain ⟨its, rv, p1, _⟩ := I1.tuple hqx
  obtain ⟨its2, rv2, p2, _⟩ := I1.tuple hqy
  obtain ⟨o1, ho1, _⟩ := id p1
  obtain ⟨o2, ho2, _⟩ := id p2
  refine call_zipT (show s1.heap.IsTuple a its.toArray from p1) (show s1.heap.IsTuple b its2.toArray from p2) fun h' hz hTI hTO h1 h2 hsz hk => ?_
  refine Calls.spliced_nil ?_
  have I2 : Inv X pins σ H1 { s1 with heap := h' } := I1.kept (t' := s1.toks) hk
  refine run_listZ hc I2 (PySem.W.ktu_apart s1.heap.objs.size a b (Heap.lt_size ho1) (Heap.lt_size ho2)) hqx hqy (fun c hcm => ?_) hz hTI ⟨_, _, hTO⟩ h1 h2 q
  have hle : s1.heap.objs.size ≤ c := by
    simp only [List.mem_cons, List.not_mem_nil, or_false] at hcm
    rcases hcm with rfl | rfl | rfl | rfl | rfl <;> first | exact Nat.le_add_right _ _ | exact Nat.le_refl _
  exact I1.fpOk hle (I1.hok.fresh hle)
end
section
variable {L : Ls} {Z Z' : Zs} {X : Cx} {k : Nat} {ε : Nat → Str → Prop}
@[simp] def rListZ (t : TL) : TD := fun m δ Q => t m δ fun m ds => match ds with | [.tup as, .tup bs] => Q m (.lst (zipD as bs)) | _ => False
theorem pairs_dn {P : Addr → Prop} {H' : Hp} : ∀ {ps : List Addr} {as bs : List D} {xs ys : List V}, ps.length = min xs.length ys.length → DnL Z P H' as xs → DnL Z P H' bs ys → PairsK H' ps xs ys → DnL Z P H' (zipD as bs) (ps.map V.ref)
  | [], as, bs, xs, ys, hl, da, db, _ => by
    have e1 := da.length
    have e2 := db.length
    have : zipD as bs = [] := by
      apply List.eq_nil_of_length_eq_zero
      rw [zipD_length]
      simp at hl
      omega
    rw [this]
    exact .nil
  | p :: ps, [], _, xs, _, hl, da, db, _ => by
    have e1 := da.length
    rw [List.length_nil] at e1
    rw [List.length_cons] at hl
    omega
  | p :: ps, _ :: _, [], _, ys, hl, da, db, _ => by
    have e2 := db.length
    rw [List.length_nil] at e2
    rw [List.length_cons] at hl
    omega
  | p :: ps, a :: as, b :: bs, xs, ys, hl, da, db, hp => by
    obtain ⟨x, xs', rfl, dx, da⟩ := da.of_cons
    obtain ⟨y, ys', rfl, dy, db⟩ := db.of_cons
    obtain ⟨x', y', e1, e2, e3⟩ := hp 0 p rfl
    cases e1; cases e2
    have := pairs_dn (ps := ps) (by simp at hl ⊢; omega) da db fun j t e => hp (j + 1) t e
    exact .cons (dn_tpw.mpr ⟨by show 2 ≤ sizeLine; rw [sizeLine_eq]; decide, p, [x, y], rfl, .inl (.inl e3), .cons dx (.cons dy .nil)⟩) this
theorem de_listZip (F : XF L Z X k ε) {e e2 : Expr} {t : TL} {p p2 pos pos2 : Pos} (ha : DA Z X [e, e2] t) (hm : X.mg "zip" = none) (hm2 : X.mg "list" = none) (hg : Gl X "zip" := by rfl) (hg2 : Gl X "list" := by rfl)
    (hs : starEach [e, e2] X.env = (false, eval e X.env) :: starEach [e2] X.env := by rfl) (hpl : (backTo pos2 (starEach [e2] X.env)).any (·.1) = false := by rfl)
    (hs2 : starEach [.Call (.Name "zip" p) [e, e2] [] pos2] X.env = (false, eval (.Call (.Name "zip" p) [e, e2] [] pos2) X.env) :: starEach [] X.env := by rfl) (hpl2 : (backTo pos (starEach [] X.env)).any (·.1) = false := by rfl) :
    DE Z X (.Call (.Name "list" p2) [.Call (.Name "zip" p) [e, e2] [] pos2] [] pos) (rListZ t) := by
  obtain ⟨T, pa, h⟩ := ha.ex
  refine ⟨_, pe_listZip F.calm pa hm hm2 hg hg2 hs hpl hs2 hpl2, fun m δ σ H Q R n q r => h m δ σ H _ _ n q fun m vs ds H1 n1 s1 d1 q1 => ?_⟩
  have hK : X.K = Z.L.K := F.K
  split at q1
  · rename_i as bs
    obtain ⟨v, w, rfl, hv, hw⟩ := d1.two
    obtain ⟨z, c, vs, e, t, l⟩ := dn_tupT hv
    obtain ⟨z', c', vs', e', t', l'⟩ := dn_tupT hw
    refine ⟨c, c', vs, vs', by rw [e, e'], by rw [hK]; exact t, by rw [hK]; exact t', fun S ps H' hS hl sm hS' hp => ?_⟩
    have st : Stp (OO Z σ δ) H1 H' := .same sm
    have dl := pairs_dn (Z := Z) (P := OO Z σ δ) hl (DnL.stp st as vs l) (DnL.stp st bs vs' l') hp
    refine r m (.ref S) (.lst (zipD as bs)) H' (n1.same F.zok sm) (s1.trans (.same sm)) (dn_lst.mpr ⟨?_, S, _, rfl, ?_, hS', dl⟩) q1
    · rw [zipD_length]; omega
    · exact n1.fresh F.zok hS
  · exact q1.elim
end
end DL

/-! dicts of ints to ints -/
namespace DL
open PySem L2 PySem.Spec PyProof.Rows
section
variable {X : Cx}
theorem mt_update : MtR X "dict.update" (fun x xs H Q => ∃ (d e : Addr) (kvs more : List (Key × V)), x = .ref d ∧ xs = [.ref e] ∧ d ≠ e ∧ H d = some (.dK kvs) ∧ Rd H e (.dK more) ∧ kvs.length + more.length ≤ sizeLine ∧ Q .non (upd H d (.dK (mergeK kvs more)))) := by
  intro pins s σ H x xs v us Q I rx rxs h
  obtain ⟨d, e, kvs, more, rfl, rfl, hne, hd, he, hz, q⟩ := h
  obtain rfl : v = Value.ref d := rx
  obtain ⟨u, rfl, ru⟩ := vals1 rxs
  obtain rfl : u = Value.ref e := ru
  obtain ⟨z, lo, vs, rel, dd⟩ := dk_of I.hok hd
  obtain ⟨z2, lo2, vs2, rel2, dd2⟩ := dk_rd I.hok he
  refine call_meetsIn PySem.F.slot_dict_update dd.typeIs PySem.F.entry_dict_update (PySem.F.args_dict_update_2 _ _) (meets_dict_update (mixKind X.prog X.w) d e hne lo2) ⟨vs, vs2, dd, dd2, by rw [← rel.length, ← rel2.length]; exact hz, fun h' hm _ hs => ?_⟩
  have hl := length_mergeK more kvs
  exact (⟨.non, _, d_write (t' := s.toks) I (by rw [hd]; trivial) hs (let ⟨q, _, _, hq, _⟩ := hm; ⟨q, hq⟩) (dk_new (by omega) lo (KV.merge rel2 rel) hm), rfl, q⟩ : EP X pins σ Q _ _)
end
abbrev kvI2 (kvs : List (Int × Int)) : List (Key × V) := kvs.map fun p => (Sum.inl p.1, V.int p.2)
def lkI (kvs : List (Int × Int)) (k : Int) : Option Int := (kvs.find? fun p => decide (p.1 = k)).map (·.2)
def putI (kvs : List (Int × Int)) (k v : Int) : List (Int × Int) := if (kvs.any fun p => decide (p.1 = k)) = true then kvs.map (fun p => if p.1 = k then (p.1, v) else p) else kvs ++ [(k, v)]
def merI (kvs more : List (Int × Int)) : List (Int × Int) := more.foldl (fun acc p => putI acc p.1 p.2) kvs
theorem lk_kv (k : Int) : ∀ kvs : List (Int × Int), valV (kvI2 kvs) (Sum.inl k : Key) = (lkI kvs k).map V.int
  | [] => rfl
  | p :: kvs => by
    have ih := lk_kv k kvs
    unfold valV lkI at ih ⊢
    show Option.map (·.2) (List.find? _ ((Sum.inl p.1, V.int p.2) :: kvI2 kvs)) = _
    rw [List.find?_cons, List.find?_cons]
    have e : decide ((Sum.inl p.1 : Key) = Sum.inl k) = decide (p.1 = k) := by
      by_cases h : p.1 = k
      · rw [h]; simp
      · simp [h]
    simp only [e]
    by_cases h : p.1 = k
    · rw [decide_eq_true h]; rfl
    · rw [decide_eq_false h]; exact ih
theorem put_kv (k v : Int) (kvs : List (Int × Int)) : putK (kvI2 kvs) (Sum.inl k : Key) (V.int v) = kvI2 (putI kvs k v) := by
  have e : ∀ p : Int × Int, ((Sum.inl p.1 : Key) = Sum.inl k) = (p.1 = k) := fun p => by simp
  have ea : ((kvI2 kvs).any fun kv => decide (kv.1 = (Sum.inl k : Key))) = kvs.any fun p => decide (p.1 = k) := by
    rw [List.any_map]
    congr 1
    funext p
    show decide ((Sum.inl p.1 : Key) = Sum.inl k) = _
    simp only [e]
  unfold putK putI
  rw [ea]
  split
  · rw [List.map_map]
    show _ = List.map _ (List.map _ kvs)
    rw [List.map_map]
    refine List.map_congr_left fun p _ => ?_
    show (if (Sum.inl p.1 : Key) = Sum.inl k then ((Sum.inl p.1 : Key), V.int v) else (Sum.inl p.1, V.int p.2)) = _
    by_cases h : p.1 = k
    · rw [if_pos (by rw [h])]
      show _ = (Sum.inl (if p.1 = k then (p.1, v) else p).1, V.int (if p.1 = k then (p.1, v) else p).2)
      rw [if_pos h]
    · rw [if_neg (by simpa using h)]
      show _ = (Sum.inl (if p.1 = k then (p.1, v) else p).1, V.int (if p.1 = k then (p.1, v) else p).2)
      rw [if_neg h]
  · show _ = List.map _ (kvs ++ [(k, v)])
    rw [List.map_append]; rfl
theorem mer_kv : ∀ (more kvs : List (Int × Int)), mergeK (kvI2 kvs) (kvI2 more) = kvI2 (merI kvs more)
  | [], kvs => rfl
  | p :: more, kvs => by
    show mergeK (putK (kvI2 kvs) (Sum.inl p.1 : Key) (V.int p.2)) (kvI2 more) = kvI2 (merI (putI kvs p.1 p.2) more)
    rw [put_kv]
    exact mer_kv more _
theorem putI_len (kvs : List (Int × Int)) (k v : Int) : (putI kvs k v).length ≤ kvs.length + 1 := by
  unfold putI
  split
  · rw [List.length_map]; omega
  · rw [List.length_append]; simp
theorem merI_len : ∀ (more kvs : List (Int × Int)), (merI kvs more).length ≤ kvs.length + more.length
  | [], kvs => Nat.le_refl _
  | p :: more, kvs => by
    have h1 := merI_len more (putI kvs p.1 p.2)
    have h2 := putI_len kvs p.1 p.2
    show (merI (putI kvs p.1 p.2) more).length ≤ _
    rw [List.length_cons]; omega
section
variable {L : Ls} {Z Z' : Zs} {X : Cx} {k : Nat} {ε : Nat → Str → Prop} {e e1 e2 e3 : Expr} {te t1 t2 t3 : TD} {pos : Pos} {δ : Env} {σ : L2.St} {H H' : Hp} {m : Nat}
theorem dn_dii {P : Addr → Prop} {kvs : List (Int × Int)} {v : V} : Dn Z P H (.dii kvs) v ↔ ∃ a od, v = .ref a ∧ H a = some (.frz od (.dK (kvI2 kvs))) := by unfold Dn; exact Iff.rfl
theorem new_dii {P : Addr → Prop} {kvs : List (Int × Int)} {p : Addr} {od : Obj} {H1 : Hp} : Dn Z P (upd H1 p (.frz od (.dK (kvI2 kvs)))) (.dii kvs) (.ref p) := dn_dii.mpr ⟨p, od, rfl, upd_same⟩
theorem same_frz {p : Addr} {u o : HO} (hp : H p = none) : Same H (upd (upd H p u) p o) := fun b w e => by
  have := ne_of_none e hp
  rw [upd_ne this, upd_ne this]; exact e
/-- {} -/
theorem de_dii0 (F : XF L Z X k ε) : DE Z X (.Dict [] [] pos) (rC (.dii [])) := ⟨_, pe_locked pe_dnewK, fun m δ σ H Q R n g q p hp =>
  ⟨p, .dK [], rfl, upd_same, trivial, fun od => q _ _ (.dii []) _ (n.same F.zok (same_frz hp)) (.same (same_frz hp)) (new_dii (kvs := [])) g⟩⟩
/-- the pairs of a list -/
def prI : D → Option (Int × Int)
  | .tup [.int a, .int b] => some (a, b)
  | .tpw [.int a, .int b] => some (a, b)
  | _ => none
def prsI : List D → Option (List (Int × Int))
  | [] => some []
  | d :: ds => match prI d, prsI ds with | some p, some ps => some (p :: ps) | _, _ => none
theorem prsI_zip : ∀ (as bs : List Int), prsI (zipD (as.map .int) (bs.map .int)) = some (as.zip bs)
  | [], bs => by simp [zipD, prsI]
  | a :: as, [] => by simp [zipD, prsI]
  | a :: as, b :: bs => by
    have := prsI_zip as bs
    unfold zipD at this ⊢
    rw [List.map_cons, List.map_cons, List.zip_cons_cons, List.map_cons, List.zip_cons_cons]
    show (match some (a, b), prsI _ with | some p, some ps => some (p :: ps) | _, _ => none) = _
    rw [this]
theorem prsI_at {P : Addr → Prop} : ∀ {ds : List D} {kvs : List (Int × Int)} {vs : List V}, prsI ds = some kvs → DnL Z P H ds vs → ∃ ps : List Addr, vs = ps.map V.ref ∧ Paired (fun p (kv : Key × V) => SqT Z.K H p [kV kv.1, kv.2]) ps (kvI2 kvs)
  | [], kvs, vs, e, d => by
    cases e
    have : vs = [] := d
    subst this
    exact ⟨[], rfl, .nil⟩
  | d :: ds, kvs, vs, e, h => by
    obtain ⟨v, r, rfl, h1, h2⟩ := h.of_cons
    unfold prsI at e
    cases e1 : prI d with
    | none => rw [e1] at e; cases e
    | some p =>
      cases e2 : prsI ds with
      | none => rw [e1, e2] at e; cases e
      | some ps =>
        rw [e1, e2] at e
        cases e
        obtain ⟨qs, rfl, hq⟩ := prsI_at e2 h2
        have key : ∃ a, v = .ref a ∧ SqT Z.K H a [V.int p.1, V.int p.2] := by
          unfold prI at e1
          split at e1
          · rename_i a b
            cases e1
            obtain ⟨z, c, us, rfl, t, l⟩ := dn_tupT h1
            obtain ⟨x, us', rfl, dx, l⟩ := l.of_cons
            obtain ⟨y, us', rfl, dy, l⟩ := l.of_cons
            have : us' = [] := l
            subst this
            rw [dn_int.mp dx, dn_int.mp dy] at t
            exact ⟨c, rfl, t⟩
          · rename_i a b
            cases e1
            obtain ⟨z, c, us, rfl, t, l⟩ := dn_tpw.mp h1
            obtain ⟨x, us', rfl, dx, l⟩ := l.of_cons
            obtain ⟨y, us', rfl, dy, l⟩ := l.of_cons
            have : us' = [] := l
            subst this
            rw [dn_int.mp dx, dn_int.mp dy] at t
            exact ⟨c, rfl, t⟩
          · cases e1
        obtain ⟨a, rfl, ha⟩ := key
        exact ⟨a :: qs, rfl, .cons ha hq⟩
/-- dict(d), d a dict or a list of pairs -/
@[simp] def rDictOf (te : TD) : TD := fun m δ Q => te m δ fun m d => match d with | .dii kvs => Q m (.dii kvs) | .lst ds => ∃ kvs, prsI ds = some kvs ∧ Q m (.dii (merI [] kvs)) | _ => False
theorem de_dictOf (F : XF L Z X k ε) {p : Pos} (he : DE Z X e te) (hm : X.mg "dict" = none) (hg : Gl X "dict" := by rfl) (na : starEach [e] X.env = (false, eval e X.env) :: starEach [] X.env := by rfl) (hpl : (backTo pos (starEach [] X.env)).any (·.1) = false := by rfl) :
    DE Z X (.Call (.Name "dict" p) [e] [] pos) (rDictOf te) := by
  obtain ⟨T, pe, h⟩ := he.ex
  refine ⟨_, pe_locked (pe_callTy (CallR.or call_dictD (call_dictP F.calm)) hg hm (by decide +kernel) (pa_cons pe pa_nil na) (by decide) (by decide) na hpl), fun m δ σ H Q R n g r => h m δ σ H _ _ n g fun m v d H1 n1 s1 d1 g1 => ?_⟩
  have hK : X.K = Z.L.K := F.K
  cases d <;> first | exact g1.elim | skip
  case dii kvs =>
    obtain ⟨a, od, rfl, ha⟩ := dn_dii.mp d1
    exact .inl ⟨a, kvI2 kvs, rfl, .inr ⟨od, ha⟩, fun p hp => ⟨p, _, rfl, upd_same, trivial, fun od => r m _ (.dii kvs) _ (n1.same F.zok (same_frz hp)) (s1.trans (.same (same_frz hp))) new_dii g1⟩⟩
  case lst ds =>
    obtain ⟨kvs, ek, hq⟩ := g1
    obtain ⟨z, a, vs, rfl, np, t, l⟩ := dn_lst.mp d1
    obtain ⟨ps, rfl, hp⟩ := prsI_at ek l
    refine .inr ⟨a, ps, kvI2 kvs, rfl, .inl (.inl t), by rw [hK]; exact hp, fun p hp => ⟨p, _, rfl, upd_same, trivial, fun od => ?_⟩⟩
    have e : mergeK [] (kvI2 kvs) = kvI2 (merI [] kvs) := mer_kv kvs []
    rw [e]
    exact r m _ (.dii (merI [] kvs)) _ (n1.same F.zok (same_frz hp)) (s1.trans (.same (same_frz hp))) new_dii hq
/-- d.get(k, x) -/
@[simp] def rGet2 (t1 t2 t3 : TD) : TD := fun m δ Q => t1 m δ fun m d => match d with
  | .dii kvs => t2 m δ fun m c => match c with | .int i => t3 m δ fun m x => (match lkI kvs i with | some v => Q m (.int v) | none => Q m x) | _ => False
  | _ => False
theorem de_get2 (F : XF L Z X k ε) {apos : Pos} (h1 : DE Z X e1 t1) (h2 : DE Z X e2 t2) (h3 : DE Z X e3 t3) (hb : attributeBase e1 "get" X.env (eval e1 X.env) = eval e1 X.env := by rfl)
    (hfew : ((backTo pos (starEach [e2, e3] X.env)).all (fun x => !x.1) && (backToKw pos (keywordEach [] X.env)).all (fun x => x.1.isSome) && decide (([e2, e3] : List Expr).length + ([] : List Keyword).length + (if ([] : List Keyword).isEmpty then 0 else 1) < 30)) = true := by rfl)
    (hl : (apos.endLine == pos.line) = true := by rfl) (ht : backTo pos (starEach [e2, e3] X.env) = [(false, eval e2 X.env), (false, eval e3 X.env)] := by rfl) :
    DE Z X (.Call (.Attribute e1 "get" apos) [e2, e3] [] pos) (rGet2 t1 t2 t3) := by
  obtain ⟨T1, p1, h1⟩ := h1.ex
  obtain ⟨T2, p2, h2⟩ := h2.ex
  obtain ⟨T3, p3, h3⟩ := h3.ex
  refine ⟨_, pe_dget2 F.hu p1 p2 p3 ⟨hb, hfew, hl, ht⟩, fun m δ σ H Q R n g r => h1 m δ σ H _ _ n g fun m v d H1 n1 s1 d1 g1 => ?_⟩
  cases d <;> first | exact g1.elim | skip
  rename_i kvs
  obtain ⟨a, od, rfl, ha⟩ := dn_dii.mp d1
  refine ⟨a, rfl, .inl ⟨_, .inr ⟨od, ha⟩⟩, h2 m δ σ H1 _ _ n1 g1 fun m w c H2 n2 s2 d2 g2 => ?_⟩
  cases c <;> first | exact g2.elim | skip
  rename_i i
  rw [dn_int.mp d2]
  refine h3 m δ σ H2 _ _ n2 g2 fun m y x H3 n3 s3 d3 g3 => ?_
  have ha3 := s3.frzs _ _ _ (s2.frzs _ _ _ ha)
  refine ⟨valV (kvI2 kvs) (Sum.inl i : Key), .inl ⟨kvI2 kvs, Sum.inl i, .inr ⟨od, ha3⟩, rfl, rfl⟩, ?_⟩
  rw [lk_kv]
  cases q : lkI kvs i with
  | none => rw [q] at g3; exact r m y x H3 n3 ((s1.trans s2).trans s3) d3 g3
  | some v => rw [q] at g3; exact r m (.int v) (.int v) H3 n3 ((s1.trans s2).trans s3) (dn_int.mpr rfl) g3
/-- d[k] -/
@[simp] def rGetI (t1 t2 : TD) : TD := fun m δ Q => t1 m δ fun m d => match d with
  | .dii kvs => t2 m δ fun m c => match c with | .int i => ∃ v, lkI kvs i = some v ∧ Q m (.int v) | _ => False
  | _ => False
theorem de_getI (F : XF L Z X k ε) (h1 : DE Z X e1 t1) (h2 : DE Z X e2 t2) (hs : NoSl e2 := by intro _ _; rfl) : DE Z X (.Subscript e1 e2 pos) (rGetI t1 t2) := by
  obtain ⟨T1, p1, h1⟩ := h1.ex
  obtain ⟨T2, p2, h2⟩ := h2.ex
  refine ⟨_, pe_dget F.hu p1 p2 hs, fun m δ σ H Q R n g r => h1 m δ σ H _ _ n g fun m v d H1 n1 s1 d1 g1 => ?_⟩
  cases d <;> first | exact g1.elim | skip
  rename_i kvs
  obtain ⟨a, od, rfl, ha⟩ := dn_dii.mp d1
  refine h2 m δ σ H1 _ _ n1 g1 fun m w c H2 n2 s2 d2 g2 => ?_
  cases c <;> first | exact g2.elim | skip
  rename_i i
  rw [dn_int.mp d2]
  obtain ⟨v, ev, hq⟩ := g2
  exact ⟨a, .int v, rfl, .inl ⟨kvI2 kvs, Sum.inl i, .inr ⟨od, s2.frzs _ _ _ ha⟩, rfl, by rw [lk_kv, ev]; rfl⟩, r m (.int v) (.int v) H2 n2 (s1.trans s2) (dn_int.mpr rfl) hq⟩
end
end DL

/-! x = dict(e1); x.update(e2) -/
namespace DL
open PySem L2 PySem.Spec PyProof.Rows
section
variable {L : Ls} {Z Z' : Zs} {X : Cx} {k : Nat} {ε : Nat → Str → Prop} {e1 e2 : Expr} {t1 t2 : TD} {u : TSd} {rest : List Stmt}
@[simp] def rUpd (i : Nat) (t1 t2 : TD) (u : TSd) : TSd := fun B m δ => t1 m δ fun m d => match d with
  | .dii kvs => t2 m (δ.set i .no) fun m c => match c with | .dii more => kvs.length + more.length ≤ sizeLine ∧ u B m (δ.set i (.val (.dii (merI kvs more)))) | _ => False
  | _ => False
theorem set_set_no {α : Type} {i : Nat} (a b : α) (δ : List α) : (δ.set i a).set i b = δ.set i b := by rw [List.set_set]
theorem dss_upd (F : XF L Z X k ε) (i : Nat) {x : Str} {p1 p3 p4 p5 p6 p7 q1 q2 : Pos} (h1 : DE Z X e1 t1) (h2 : ∀ Z', XF L Z' X k ε → DE Z' X e2 t2) (hu : DSs Z X rest u) (hm : X.mg "dict" = none) (hg : Gl X "dict" := by rfl)
    (hN : X.N[i]? = some x := by rfl) (hv : Vis X.env.scope x := by first | exact Or.inl rfl | exact Or.inr (Or.inl rfl) | exact Or.inr (Or.inr rfl)) (hx : Loc X.env.scope x := by first | exact Or.inl rfl | exact Or.inr rfl) (hd : (x == ("__debug__" : Str)) = false := by decide) (hcd : (x == ("__classdict__" : Str)) = false := by decide)
    (hsw : swapsWith (.Call (.Name "dict" q1) [e1] [] q2) (some (.Name x p1)) p3.line X.env = pure false := by rfl) (hf : X.fn x = true ∨ X.env.scope.names.lookup x = some .local := by first | exact .inl rfl | exact .inr rfl)
    (na : starEach [e1] X.env = (false, eval e1 X.env) :: starEach [] X.env := by rfl) (hpl : (backTo q2 (starEach [] X.env)).any (·.1) = false := by rfl)
    (hb : attributeBase (.Name x p4) "update" X.env (eval (.Name x p4) X.env) = eval (.Name x p4) X.env := by rfl)
    (hfew : ((backTo p6 (starEach [e2] X.env)).all (fun x => !x.1) && (backToKw p6 (keywordEach [] X.env)).all (fun x => x.1.isSome) && decide (([e2] : List Expr).length + ([] : List Keyword).length + (if ([] : List Keyword).isEmpty then 0 else 1) < 30)) = true := by rfl)
    (hl : (p5.endLine == p6.line) = true := by rfl) (hst : starEach [e2] X.env = (false, eval e2 X.env) :: starEach [] X.env := by rfl) (hpl2 : (backTo p6 (starEach [] X.env)).any (·.1) = false := by rfl)
    (hsw2 : swapsWith (.Call (.Attribute (.Name x p4) "update" p5) [e2] [] p6) none p7.line X.env = pure false := by rfl) :
    DSs Z X (.Assign [.Name x p1] (.Call (.Name "dict" q1) [e1] [] q2) p3 :: .Expr (.Call (.Attribute (.Name x p4) "update" p5) [e2] [] p6) p7 :: rest) (rUpd i t1 t2 u) := by
  obtain ⟨T1, pe1, h1⟩ := h1.ex
  refine ⟨_, pss_cons (ps_set F.nd hN hx (pe_callTy call_dictD hg hm (by decide +kernel) (pa_cons pe1 pa_nil na) (by decide) (by decide) na hpl) hsw hf) (pss_c (X := X) (body := .Expr (.Call (.Attribute (.Name x p4) "update" p5) [e2] [] p6) p7 :: rest)), fun m δ σ H B R n q o => h1 m δ σ H _ _ n q fun m v d H1 n1 s1 d1 g1 => ?_⟩
  cases d <;> first | exact g1.elim | skip
  rename_i kvs
  obtain ⟨a, od, rfl, ha⟩ := dn_dii.mp d1
  refine ⟨a, kvI2 kvs, rfl, .inr ⟨od, ha⟩, fun p hp => ?_⟩
  intro pins s I
  have np : ¬ OO Z σ δ p := n1.fresh F.zok hp
  have h0 : Fr0 Z.H0 p := n1.h0 hp
  have nzp : ¬ zone Z p := fun z => np (.inl (F.zok.zo p z))
  have xp := Ext.plus Z p h0
  have Fp := F.ext xp
  have zp : zone (Z.plus p) = zone Z := xp.zone
  have il : i < σ.length := by
    have e1 := I.len
    rw [List.length_set] at e1
    rw [e1]
    exact (List.getElem?_eq_some_iff.mp hN).1
  have n2 : Nv (Z.plus p) m (δ.set i .no) (σ.set i (some (.ref p))) (upd H1 p (.dK (kvI2 kvs))) := (n1.plus F.zok hp).blur
  have at_ : (σ.set i (some (V.ref p)))[i]? = some (some (.ref p)) := List.getElem?_set_self il
  obtain ⟨T2, pe2, h2⟩ := (h2 _ Fp).ex
  have pT : PS X (.Expr (.Call (.Attribute (.Name x p4) "update" p5) [e2] [] p6) p7) _ := ps_expr (pe_bm PySem.F.plainAttrs_dict PySem.F.slot_dict_update PySem.F.type_dict_update mt_update (pe_var hN hv hd hcd) (pa_cons pe2 pa_nil hst) hb hfew hl hst hpl2) hsw2
  refine (pss_cons (ps_lockB pT) (pss_c (X := X) (body := rest))).run pins s _ _ R I ⟨.ref p, at_, .inr (.inr (.inl ⟨rfl, .inl ⟨_, upd_same⟩⟩)), h2 m _ _ _ _ _ n2 g1 fun m w c H2 n3 s3 d3 g3 => ?_⟩
  cases c <;> first | exact g3.elim | skip
  rename_i more
  obtain ⟨b, od2, rfl, hb2⟩ := dn_dii.mp d3
  obtain ⟨hz, hq⟩ := g3
  have dct : H2 p = some (.dK (kvI2 kvs)) := s3.keep _ _ upd_same (fun _ z => nomatch z) (by rw [zp]; exact nzp)
  have ne : p ≠ b := fun e => by rw [e, hb2] at dct; cases dct
  refine ⟨p, b, kvI2 kvs, kvI2 more, rfl, rfl, ne, dct, .inr ⟨od2, hb2⟩, by rw [List.length_map, List.length_map]; exact hz, p, _, upd_same, trivial, fun od3 => ?_⟩
  rw [mer_kv]
  intro pins2 s2 I2
  have n4 := n3.pokeK (o := .dK (kvI2 (merI kvs more))) Fp.zok (Or.inr rfl) (by rw [zp]; exact nzp) h0 dct (fun _ z => nomatch z)
  have n5 := xp.nv (n4.pokeK (o := .frz od3 (.dK (kvI2 (merI kvs more)))) Fp.zok (Or.inr rfl) (by rw [zp]; exact nzp) h0 upd_same (fun _ z => nomatch z))
  have n6 := n5.setV (i := i) (d := .dii (merI kvs more)) (v := .ref p) new_dii
  rw [List.set_set, List.set_set] at n6
  exact hu.run n6 hq o I2
end
end DL

/-! sorted(a list of tuples of ints), any number -/
namespace DL
open PySem L2 PySem.Spec PyProof.Rows PySem.W
theorem lt_lex : ∀ xs ys : List Int, decide (xs < ys) = HT.lexLt xs ys
  | [], [] => by simp [HT.lexLt]
  | [], y :: ys => by simp [HT.lexLt]
  | x :: xs, [] => by simp [HT.lexLt]
  | x :: xs, y :: ys => by
    rw [HT.lexLt_cons, ← lt_lex xs ys]
    by_cases h : x = y
    · rw [if_pos h]; simp [h, List.cons_lt_cons_iff]
    · rw [if_neg h]; simp [h, List.cons_lt_cons_iff]
def encR (p : Addr × List Int) : PyData := .tuple (p.2.map .int)
theorem le_rows (p q : Addr × List Int) : dataLe false encR p q = !HT.lexLt q.2 p.2 := by
  show (!dataLt (.tuple (q.2.map .int)) (.tuple (p.2.map .int))) = _
  rw [dataLt_tuple]
  show (!rowLt (q.2.map .int) (p.2.map .int)) = _
  rw [dataLt_ints, lt_lex]
theorem lex_asym : ∀ {xs ys : List Int}, HT.lexLt xs ys = true → HT.lexLt ys xs = false := fun {xs ys} h => by
  rw [← lt_lex] at h ⊢
  rw [decide_eq_true_iff] at h
  exact decide_eq_false (fun h' => List.lt_irrefl xs (List.lt_trans h h'))
theorem lex_tri : ∀ {xs ys : List Int}, HT.lexLt xs ys = false → HT.lexLt ys xs = false → xs = ys
  | [], [], _, _ => rfl
  | [], _ :: _, h, _ => by cases h
  | _ :: _, [], _, h => by cases h
  | x :: xs, y :: ys, h, h' => by
    rw [HT.lexLt_cons] at h h'
    by_cases e : x = y
    · rw [if_pos e] at h
      rw [if_pos e.symm] at h'
      rw [e, lex_tri h h']
    · rw [if_neg e, decide_eq_false_iff_not] at h
      rw [if_neg (fun z => e z.symm), decide_eq_false_iff_not] at h'
      omega
theorem alike_rows (a b : List Int) : alike (.tuple (a.map .int)) (.tuple (b.map .int)) = true := by
  rw [alike]; exact alike_ints a b
section
variable {X : Cx}
def rSortRows (K : PySem.W.Frag) : List V → Hp → VK → Prop := fun vs H Q => ∃ (l : Addr) (ks : List (Addr × List Int)), vs = [V.ref l] ∧ SqL K H l (ks.map fun p => V.ref p.1) ∧ (∀ p ∈ ks, SqT K H p.1 (p.2.map V.int) ∧ p.2 ≠ []) ∧
  ∀ (L' : List (Addr × List Int)) (p : Addr), L'.Perm ks → (L'.map (·.2)).Pairwise (fun a b => HT.lexLt b a = false) → H p = none → Q (.ref p) (upd H p (.lst (L'.map fun q => V.ref q.1)))
theorem each_refs : ∀ ks : List (Addr × List Int), EachIs (fun v (b : Addr × List Int) => v = Value.ref b.1) (ks.map fun p => Value.ref p.1) ks
  | [] => .nil
  | k :: ks => .cons rfl (each_refs ks)
theorem refs_each : ∀ {vs : List Value} {ks : List (Addr × List Int)}, EachIs (fun v (b : Addr × List Int) => v = Value.ref b.1) vs ks → vs = ks.map fun p => Value.ref p.1
  | _, _, .nil => rfl
  | _, _, .cons h t => by rw [h, refs_each t]; rfl
theorem each_of {R : Value → (Addr × List Int) → Prop} : ∀ {ks : List (Addr × List Int)}, (∀ k ∈ ks, R (.ref k.1) k) → EachIs R (ks.map fun p => Value.ref p.1) ks
  | [], _ => .nil
  | k :: ks, h => .cons (h k List.mem_cons_self) (each_of fun k hk => h k (List.mem_cons_of_mem _ hk))
theorem cr_sortedRows (hu : X.A.units + 64 < cLine) : CallR X (.builtin "sorted") (rSortRows X.K) := by
  intro pins s σ H vs us Q I r h
  obtain ⟨l, ks, rfl, hl, hk, q⟩ := h
  rw [Vals.ref1 r]
  obtain ⟨its, rv, pl, hz⟩ := I.list hl
  have ei : its = ks.map fun p => Value.ref p.1 := refs_of_vals rv
  subst ei
  rw [List.length_map] at hz
  have rd : ∀ k ∈ ks, ∃ as, Reads s.heap (.ref k.1) (encR k) as := fun k hkm => Dp.reads I (encR k) (.ref k.1) (.ref k.1) (.tup (hk k hkm).1 (dpAll_ints k.2)) rfl
  refine sorted_data (R := fun v (b : Addr × List Int) => v = Value.ref b.1) (enc := encR) (bs := ks) pl.isList (each_refs ks) (each_of rd) ?_ ?_ hz (fun b hb => ?_) fun out ho he => ?_
  · intro d hd d' hd'
    obtain ⟨b, _, rfl⟩ := List.mem_map.mp hd
    obtain ⟨b', _, rfl⟩ := List.mem_map.mp hd'
    exact alike_rows _ _
  · refine .inl fun d hd => ?_
    obtain ⟨b, hb, rfl⟩ := List.mem_map.mp hd
    cases e : b.2 with
    | nil => exact absurd e (hk b hb).2
    | cons x xs => exact ⟨.int x, xs.map .int, by unfold encR; rw [e]; rfl⟩
  · show X.A.units + 2 + (PyData.depthAll (b.2.map .int) + 1) < cLine
    rw [depth_ints]
    omega
  · obtain ⟨ep, he'⟩ := PyProof.Rows.sortedAll_at s.heap (ks.map fun p => Value.ref p.1) out.toArray
    have eo := refs_each he
    have pm : (ks.mergeSort (dataLe false encR)).Perm ks := List.mergeSort_perm _ _
    have hlen : ((ks.mergeSort (dataLe false encR)).map fun q => V.ref q.1).length ≤ sizeLine := by rw [List.length_map, pm.length_eq]; exact hz
    have pw : ((ks.mergeSort (dataLe false encR)).map (·.2)).Pairwise (fun a b => HT.lexLt b a = false) := by
      rw [List.pairwise_map]
      have := List.pairwise_mergeSort (le := dataLe false encR) (fun a b c h1 h2 => ?_) (fun a b => ?_) ks
      · refine this.imp fun {a b} h => ?_
        rw [le_rows] at h
        simpa using h
      · rw [le_rows, Bool.not_eq_true'] at h1 h2 ⊢
        cases e : HT.lexLt c.2 a.2 with
        | false => rfl
        | true =>
          cases e2 : HT.lexLt c.2 b.2 with
          | true => rw [e2] at h2; cases h2
          | false =>
            cases e3 : HT.lexLt b.2 c.2 with
            | true => rw [lex_tr e3 e] at h1; cases h1
            | false =>
              rw [← lex_tri e2 e3] at h1
              rw [e] at h1; cases h1
      · rw [le_rows, le_rows]
        cases e : HT.lexLt b.2 a.2 with
        | false => rfl
        | true => rw [lex_asym e]; rfl
    refine ⟨.ref _, upd H (s.heap.objs.size + 1) (.lst ((ks.mergeSort (dataLe false encR)).map fun q => V.ref q.1)), I.laid (t' := s.toks) (fun _ _ => PyProof.Rows.sortedAll_old) (Nat.le_succ _) ⟨hlen, out, ep, ?_, he'⟩, rfl, q _ _ pm pw (I.hok.fresh (Nat.le_succ _))⟩
    rw [eo]
    exact vals_of_refs _
end
section
variable {L : Ls} {Z Z' : Zs} {X : Cx} {k : Nat} {ε : Nat → Str → Prop} {e : Expr} {te : TD} {pos : Pos}
/-- sorted(a list of rows): a list of the same rows, in order -/
@[simp] def rSortR (te : TD) : TD := fun m δ Q => te m δ fun m d => match d with
  | .lst ds => ∃ rows, D.rows ds = some rows ∧ (∀ r ∈ rows, r ≠ []) ∧ ∀ rows' : List (List Int), rows'.Perm rows → rows'.Pairwise (fun a b => HT.lexLt b a = false) → Q m (.lst (rows'.map rowD))
  | _ => False
theorem de_sortR (F : XF L Z X k ε) {p : Pos} (he : DE Z X e te) (hm : X.mg "sorted" = none) (hg : Gl X "sorted" := by rfl) (na : starEach [e] X.env = (false, eval e X.env) :: starEach [] X.env := by rfl) (hpl : (backTo pos (starEach [] X.env)).any (·.1) = false := by rfl) :
    DE Z X (.Call (.Name "sorted" p) [e] [] pos) (rSortR te) := by
  obtain ⟨T, pe, h⟩ := he.ex
  refine ⟨_, pe_callB (cr_sortedRows F.hu64) hg hm (by decide +kernel) (pa_cons pe pa_nil na) (by decide) (by decide) na hpl, fun m δ σ H Q R n g r => h m δ σ H _ _ n g fun m v d H1 n1 s1 d1 g1 => ?_⟩
  cases d <;> first | exact g1.elim | skip
  rename_i ds
  obtain ⟨rows, e1, hne, hq⟩ := g1
  rw [rows_map e1] at d1
  obtain ⟨z, a, vs, rfl, np, t, l⟩ := dn_lst.mp d1
  obtain ⟨ks, rfl, e2, e3⟩ := rows_refs l
  have hlk : ks.length = rows.length := by rw [← e2, List.length_map]
  refine ⟨a, ks, rfl, .inl (.inl t), fun p hp => ⟨by rw [F.K]; exact (e3 p hp).2.t, hne p.2 (by rw [← e2]; exact List.mem_map.mpr ⟨p, hp, rfl⟩)⟩, fun L' p pm pw hp => ?_⟩
  have dl := rows_dn (Z := Z) (P := OO Z σ δ) (H := H1) (ks := L') fun q hq => e3 q (pm.mem_iff.mp hq)
  refine r m (.ref p) (.lst ((L'.map (·.2)).map rowD)) _ (n1.same F.zok (same_upd hp)) (s1.trans (.same (same_upd hp))) (dn_newL dl (by rw [List.length_map, List.length_map, pm.length_eq, hlk, ← List.length_map (f := rowD)]; exact z) hp (n1.fresh F.zok hp)) ?_
  exact hq _ (by rw [← e2]; exact pm.map _) pw
end
end DL

/-! a tuple times 1 is the tuple itself -/
namespace DL
open PySem L2 PySem.Spec PyProof.Rows
theorem tuple_mul1 (l : Addr) (items : Array Value) (n : Nat) (dd : Option Addr) (sl : Array (Option Value)) (u : Tok) :
    Meets (Builtin.«tuple.__mul__» ⟨[.ref l, .int 1 u], []⟩) (fun _ R s => s.heap.get? l = some { cls := .type "tuple", dict := dd, data := .seq items n, slots := sl } ∧ R (.ok (.ret (Value.ref l))) s) :=
  .of_wp fun prog w A R s h => by
    obtain ⟨hp, g, d, tk, os⟩ := s
    obtain ⟨hl, h⟩ := h
    have f1 := AutoSeq1.idx_int
    wp_walk using wpAny_loadPart' hl
    exact ⟨_, rfl, h⟩
def rRep1 (K : PySem.W.Frag) : R2 := fun x y H Q => ∃ l xs, x = .ref l ∧ y = .int 1 ∧ SqT K H l xs ∧ Q (.ref l) H
section
variable {X : Cx}
theorem op_rep1 : OpR X (binaryOp .Mult) (rRep1 X.K) := by
  intro pins s σ H x y v u Q I rx ry h
  obtain ⟨l, xs, rfl, rfl, hT, q⟩ := h
  cases rx
  obtain ⟨t, rfl⟩ := ry
  obtain ⟨its, r, ⟨⟨cls, dd, data, sl⟩, ho, hc, n, hd⟩, hs⟩ := I.tuple hT
  simp only at hc hd
  subst hc hd
  exact wpAny_binaryOp_repeat_ref (T := "tuple") (U := "int") (by decide) ⟨_, ho, rfl⟩ (fun s' => typeIs_int s' 1 t) noFill_tuple_mul F.fills_int_mul F.slot_int_rmul repeat_tuple F.slot_int_index.lookup
    (call_meets F.slot_int_rmul (typeIs_int s 1 t) F.entry_int_rmul (F.args_int_rmul_2 _ _) (int_rmul_tuple 1 t l its.toArray n dd sl)
      ⟨ho, rfl, ⟨_, ho, rfl⟩, call_meets F.slot_tuple_mul ⟨_, ho, rfl⟩ F.entry_tuple_mul (F.args_tuple_mul_2 _ _) (tuple_mul1 l its.toArray n dd sl t) ⟨ho, ⟨.ref l, H, I, rfl, q⟩⟩⟩)
end
section
variable {L : Ls} {Z Z' : Zs} {X : Cx} {k : Nat} {ε : Nat → Str → Prop}
@[simp] def dMulT : D → D → (D → Prop) → Prop
  | .tup a, .int j, Q => a ≠ [] ∧ 1 ≤ j ∧ j ≤ 1000 ∧ a.length ≤ 1000 ∧ Q (.tup (List.replicate j.toNat a).flatten)
  | _, _, _ => False
def gRep1 : D → D → (D → Prop) → Prop
  | .tup a, .int j, Q => j = 1 ∧ Q (.tup a)
  | _, _, _ => False
theorem b_rep1 (hK : X.K = Z.K) : BinD Z X (binaryOp .Mult) gRep1 := by
  refine ⟨_, op_rep1, fun P H x y d e Q R hp hd he h q => ?_⟩
  unfold gRep1 at h
  split at h
  · rename_i as j
    obtain ⟨rfl, hq⟩ := h
    have hd0 := hd
    obtain ⟨_, a, vs, rfl, ta, la⟩ := dn_tupT hd
    rw [← hK] at ta
    exact ⟨a, vs, rfl, dn_int.mp he, ta, q _ _ H (Same.refl _) hd0 hq⟩
  · exact h.elim
theorem o_mulT (F : XF L Z X k ε) : BinD Z X (binaryOp .Mult) dMulT := ((b_rep1 F.K).or (b_repT F.K)).imp fun d e Q h => by
  unfold dMulT at h
  split at h
  · rename_i a j
    obtain ⟨hne, h1, h2, h3, hq⟩ := h
    by_cases e : j = 1
    · subst e
      left
      refine ⟨rfl, ?_⟩
      simpa using hq
    · right
      exact ⟨hne, by omega, h2, h3, hq⟩
  · exact h.elim
end
end DL

/-! tuples of the module -/
namespace DL
open PySem L2 PySem.Spec PyProof.Rows
def relB : List D → List Value → Bool
  | [], [] => true
  | .int i :: ds, .int j _ :: vs => decide (i = j) && relB ds vs
  | .non :: ds, .none :: vs => relB ds vs
  | _, _ => false
theorem relB_ok {Z : Zs} {P : Addr → Prop} {H : Hp} : ∀ {ds : List D} {us : List Value}, relB ds us = true → ∃ vs, Vals vs us ∧ DnL Z P H ds vs
  | [], [], _ => ⟨[], .nil, .nil⟩
  | d :: ds, u :: us, h => by
    cases d <;> cases u <;> simp only [relB] at h <;> first | cases h | skip
    · obtain ⟨vs, r, l⟩ := relB_ok h
      exact ⟨.non :: vs, .cons rfl r, .cons (dn_non.mpr rfl) l⟩
    · rw [Bool.and_eq_true, decide_eq_true_iff] at h
      obtain ⟨rfl, h⟩ := h
      obtain ⟨vs, r, l⟩ := relB_ok h
      exact ⟨.int _ :: vs, .cons ⟨_, rfl⟩ r, .cons (dn_int.mpr rfl) l⟩
  | [], _ :: _, h => by cases h
  | d :: _, [], h => by cases d <;> cases h
/-- the tuple that the module calls x -/
structure CstD (mg : Str → Option Value) (K : PySem.W.Frag) (x : Str) (ds : List D) : Prop where
  ex : ∃ (a : Addr) (o : Obj) (its : Array Value) (n : Nat), mg x = some (.ref a) ∧ K.lookup a = some o ∧ o.dict = none ∧ o.cls = .type "tuple" ∧ o.data = .seq its n ∧ its.size ≤ sizeLine ∧ relB ds its.toList = true
def cstB (K : PySem.W.Frag) (x : Str) (ds : List D) : Bool := match K.lookup (He.ga K x) with
  | some ⟨.type t, none, .seq its _, _⟩ => t == "tuple" && (decide (its.size ≤ 1000) && relB ds its.toList)
  | _ => false
theorem cst_of {h : Heap} {mg : Str → Option Value} {K : PySem.W.Frag} {x : Str} {ds : List D} (X : K.In h) (G : h.Ns mainGlobals mg) (c : (He.Fa.glo x).ok K = true) (b : cstB K x ds = true) : CstD mg K x ds := by
  unfold cstB at b
  split at b
  · rename_i t its n sl e
    rw [Bool.and_eq_true, Bool.and_eq_true, decide_eq_true_iff, beq_iff_eq] at b
    obtain ⟨rfl, hz, hr⟩ := b
    exact ⟨_, _, its, n, He.glo_ok X G c, e, rfl, rfl, rfl, by rw [sizeLine_eq]; omega, hr⟩
  · cases b
section
variable {L : Ls} {Z Z' : Zs} {X : Cx} {k : Nat} {ε : Nat → Str → Prop}
theorem rel_len : ∀ {ds : List D} {us : List Value}, relB ds us = true → ds.length = us.length
  | [], [], _ => rfl
  | d :: ds, u :: us, h => by
    cases d <;> cases u <;> simp only [relB] at h <;> first | cases h | skip
    · rw [List.length_cons, List.length_cons, rel_len h]
    · rw [Bool.and_eq_true] at h
      rw [List.length_cons, List.length_cons, rel_len h.2]
  | [], _ :: _, h => by cases h
  | d :: _, [], h => by cases d <;> cases h
theorem de_globD (F : XF L Z X k ε) {x : Str} {ds : List D} {pos : Pos} (c : CstD X.mg L.K x ds) (hg : Gl X x := by rfl) (hd : (x == ("__debug__" : Str)) = false := by decide) : DE Z X (.Name x pos) (rC (.tup ds)) := by
  obtain ⟨a, o, its, n, hm, h1, h2, h3, h4, h5, h6⟩ := c.ex
  refine ⟨_, pe_glob (v := .ref a) hg hm rfl hd, fun m δ σ H Q R r g q => q _ _ (.tup ds) H r (.refl _ _) ?_ g⟩
  obtain ⟨vs, rv, l⟩ := relB_ok (Z := Z) (P := OO Z σ δ) (H := H) h6
  have hK : Z.K = L.K := by unfold Zs.K; rw [F.hL]
  exact dn_tupN.mpr ⟨by rw [rel_len h6, Array.length_toList]; exact h5, a, vs, rfl, .inr ⟨o, its, _, by rw [hK]; exact h1, h2, h3, h4, h5, rv⟩, l⟩
end
end DL

/-! texts that repr makes may be compared -/
namespace DL
open PySem L2 PySem.Spec PyProof.Rows
theorem strOk_of (s : String) : PyData.strOk (Str.ofString s) = true := by
  rw [Str.ofString_eq_toList]
  unfold PyData.strOk
  rw [Array.all_eq_true_iff_forall_mem]
  intro n hn
  rw [List.mem_toArray] at hn
  obtain ⟨c, _, rfl⟩ := List.mem_map.mp hn
  have := c.valid
  rw [decide_eq_true_iff]
  unfold UInt32.isValidChar Nat.isValidChar at this
  show c.val.toNat < _
  rcases this with h | h
  · omega
  · exact h.2
theorem strOk_app {a b : Str} (ha : PyData.strOk a = true) (hb : PyData.strOk b = true) : PyData.strOk (a ++ b) = true := by
  show (a.cps ++ b.cps).all _ = true
  rw [Array.all_append, Bool.and_eq_true]
  exact ⟨ha, hb⟩
theorem strOk_join {x : Str} (hx : PyData.strOk x = true) : ∀ {ts : List Str}, (∀ t ∈ ts, PyData.strOk t = true) → PyData.strOk (Str.join x ts) = true
  | [], _ => (by decide +kernel : PyData.strOk Str.empty = true)
  | [t], h => h t List.mem_cons_self
  | t :: u :: ts, h => by
    show PyData.strOk (t ++ x ++ Str.join x (u :: ts)) = true
    exact strOk_app (strOk_app (h t List.mem_cons_self) hx) (strOk_join hx fun v hv => h v (List.mem_cons_of_mem _ hv))
theorem strOk_tuple {ts : List Str} (h : ∀ t ∈ ts, PyData.strOk t = true) : PyData.strOk (tupleText ts) = true := by
  unfold tupleText
  exact strOk_app (strOk_app (strOk_of _) (strOk_join (strOk_of _) h)) (strOk_of _)
mutual
theorem shown_strOk {w : Nat} : ∀ (n : Nat) (d : D), tiny w n d → PyData.strOk d.py.shown = true
  | n, .non, h => strOk_of _
  | n, .bl b, h => by cases b <;> exact strOk_of _
  | n, .int i, h => strOk_of _
  | 0, .tup ds, h => h.elim
  | n + 1, .tup ds, h => strOk_tuple (showns_strOk n ds h.2)
  | 0, .str _, h | 0, .lst _, h | 0, .emp, h | 0, .exc _, h | 0, .set _, h | 0, .rng, h | 0, .scr _, h | 0, .fn _, h | 0, .ty _, h | 0, .cl _, h | 0, .dii _, h | 0, .dci _, h | 0, .dcs _, h | 0, .dcx _ _, h | 0, .tpw _, h => h.elim
  | n + 1, .str _, h | n + 1, .lst _, h | n + 1, .emp, h | n + 1, .exc _, h | n + 1, .set _, h | n + 1, .rng, h | n + 1, .scr _, h | n + 1, .fn _, h | n + 1, .ty _, h | n + 1, .cl _, h | n + 1, .dii _, h | n + 1, .dci _, h | n + 1, .dcs _, h | n + 1, .dcx _ _, h | n + 1, .tpw _, h => h.elim
theorem showns_strOk {w : Nat} : ∀ (n : Nat) (ds : List D), (∀ d ∈ ds, tiny w n d) → ∀ t ∈ PyData.shownAll (D.pyL ds), PyData.strOk t = true
  | n, [], _ => fun t ht => by cases ht
  | n, d :: ds, h => fun t ht => by
    have h1 := shown_strOk n d (h d List.mem_cons_self)
    have h2 := showns_strOk n ds fun c hc => h c (List.mem_cons_of_mem _ hc)
    unfold D.pyL PyData.shownAll at ht
    rcases List.mem_cons.mp ht with rfl | ht
    · exact h1
    · exact h2 t ht
end
theorem shown_shp {w n : Nat} {d : D} (h : tiny w n d) : (D.str d.py.shown).shp = true := by
  have := shown_strOk n d h
  simp [D.shp, D.py, SeqAt.shaped, PyData.canLay0, PyData.canLay, PyData.depth]
  exact this
theorem str_eqv (s : Str) : (D.str s).eqv (.str s) = true := by
  show PyData.eqv (.str s) (.str s) = true
  simp [PyData.eqv]
end DL

namespace DL
open PySem L2 PySem.Spec PyProof.Rows
section
variable {L : Ls} {Z Z' : Zs} {X : Cx} {k : Nat} {ε : Nat → Str → Prop} {e : Expr} {te : TD} {pos : Pos}
/-! ### an item of the def's own list is exchanged: x[i] = e -/
@[simp] def rPut (i : Nat) (te ti : TD) : TSd := fun B m δ => match δ[i]? with
  | some (.own ds) => te m δ fun m d => ti m δ fun m z => match z with
    | .int z => ∃ j, ixN ds.length z = some j ∧ B.nx m (δ.set i (.own (ds.set j d)))
    | _ => False
  | _ => False
theorem ds_put (F : XF L Z X k ε) (i : Nat) {x : Str} {ei : Expr} {ti : TD} {p1 p2 : Pos} (he : DE Z X e te) (hi : DE Z X ei ti) (hN : X.N[i]? = some x := by rfl) (hv : Vis X.env.scope x := by first | exact Or.inl rfl | exact Or.inr (Or.inl rfl) | exact Or.inr (Or.inr rfl))
    (hd : (x == ("__debug__" : Str)) = false := by decide) (hcd : (x == ("__classdict__" : Str)) = false := by decide)
    (hs : swapsWithSole [.Subscript (.Name x p1) ei p2] e pos.line X.env = pure false := by rfl) (hw : swappedStores [.Subscript (.Name x p1) ei p2] e X.env = pure none := by rfl)
    (h1 : (assignEach [.Subscript (.Name x p1) ei p2] X.env).map (·.2) = [assign (.Subscript (.Name x p1) ei p2) X.env] := by rfl)
    (ha : ∀ v, assign (.Subscript (.Name x p1) ei p2) X.env v = (do
      let ov ← holding [v] (eval (.Name x p1) X.env)
      let iv ← holding [v, ov] (eval ei X.env)
      standAt p2
      holding [v, ov, iv] (setItem ov iv v)
      release [v, ov, iv] []) := by intro _; rfl) : DS Z X (.Assign [.Subscript (.Name x p1) ei p2] e pos) (rPut i te ti) := by
  obtain ⟨T, p, h⟩ := he.ex
  obtain ⟨T', p', h'⟩ := hi.ex
  refine ⟨_, ps_asg p (pg_sub (pe_var hN hv hd hcd) p' set_list ha) hs hw h1, fun m δ σ H B R n g o => ?_⟩
  unfold rPut at g
  split at g
  · rename_i ds hds
    refine h m δ σ H _ _ n g fun m1 v d H1 n1 s1 d1 q => ?_
    obtain ⟨a, vs, e1, e2, e3, _⟩ := n1.own i ds hds
    refine ⟨.ref a, e1, h' m1 δ σ H1 _ _ n1 q fun m2 v2 d2 H2 n2 s2 dd2 q2 => ?_⟩
    cases d2 <;> first | exact q2.elim | skip
    rename_i z
    obtain ⟨j, hj, q2⟩ := q2
    obtain ⟨b, ws, f1, f2, f3, f4, f5, f6⟩ := n2.own i ds hds
    rw [e1] at f1; cases f1
    have dv : Dn Z (OO Z σ δ) H2 d v := Dn.stp (s2.mono fun c z => Or.inl (F.zok.zo c z)) d v d1
    refine ⟨a, ws, z, j, rfl, dn_int.mp dd2, f2, by rw [f3.length]; exact hj, ?_⟩
    exact o.nx _ _ _ _ (n2.pokeO F.zok hds e1 f2 (f3.set j dv) (by rw [List.length_set]; exact f6)) q2
  · exact g.elim
end
end DL

/-! sorted(.., key=lambda x: ..), the key an int -/
namespace DL
open PySem L2 PySem.Spec PyProof.Rows PySem.W
def ExtH (h h' : Heap) : Prop := ∀ b o, h.get? b = some o → h'.get? b = some o
/-- the body of a lambda with the parameter x and the free name y: where these are u and w it comes to k -/
def Light (body : Expr) (x y : Str) (h : Heap) (u w : Value) (k : Int) : Prop :=
  ∀ (prog : Program) (wd : World) (A : Around) (env : PySem.Env) (s : Shared) (Q : Value → Shared → Prop) (E : Value → Shared → Prop), ExtH h s.heap → env.scope.kind = .function → env.kindOf x = some .local → (∃ m, s.heap.Ns env.locals m ∧ m x = some u) →
    env.kindOf y = some .free → (∃ c, env.cells.lookup y = some c ∧ s.heap.IsCell c (some w)) → (∀ t tk, Q (.int k t) { s with toks := tk }) → wpAny (model prog wd) A (eval body env) Q E s
theorem ext_tup {h h' : Heap} {a : Addr} {its : Array Value} (e : ExtH h h') (t : IsTup h a its) : IsTup h' a its := by
  obtain ⟨o, ho, r⟩ := t
  exact ⟨o, e _ _ ho, r⟩
theorem ext_list {h h' : Heap} {a : Addr} {its : Array Value} (e : ExtH h h') (t : h.IsList a its) : h'.IsList a its := by
  obtain ⟨o, ho, r⟩ := t
  exact ⟨o, e _ _ ho, r⟩
/-- x[y][0] -/
theorem light_A {h : Heap} {x y : Str} {p1 p2 p3 p4 p5 : Pos} {j0 : Nat} {a b : Addr} {is js : Array Value} {n : Int} {tn : Tok} {j : Nat} {k : Int} {tk : Tok} (ha : IsTup h a is) (hlo : -(2 ^ 63) ≤ n) (hhi : n < 2 ^ 63) (hj : seqIndex? n is.size = some j) (hx : is[j]? = some (.ref b))
    (hb : IsTup h b js) (h0 : js[0]? = some (.int k tk)) (dx : (x == ("__debug__" : Str)) = false) (dy : (y == ("__debug__" : Str)) = false) (cy : (y == ("__classdict__" : Str)) = false) :
    Light (.Subscript (.Subscript (.Name x p1) (.Name y p2) p3) (.Constant (.int 0) j0 p4) p5) x y h (.ref a) (.int n tn) k := by
  intro prog wd A env s Q E e hk kx hm ky hc hq
  obtain ⟨m, hn, hmx⟩ := hm
  obtain ⟨c, hc1, hc2⟩ := hc
  have hsz : 0 < js.size := by
    rcases Nat.eq_zero_or_pos js.size with z | z
    · rw [Array.getElem?_eq_none (by omega)] at h0; cases h0
    · exact z
  refine Subscript_ (Subscript_ ?_)
  refine wpAny_Name (wpAny_loadName_local hk kx hn hmx ?_) dx
  refine wpAny_Name (wpAny_loadName_free hk ky hc1 hc2 ?_ cy) dy
  refine subscriptTail_builtinR (x := .ref b) (ext_tup e ha).typeIs slot_tuple_getitem.lookup (getItem_tuple (j := j) (ext_tup e ha) hlo hhi hj hx ⟨rfl, ?_⟩) rfl
  refine wpAny_Constant_int ?_
  exact subscriptTail_builtinR (x := .int k tk) (ext_tup (h' := s.heap) e hb).typeIs slot_tuple_getitem.lookup (getItem_tuple (j := 0) (ext_tup e hb) (by omega) (by omega) (seqIndex_of (k := 0) (by omega) (by omega)) h0 ⟨rfl, hq _ _⟩) rfl
/-- y[x] -/
theorem light_B {h : Heap} {x y : Str} {p1 p2 p3 : Pos} {a : Addr} {is : Array Value} {n : Int} {tn : Tok} {k : Int} {tk : Tok} (ha : h.IsList a is) (hlo : 0 ≤ n) (hhi : n < 2 ^ 63) (hx : is[n.toNat]? = some (.int k tk))
    (dx : (x == ("__debug__" : Str)) = false) (dy : (y == ("__debug__" : Str)) = false) (cy : (y == ("__classdict__" : Str)) = false) :
    Light (.Subscript (.Name y p1) (.Name x p2) p3) x y h (.int n tn) (.ref a) k := by
  intro prog wd A env s Q E e hk kx hm ky hc hq
  obtain ⟨m, hn, hmx⟩ := hm
  obtain ⟨c, hc1, hc2⟩ := hc
  refine Subscript_ ?_
  refine wpAny_Name (wpAny_loadName_free hk ky hc1 hc2 ?_ cy) dy
  refine wpAny_Name (wpAny_loadName_local hk kx hn hmx ?_) dx
  exact item_listR (ext_list e ha) hlo hhi hx (hq _ s.toks) rfl
/-- the names of a lambda with the parameter x and the free name y -/
structure KeyS (sc scope : Scope) (x y : Str) : Prop where
  kind : scope.kind = .function
  co : scope.isCoroutine = false
  gen : scope.isGenerator = false
  noc : ∀ z ∈ scope.names, z.2 ≠ .cell
  par : scope.names.lookup x = some .local
  fre : scope.names.lookup y = some .free
  free : ∀ z ∈ scope.names, z.2 = .free → sc.names.lookup z.1 = some .cell ∨ sc.names.lookup z.1 = some .free
def keySB (sc scope : Scope) (x y : Str) : Bool :=
  decide (scope.kind = .function) && !scope.isCoroutine && !scope.isGenerator && decide (scope.names.lookup x = some .local) && decide (scope.names.lookup y = some .free) && scope.names.all fun z => !decide (z.2 = .cell) && (!decide (z.2 = .free) || decide (sc.names.lookup z.1 = some .cell) || decide (sc.names.lookup z.1 = some .free))
theorem keyS_by {sc scope : Scope} {x y : Str} (h : keySB sc scope x y = true) : KeyS sc scope x y := by
  unfold keySB at h
  simp only [Bool.and_eq_true, Bool.or_eq_true, Bool.not_eq_true', decide_eq_true_eq, decide_eq_false_iff_not, List.all_eq_true] at h
  obtain ⟨⟨⟨⟨⟨h1, h2⟩, h3⟩, h5⟩, h6⟩, h4⟩ := h
  refine ⟨h1, h2, h3, fun z hz => (h4 z hz).1, h5, h6, fun z hz e => ?_⟩
  rcases (h4 z hz).2 with (q | q) | q
  · exact absurd e q
  · exact .inl q
  · exact .inr q
section
variable {X : Cx} {pins : List (Addr × Obj)} {σ : L2.St} {H : Hp} {s : Shared}
theorem key_turn {A : Around} {params : Arguments} {body : Expr} {scope : Scope} {x y : Str} {i : Nat} {w : V} {f c' : Addr} {pm ctv : Value} {k : Int} {u : Value} {h : Heap} {tk : Nat} (I : Inv X pins σ H s) (KS : KeyS X.env.scope scope x y)
    (hf : s.heap.get? f = some (PySem.W.kla_obj "<lambda>" (X.env.qual ++ "<lambda>") params body scope (cloFrom X.env.cells scope.names []) pm c' ctv)) (hco : H c' = some (LamX.CodeO c' (X.env.qual ++ "<lambda>")))
    (hbind : bindArgs (PySem.W.kla_fn "<lambda>" (X.env.qual ++ "<lambda>") params body scope (cloFrom X.env.cells scope.names []) pm (.ref c') ctv) ⟨[u], []⟩ = pure [(x, u)]) (hr : A.depth < recursionLimit)
    (hN : X.N[i]? = some y) (hs : σ[i]? = some (some w)) (e : ExtH s.heap h) (hl : ∀ w', RelV w w' → Light body x y s.heap u w' k) :
    wpAny (model X.prog X.w) A (call (.ref f) [u]) (KeyPure (.int k) { s with heap := h, toks := tk }) (fun _ _ => False) { s with heap := h, toks := tk } := by
  obtain ⟨m, hn, hlk⟩ := I.loc
  have hvy : Vis X.env.scope y := (KS.free _ (PySem.mem_of_lookup KS.fre) rfl).elim (fun k => .inr (.inl k)) (fun k => .inr (.inr k))
  obtain ⟨w', rw', lk⟩ := hlk i y w hN hs hvy
  have hfree : ∀ z ∈ scope.names, z.2 = .free → ∃ c, X.env.cells.lookup z.1 = some c := fun z hz ez => by
    rcases KS.free z hz ez with k | k
    · exact I.ok.has _ (.inl k)
    · exact I.ok.has _ (.inr k)
  have cm : ∀ {z c}, (cloFrom X.env.cells scope.names []).lookup z = some c → X.env.cells.lookup z = some c := fun {z c} ez => by
    rcases cloFrom_mem (PySem.mem_of_lookup ez) with hm | ⟨h1, h2⟩
    · cases hm
    · obtain ⟨c1, hc⟩ := hfree _ h1 rfl
      have hc : X.env.cells.lookup z = some c1 := hc
      have e2 : c = c1 := by
        rw [h2, hc] <;> rfl
      rw [e2]
      exact hc
  obtain ⟨cy, hcy⟩ : ∃ c, (cloFrom X.env.cells scope.names []).lookup y = some c := mem_lookup (cloFrom_has (cells := X.env.cells) (acc := []) (PySem.mem_of_lookup KS.fre))
  have hcell : s.heap.IsCell cy (some w') := by
    have h1 := cm hcy
    rcases lk with ⟨k1, _⟩ | ⟨_, c2, h2, h3⟩
    · have k1 : X.env.scope.names.lookup y = some .local := k1
      rcases KS.free _ (PySem.mem_of_lookup KS.fre) rfl with k2 | k2 <;> rw [show X.env.scope.names.lookup y = _ from k2] at k1 <;> cases k1
    · rw [h1] at h2; cases h2; exact h3
  obtain ⟨⟨oc, vs, t, hoc, hdc, hvc⟩, _, _⟩ := I.hok c' _ hco
  have nl : h.NoLimit := I.ok.mod.nolimit.keeps fun b o q => e b o (I.bk b o q)
  refine wpAny_call ?_
  refine PySem.W.kla_callFunE hr (e _ _ hf) rfl KS.co KS.gen rfl ⟨c', oc, vs, t, rfl, e _ _ hoc, hdc, hvc⟩ ?_
  rw [hbind]
  refine wpAny_pure (wpAny_newFunctionEnv (fun z hz => KS.noc z hz) (fun z hz => ?_) (fun h₁ hns hsb => ⟨nl.fresh _ hsb, ?_⟩) KS.kind)
  · rw [List.mem_singleton.mp hz]; exact KS.par
  · have kp : ExtH h h₁ := fun b o q => hsb.extBut b o (Nat.ne_of_lt (Heap.lt_size q)) (Heap.get?_push_of_some _ q)
    refine PySem.W.kla_codeExpr (hl w' rw' _ _ _ _ _ _ _ (fun b o q => kp b o (e b o q)) KS.kind KS.par ⟨_, hns, ?_⟩ KS.fre ⟨cy, hcy, ?_⟩ fun t tk' => ?_)
    · simp
    · obtain ⟨o, ho, hd⟩ := hcell
      exact ⟨o, kp _ _ (e _ _ ho), hd⟩
    · exact ⟨h₁, tk', rfl, kp, .int _ _⟩
end
section
variable {X : Cx} {e : Expr} {t : TA}
theorem each_vals : ∀ {xs : List (V × D)} {us : List Value}, Vals (xs.map (·.1)) us → EachIs (fun u (x : V × D) => RelV x.1 u) us xs
  | [], us, h => by cases h; exact .nil
  | x :: xs, us, h => by
    cases h with
    | cons h r => exact .cons h (each_vals r)
theorem vals_each : ∀ {us : List Value} {xs : List (V × D)}, EachIs (fun u (x : V × D) => RelV x.1 u) us xs → Vals (xs.map (·.1)) us
  | _, _, .nil => .nil
  | _, _, .cons h r => .cons h (vals_each r)
def leK (key : V × D → Int) (a b : V × D) : Bool := decide (key a ≤ key b)
theorem le_leK (key : V × D → Int) : dataLe false (fun x : V × D => PyData.int (key x)) = leK key := by
  funext a b
  show (!dataLt (.int (key b)) (.int (key a))) = _
  unfold leK
  rw [dataLt_int]
  by_cases h : key b < key a
  · rw [decide_eq_true h, decide_eq_false (by omega)]; rfl
  · rw [decide_eq_false h, decide_eq_true (by omega)]; rfl
/-- sorted(a list, key=a lambda): what is asked -/
def restK (T : List (Addr × Str)) (K : PySem.W.Frag) (i : Nat) (KV : Hp → V → V → Int → Prop) (σ : L2.St) (Q : VK) (v : V) (H1 : Hp) : Prop := LamX.Tabs T H1 ∧ ∀ H2, LamX.ExtN H1 H2 → LamX.Tabs T H2 → ∃ (l : Addr) (xs : List (V × D)) (key : V × D → Int) (w : V), v = .ref l ∧ SqL K H2 l (xs.map (·.1)) ∧ σ[i]? = some (some w) ∧
  (∀ x ∈ xs, KV H2 x.1 w (key x)) ∧ ∀ p, H2 p = none → Q (.ref p) (upd H2 p (.lst ((xs.mergeSort (leK key)).map (·.1))))
def tSortK (T : List (Addr × Str)) (K : PySem.W.Frag) (i : Nat) (KV : Hp → V → V → Int → Prop) (t : TE) : TE := fun σ H Q => t σ H (restK T K i KV σ Q)
theorem pe_sortK {T : List (Addr × Str)} {te : TE} {c P : Addr} {params : Arguments} {body : Expr} {scope : Scope} {p lpos kpos pos : Pos} {x y : Str} {i : Nat} {KV : Hp → V → V → Int → Prop} (he : PE X e te) (hg : Gl X "sorted") (hm : X.mg "sorted" = none)
    (TB : LamX.TabB X.base X.mg c P) (hcode : X.env.code = .ref c) (hmT : (P, X.env.qual ++ "<lambda>") ∈ T) (hu : ∀ p ∈ T, p.1 = P → p.2 = X.env.qual ++ "<lambda>") (KS : KeyS X.env.scope scope x y) (hdef : defaultsOf params X.env = ([], []))
    (hbind : ∀ (q : Str) (cl : List (Str × Addr)) (pm cv ctv u : Value), bindArgs (PySem.W.kla_fn "<lambda>" q params body scope cl pm cv ctv) ⟨[u], []⟩ = pure [(x, u)])
    (hdp : X.A.depth < recursionLimit) (hun : X.A.units + 64 < cLine) (hN : X.N[i]? = some y)
    (hKV : ∀ (pins : List (Addr × Obj)) (s : Shared) (σ : L2.St) (H : Hp) (xv w : V) (k : Int) (u w' : Value), Inv X pins σ H s → KV H xv w k → RelV xv u → RelV w w' → Light body x y s.heap u w' k)
    (hna : starEach [e] X.env = (false, eval e X.env) :: starEach [] X.env)
    (he2 : backTo pos (starEach [e] X.env) = (false, eval e X.env) :: backTo pos (starEach [] X.env)) (hpl : (backTo pos (starEach [e] X.env)).any (·.1) = false)
    (hall : (backToKw pos (keywordEach [⟨some "key", .Lambda params body scope lpos, kpos⟩] X.env)).all (·.1.isSome) = true) (hnone : (backToKw pos (keywordEach [⟨some "key", .Lambda params body scope lpos, kpos⟩] X.env)).any (·.1.isNone) = false)
    (hks : (backToKw pos (keywordEach [⟨some "key", .Lambda params body scope lpos, kpos⟩] X.env)).filterMap (·.1) = [Str.ofString "key"]) :
    PE X (.Call (.Name "sorted" p) [e] [⟨some "key", .Lambda params body scope lpos, kpos⟩] pos) (tSortK T X.K i KV te) := by
  refine ⟨fun pins s σ H Q I h => ?_⟩
  refine wpAny_Call_Name_kw (ld_blt I hg hm (by decide +kernel : bootBuiltins (Str.ofString "sorted") = some (.builtin "sorted")) ?_ (by decide) (by decide))
  refine PyProof.Rows.callWith_kw (thn ((pa_cons he pa_nil hna).run pos pins s σ H (fun vs H1 => match vs with | [v] => restK T X.K i KV σ Q v H1 | _ => False) I h) fun us s1 ⟨vs, H1, I1, r1, q1⟩ => ?_) he2 hpl hall hnone
  obtain ⟨v, rfl⟩ : ∃ v, vs = [v] := by
    match vs, q1 with
    | [v], _ => exact ⟨v, rfl⟩
  obtain ⟨hT, q1⟩ := (show restK T X.K i KV σ Q v H1 from q1)
  show wpAny _ _ (evalAll ((do let v ← eval (.Lambda params body scope lpos) X.env; standAt pos; pure v) :: [])) _ _ s1
  refine wpAny_evalAll_cons (wpAny_bind (LamX.lam_make2 I1 TB hcode hmT hu hT hdef (fun z hz ez => ?_) fun f c' pm ctv H2 s2 I2 eN T2 hf hfn hfr hco => wpAny_bind (wpAny_standAt (wpAny_pure ?_))))
  · rcases KS.free z hz ez with k | k
    · exact I.ok.has _ (.inl k)
    · exact I.ok.has _ (.inr k)
  refine wpAny_evalAll_nil ?_
  obtain ⟨l, xs, key, w, rfl, hl, hw, hk, q⟩ := q1 H2 eN T2
  rw [hks, Vals.ref1 r1]
  obtain ⟨its, rv, pl, hz⟩ := I2.list hl
  show wpAny _ _ (call (.builtin "sorted") [.ref l] [(Str.ofString "key", .ref f)]) _ _ s2
  refine PySem.W.sorted_key_data (b := false) (bs := xs) (vs := its) (R := fun u (x : V × D) => RelV x.1 u) (fun x => .int (key x)) pl.isList (each_vals rv) ?_ ?_ (by rw [List.length_map] at hz; exact hz) (fun x hx => ?_) (PyProof.Rows.ksk_s1 _ _) (fun _ => PyProof.Rows.ksk_l1 _ _) (fun x => PyProof.Rows.ksk_t1 _ _) (fun u x hR hx h tk e => ?_) fun out cc h' tk up fr at_ ho he => ?_
  · intro d hd d' hd'
    obtain ⟨b, _, rfl⟩ := List.mem_map.mp hd
    obtain ⟨b', _, rfl⟩ := List.mem_map.mp hd'
    rfl
  · refine .inr fun d hd => ?_
    obtain ⟨b, _, rfl⟩ := List.mem_map.mp hd
    exact ⟨by simp, by simp⟩
  · show X.A.units + 2 + 0 < cLine
    omega
  · exact key_turn I2 KS hf hco (hbind _ _ _ _ _ _) hdp hN hw e fun w' hw' => hKV _ _ _ _ _ _ _ _ _ I2 (hk x hx) hR hw'
  · rw [le_leK] at he
    exact ⟨.ref _, upd H2 (s2.heap.objs.size + 1) (.lst ((xs.mergeSort (leK key)).map (·.1))), I2.laid (t' := tk) up (Nat.le_succ _) ⟨by rw [List.length_map, (List.mergeSort_perm _ _).length_eq, ← List.length_map (f := (·.1))]; exact hz, out, cc, vals_each he, at_⟩, rfl, q _ (I2.hok.fresh (Nat.le_succ _))⟩
end
section
variable {L : Ls} {Z Z' : Zs} {X : Cx} {k : Nat} {ε : Nat → Str → Prop} {e : Expr} {te : TD} {pos : Pos}
/-- x[y][0], by values -/
def kvA (K : PySem.W.Frag) (H : Hp) (xv w : V) (k : Int) : Prop := ∃ (a b : Addr) (is js : List V) (n : Int), xv = .ref a ∧ w = .int n ∧ -(2 ^ 63) ≤ n ∧ n < 2 ^ 63 ∧ SqT K H a is ∧ atI is n = some (.ref b) ∧ SqT K H b js ∧ js[0]? = some (.int k)
theorem kvA_light {x y : Str} {p1 p2 p3 p4 p5 : Pos} {j0 : Nat} (dx : (x == ("__debug__" : Str)) = false) (dy : (y == ("__debug__" : Str)) = false) (cy : (y == ("__classdict__" : Str)) = false) (pins : List (Addr × Obj)) (s : Shared) (σ : L2.St) (H : Hp) (xv w : V) (k : Int) (u w' : Value)
    (I : Inv X pins σ H s) (h : kvA X.K H xv w k) (r : RelV xv u) (r' : RelV w w') : Light (.Subscript (.Subscript (.Name x p1) (.Name y p2) p3) (.Constant (.int 0) j0 p4) p5) x y s.heap u w' k := by
  obtain ⟨a, b, is, js, n, rfl, rfl, hlo, hhi, ha, he, hb, h0⟩ := h
  cases r
  obtain ⟨tn, rfl⟩ := r'
  obtain ⟨its, rv, pl, hz⟩ := I.tuple ha
  obtain ⟨jts, rv2, pl2, hz2⟩ := I.tuple hb
  obtain ⟨j, h1, h2, h3, h4, h5⟩ := atI_get he
  obtain ⟨w1, ew, rw1⟩ := rv.get h2
  cases rw1
  obtain ⟨w2, ew2, rw2⟩ := rv2.get h0
  obtain ⟨tk, rfl⟩ := rw2
  have hl := rv.length
  exact light_A pl hlo hhi (by rw [List.size_toArray, ← hl]; exact h1) (by simpa using ew) pl2 (by simpa using ew2) dx dy cy
/-- sorted(e, key=lambda x: x[y][0]) -/
@[simp] def rSortKA (i : Nat) (te : TD) : TD := fun m δ Q => te m δ fun m d => match d, δ[i]? with
  | .lst ds, some (.val (.int n)) => ∃ key : D → Int, -(2 ^ 63) ≤ n ∧ n < 2 ^ 63 ∧ (∀ d ∈ ds, ∃ xs ys, d = .tup xs ∧ atI xs n = some (.tup ys) ∧ ys[0]? = some (.int (key d))) ∧ Q m (.lst (ds.mergeSort fun a b => decide (key a ≤ key b)))
  | _, _ => False
theorem zip_mem_dn {P : Addr → Prop} {H : Hp} : ∀ {ds : List D} {vs : List V}, DnL Z P H ds vs → ∀ p ∈ vs.zip ds, Dn Z P H p.2 p.1
  | [], vs, h, p, hp => by rw [List.zip_nil_right] at hp; cases hp
  | d :: ds, vs, h, p, hp => by
    obtain ⟨v, r, rfl, h1, h2⟩ := h.of_cons
    rcases List.mem_cons.mp hp with rfl | hp
    · exact h1
    · exact zip_mem_dn h2 p hp
theorem dnl_of_zip {P : Addr → Prop} {H : Hp} : ∀ {ps : List (V × D)}, (∀ p ∈ ps, Dn Z P H p.2 p.1) → DnL Z P H (ps.map (·.2)) (ps.map (·.1))
  | [], _ => .nil
  | p :: ps, h => .cons (h p List.mem_cons_self) (dnl_of_zip fun q hq => h q (List.mem_cons_of_mem _ hq))
theorem de_sortKA (F : XF L Z X k ε) {c P : Addr} {params : Arguments} {scope : Scope} {p lpos kpos : Pos} {x y : Str} {p1 p2 p3 p4 p5 : Pos} {j0 : Nat} (i : Nat) (he : DE Z X e te) (hm : X.mg "sorted" = none)
    (TB : LamX.TabB X.base X.mg c P) (hcode : X.env.code = .ref c) (hmT : (P, X.env.qual ++ "<lambda>") ∈ L.T) (hu : ∀ p ∈ L.T, p.1 = P → p.2 = X.env.qual ++ "<lambda>") (KS : KeyS X.env.scope scope x y) (hdef : defaultsOf params X.env = ([], []))
    (hbind : ∀ (q : Str) (cl : List (Str × Addr)) (pm cv ctv u : Value), bindArgs (PySem.W.kla_fn "<lambda>" q params (.Subscript (.Subscript (.Name x p1) (.Name y p2) p3) (.Constant (.int 0) j0 p4) p5) scope cl pm cv ctv) ⟨[u], []⟩ = pure [(x, u)])
    (hN : X.N[i]? = some y := by rfl) (hg : Gl X "sorted" := by rfl) (dx : (x == ("__debug__" : Str)) = false := by decide) (dy : (y == ("__debug__" : Str)) = false := by decide) (cy : (y == ("__classdict__" : Str)) = false := by decide)
    (hna : starEach [e] X.env = (false, eval e X.env) :: starEach [] X.env := by rfl)
    (he2 : backTo pos (starEach [e] X.env) = (false, eval e X.env) :: backTo pos (starEach [] X.env) := by rfl) (hpl : (backTo pos (starEach [e] X.env)).any (·.1) = false := by rfl)
    (hall : (backToKw pos (keywordEach [⟨some "key", .Lambda params (.Subscript (.Subscript (.Name x p1) (.Name y p2) p3) (.Constant (.int 0) j0 p4) p5) scope lpos, kpos⟩] X.env)).all (·.1.isSome) = true := by rfl)
    (hnone : (backToKw pos (keywordEach [⟨some "key", .Lambda params (.Subscript (.Subscript (.Name x p1) (.Name y p2) p3) (.Constant (.int 0) j0 p4) p5) scope lpos, kpos⟩] X.env)).any (·.1.isNone) = false := by rfl)
    (hks : (backToKw pos (keywordEach [⟨some "key", .Lambda params (.Subscript (.Subscript (.Name x p1) (.Name y p2) p3) (.Constant (.int 0) j0 p4) p5) scope lpos, kpos⟩] X.env)).filterMap (·.1) = [Str.ofString "key"] := by rfl) :
    DE Z X (.Call (.Name "sorted" p) [e] [⟨some "key", .Lambda params (.Subscript (.Subscript (.Name x p1) (.Name y p2) p3) (.Constant (.int 0) j0 p4) p5) scope lpos, kpos⟩] pos) (rSortKA i te) := by
  obtain ⟨T, pe, h⟩ := he.ex
  refine ⟨_, pe_sortK pe hg hm TB hcode hmT hu KS hdef hbind (by have := F.room.dp; omega) (by have := F.room.un; omega) hN (fun pins s σ H xv w k u w' I hk r r' => kvA_light dx dy cy pins s σ H xv w k u w' I hk r r') hna he2 hpl hall hnone hks, fun m δ σ H Q R n g r => h m δ σ H _ _ n g fun m v d H1 n1 s1 d1 g1 => ?_⟩
  cases d <;> first | exact g1.elim | skip
  rename_i ds
  split at g1
  · rename_i ds' n0 e1 hi
    cases e1
    obtain ⟨key, hlo, hhi, hk, hq⟩ := g1
    refine ⟨by have := n1.gi.tabs; rw [Zs.T, F.hL] at this; exact this, fun H2 eN T2 => ?_⟩
    have g2 : Gi Z m H2 := n1.gi.extN eN (by rw [Zs.T, F.hL]; exact T2)
    have sx : Stp (zone Z) H1 H2 := Stp.ext eN
    have n2 := n1.go F.zok sx g2
    have d2 : Dn Z (OO Z σ δ) H2 (.lst ds) v := Dn.stp (sx.mono fun c z => Or.inl (F.zok.zo c z)) _ _ d1
    obtain ⟨z, a, vs, rfl, np, t, l⟩ := dn_lst.mp d2
    obtain ⟨wv, hw, dw⟩ := n2.val i _ hi
    have hlen := l.length
    have ef : (vs.zip ds).map (·.1) = vs := List.map_fst_zip (by omega)
    have es : (vs.zip ds).map (·.2) = ds := List.map_snd_zip (by omega)
    refine ⟨a, vs.zip ds, fun q => key q.2, wv, rfl, by rw [ef]; exact .inl (.inl t), hw, fun q hqm => ?_, fun p hp => ?_⟩
    · obtain ⟨xs, ys, e1, e2, e3⟩ := hk q.2 (by rw [← es]; exact List.mem_map.mpr ⟨q, hqm, rfl⟩)
      have dq := zip_mem_dn l q hqm
      rw [e1] at dq
      obtain ⟨_, a1, vs1, ea, t1, l1⟩ := dn_tupT dq
      obtain ⟨v2, e4, dv2⟩ := l1.atI e2
      obtain ⟨_, a2, vs2, eb, t2, l2⟩ := dn_tupT dv2
      obtain ⟨v3, e5, dv3⟩ := l2.get e3
      exact ⟨a1, a2, vs1, vs2, n0, ea, dn_int.mp dw, hlo, hhi, by rw [F.K]; exact t1, by rw [e4, eb], by rw [F.K]; exact t2, by rw [e5, dn_int.mp dv3]⟩
    · have dz := dnl_of_zip (Z := Z) (P := OO Z σ δ) (H := H2) (ps := (vs.zip ds).mergeSort (leK fun q => key q.2)) fun q hq' => zip_mem_dn l q ((List.mergeSort_perm _ _).mem_iff.mp hq')
      have em : ((vs.zip ds).mergeSort (leK fun q => key q.2)).map (·.2) = ds.mergeSort fun a b => decide (key a ≤ key b) := by
        have := List.map_mergeSort (r := leK fun q => key q.2) (s := fun a b => decide (key a ≤ key b)) (f := fun q : V × D => q.2) (l := vs.zip ds) (fun a _ b _ => rfl)
        rw [es] at this
        exact this
      rw [em] at dz
      refine r m (.ref p) (.lst _) _ (n2.same F.zok (same_upd hp)) (s1.trans (sx.trans (.same (same_upd hp)))) (dn_newL dz (by rw [(List.mergeSort_perm _ _).length_eq]; exact z) hp (n2.fresh F.zok hp)) hq
  · exact g1.elim
end
end DL

namespace DL
open PySem L2 PySem.Spec PyProof.Rows
section
variable {L : Ls} {Z Z' : Zs} {X : Cx} {k : Nat} {ε : Nat → Str → Prop} {e : Expr} {te : TD} {pos : Pos}
/-- a, b = e by a list -/
@[simp] def rAsgL (is : List Nat) (te : TD) : TSd := fun D m δ => te m δ fun m d => match d with
  | .lst ds => ds.length = is.length ∧ D.nx m (setsE δ is ds)
  | _ => False
theorem ds_asgL (F : XF L Z X k ε) {es : List Expr} {kk : Nat} {p : Pos} (is : List Nat) (he : DE Z X e te) (hc : X.calm = true) (h : PGs X es (hNs is)) (hn : (assignEach es X.env).length = is.length := by rfl) (hst : (assignEach es X.env).findIdx? (·.1) = none := by rfl)
    (hs : swapsWithSole [.Tuple es kk p] e pos.line X.env = pure false := by rfl) (hw : swappedStores [.Tuple es kk p] e X.env = pure none := by rfl)
    (h1 : (assignEach [.Tuple es kk p] X.env).map (·.2) = [assign (.Tuple es kk p) X.env] := by rfl) : DS Z X (.Assign [.Tuple es kk p] e pos) (rAsgL is te) := by
  obtain ⟨T, pe, hh⟩ := he.ex
  refine ⟨_, ps_asg pe (pg_lst hc h hn hst) hs hw h1, fun m δ σ H D R n g o => hh m δ σ H _ _ n g fun m v d H1 n1 s1 d1 q => ?_⟩
  cases d <;> first | exact q.elim | skip
  rename_i ds
  obtain ⟨e, q⟩ := q
  obtain ⟨_, a, vs, rfl, _, t, l⟩ := dn_lst.mp d1
  exact ⟨a, vs, rfl, .inl (.inl t), by rw [l.length]; exact e, sets_sem _ ds vs n1 l e fun σ' n' w => o.nx _ _ σ' H1 n' q⟩
end
/-! ### the law where it makes lambdas and shows values -/
section
variable {CX : CXT} {P : Program} {w : World} {K : PySem.W.Frag} {mg : Str → Option Value} {base : Heap} {k : Nat} {f : Addr}
theorem fnGC_of {x qual : Str} {st : Stmt} {fd : FuncData} {c : Addr} {N ps : List Str} {sp : Sp} (F : FunC K x qual st f fd c) (Sc : FnScope N ps (defScope st)) (len : ∀ vs H Q E, sp vs H Q E → vs.length = ps.length)
    (body : ∀ (A : Around) (outer : List PySem.Env) (s : Shared) (H : Hp) (vs : List V) (Q : VK) (E : XK), A.guards = some [] → Room k (A.deeper (envOfC qual (defScope st) s.heap.objs.size f (.ref c))) → sp vs H Q E →
      ∃ t, PSs (cxOf CX P w K mg base N qual (defScope st) f (.ref c) A outer s H E) (defBody st) t ∧ t { nx := fun _ H' => Q .non H', rt := Q } (start N vs) H) : FnG P w K mg base CX (k + 1) f fd ps sp := by
  obtain ⟨oc, od, kV, doc, pm, an, ct, osl, rfl, lk, hcd⟩ := F.ex
  refine ⟨len, ?_⟩
  intro A outer s H args us vs Q E gd room e0 bd rv want
  have up := fun b o e => (e0.bs b o e).1
  have inK : K.In s.heap := e0.mod.kin.keeps up
  have places : ∀ y ∈ ps.zip us, (defScope st).names.lookup y.1 = some .local ∨ ((defScope st).names.lookup y.1 = some .cell ∧ ((cellsFrom (s.heap.objs.size + 1) (defScope st).names []).lookup y.1).isSome = true) := by
    rintro ⟨n, v⟩ hy
    exact (Sc.par n (List.of_mem_zip hy).1).imp id fun q => ⟨q, PySem.W.cellsFrom_some _ _ _ (.inl q)⟩
  refine codeAny_call_function room.depth (inK _ _ lk) rfl Sc.co Sc.gen rfl (PySem.W.codeRec_of inK hcd) (bd _ _ _ _ (wpAny_newFunctionEnv_cells Sc.kind places ?_))
  rintro env rfl s1 x
  refine ⟨(e0.mod.nolimit.keeps up).keeps x.toInCall.keep, codeAny_func ?_⟩
  obtain ⟨t, ht, hq⟩ := body A outer s H vs Q E gd (room.deeper _) want
  refine wpAny_mono (ht.run [] s1 (start N vs) H _ (inv_start Sc room.hd e0 (len _ _ _ _ want) rv x) hq) ?_ fun _ _ z => z
  rintro (_ | _ | _ | u) s' h
  · obtain ⟨σ', H', J, q⟩ := h
    exact ⟨.non, H', J.os, J.bare, J.base, J.hok, rfl, q⟩
  · obtain ⟨_, _, _, q⟩ := h
    exact q.elim
  · obtain ⟨_, _, _, q⟩ := h
    exact q.elim
  · obtain ⟨v, σ', H', J, r, q⟩ := h
    exact ⟨v, H', J.os, J.bare, J.base, J.hok, r, q⟩
end
section
variable {P : Program} {w : World} {K : PySem.W.Frag} {mg : Str → Option Value} {base : Heap} {L : Ls}
theorem law_okCG {x qual : Str} {st : Stmt} {rest : List Stmt} {f fb c : Addr} {fd fdb : FuncData} {N : List Str} {k : Nat} {p1 p2 p3 p4 p5 : Pos} {t : TSd} (hK : L.K = K ∧ L.w = w) (F : FunC K x qual st f fd c) (Sc : FnScope N ["script"] (defScope st))
    (i : Nat) (hi : N[i]? = some ("state" : Str)) (hi0 : i ≠ 0) (hloc : Loc (defScope st) ("state" : Str))
    (hN : ∃ r, N = ("script" : Str) :: r) (hscr : Loc (defScope st) ("script" : Str)) (hgl : (defScope st).names.lookup ("_law_begun" : Str) = some NameKind.globalImplicit)
    (FB : FnOk P w K mg base (L2.CX P w) k fb fdb ["script"] (spBegun L)) (mB : mg ("_law_begun" : Str) = some (.ref fb)) (kB : PySem.W.keepIn K (.ref fb) = true) (bB : Binds K fdb ["script"] [])
    (hb : defBody st = .Assign [.Name "state" p1] (.Call (.Name "_law_begun" p2) [.Name "script" p3] [] p4) p5 :: rest)
    (body : ∀ (A : Around) (outer : List PySem.Env) (s : Shared) (H : Hp) (E : XK) (Z : Zs), A.guards = some [] → XF L Z (cxOf (L2.CX P w) P w K mg base N qual (defScope st) f (.ref c) A outer s H E) k (fun _ _ => False) →
      DSs Z (cxOf (L2.CX P w) P w K mg base N qual (defScope st) f (.ref c) A outer s H E) rest t)
    (imp : ∀ ns : List Int, ns.length ≤ 63 → t { nx := fun _ _ => False, rt := fun _ d => d = .bl true } 0 ((params N [.scr ns]).set i (.val .rng))) :
    FnG P w K mg base (L2.CX P w) (k + 1) f fd ["script"] (spLaw L K) := by
  refine fnGC_of F Sc (fun vs H Q E h => by obtain ⟨a, ns, rfl, _⟩ := h; rfl) fun A outer s H vs Q E gd hr h => ?_
  exact law_body hK Sc i hi hloc hN hscr hgl FB mB kB bB hb hr (fun Z F' => body A outer s H E Z gd F') imp h
end
end DL

/-! sorted(range(n), key=lambda x: y[x]) -/
namespace DL
open PySem L2 PySem.Spec PyProof.Rows PySem.W
section
variable {prog : Program} {w : World} {A : Around} {E : Value → Shared → Prop} {s : Shared}
theorem each_items : ∀ (us : List Value) (f : Nat → Nat), (∀ j u, us[j]? = some u → ∃ t, u = Value.int (f j : Int) t) → EachIs (fun u (j : Nat) => ∃ t, u = Value.int (j : Int) t) us ((List.range us.length).map f)
  | [], _, _ => .nil
  | u :: r, f, h => by
    rw [List.length_cons, List.range_succ_eq_map, List.map_cons, List.map_map]
    exact .cons (h 0 u rfl) (each_items r (f ∘ Nat.succ) fun j v e => h (j + 1) v e)
theorem sorted_key_rng {r : Addr} {n : Nat} {t u v : Tok} {f : Value} {kw : List (Str × Value)} {Q : Value → Shared → Prop} (k : Nat → Int) (hh : A.handled = none) (hr : IsRange s.heap r 0 (n : Int) 1 t u v) (hn : n ≤ 1000000) (hu : A.units + 64 < cLine)
    (ha1 : argsOk "sorted" ⟨[.ref r], kw⟩) (ha2 : ∀ x, argsOk "list.sort" ⟨[.ref x], kw⟩) (ht : ∀ x, Builtin.«list.sort» ⟨[.ref x], kw⟩ = ksk_tree x f false)
    (turn : ∀ (j : Nat) (tj : Tok), j < n → ∀ (h : Heap) (tk : Nat), (∀ b o, s.heap.get? b = some o → h.get? b = some o) →
      wpAny (model prog w) A.in1.in1 (call f [.int (j : Int) tj]) (KeyPure (.int (k j)) { s with heap := h, toks := tk }) (fun _ _ => False) { s with heap := h, toks := tk })
    (h : ∀ out c h' tk (h1 : Heap), (∀ b o, s.heap.get? b = some o → h1.get? b = some o) → (∀ b o, h1.get? b = some o → h'.get? b = some o) → h'.get? h1.objs.size = some (seqObj "list" (List.toArray out) c) → EachIs (fun u (j : Nat) => ∃ t, u = Value.int (j : Int) t) out ((List.range n).mergeSort fun a b => decide (k a ≤ k b)) →
      Q (.ref h1.objs.size) { s with heap := h', toks := tk }) :
    wpAny (model prog w) A (call (.builtin "sorted") [.ref r] kw) Q E s := by
  refine call_function_entry_kw kind_sorted plain_sorted entry_sorted ha1 ?_
  unfold Builtin.«sorted»
  refine wpAny_bind (m := checkCount "sorted" 1 1 _) (wpAny_pure ?_)
  refine wpAny_bind (collect_range (n := n) hh hr (small_one (by omega) (by omega) (by omega) (by omega)) (by rw [rangeSize_nat]; omega) (by omega) fun h1 tk1 acc hx hi => ?_)
  have hlen : acc.toList.length = n := by rw [Array.length_toList]; exact hi.1
  have hL : acc.toList.length ≤ sizeLine := by rw [hlen, sizeLine_eq]; omega
  refine wpAny_bind (wpAny_newList ?_ hL)
  have hob : (h1.push (seqObj "list" acc.toList.toArray 0)).get? h1.objs.size = some (seqObj "list" acc.toList.toArray 0) := Heap.get?_push_size _ rfl
  refine wpAny_bind (wpAny_holding (wpAny_call_entry_kw slot_list_sort ⟨_, hob, rfl⟩ entry_list_sort ?body (ha2 _)))
  case body =>
    show wpAny (model prog w) A.in1.in1 (Builtin.«list.sort» ⟨[.ref h1.objs.size], kw⟩) _ _ { s with heap := h1.push (seqObj "list" acc.toList.toArray 0), toks := tk1 }
    rw [ht]
    have ei : EachIs (fun u (j : Nat) => ∃ t, u = Value.int (j : Int) t) acc.toList (List.range n) := by
      have := each_items acc.toList id fun j u hj => by
        obtain ⟨t, rfl⟩ := hi.2 j u (by rw [← hj, Array.getElem?_toList])
        exact ⟨t, by simp⟩
      rw [hlen, List.map_id] at this
      exact this
    have up1 : ∀ {g : Heap}, KeepsBut h1.objs.size (h1.push (seqObj "list" acc.toList.toArray 0)) g → ∀ b o, h1.get? b = some o → g.get? b = some o := fun {g} kp b o q =>
      kp b o (Nat.ne_of_lt (Heap.lt_size q)) (Heap.get?_push_of_some _ q)
    have up : ∀ {g : Heap}, KeepsBut h1.objs.size (h1.push (seqObj "list" acc.toList.toArray 0)) g → ∀ b o, s.heap.get? b = some o → g.get? b = some o := fun {g} kp b o q => up1 kp b o (hx b o q)
    refine keyH_tree (kz := (List.range n).map fun j => PyData.int (k j)) (b := false) (s := { s with heap := h1.push (seqObj "list" acc.toList.toArray 0), toks := tk1 }) hob (by rw [List.length_map, List.length_range, hlen]) hL ?_ ?_ (fun d hd => ?_)
      (keyH_turns (s := { s with heap := h1.push (seqObj "list" acc.toList.toArray 0), toks := tk1 }) (k := fun j => PyData.int (k j)) ei fun v x hR hx' h tk kp => ?_) fun h' tk out c kp hD ko => ⟨_, rfl, wpAny_pure ⟨_, rfl, ?_⟩⟩
    · intro d hd d' hd'
      obtain ⟨b, _, rfl⟩ := List.mem_map.mp hd
      obtain ⟨b', _, rfl⟩ := List.mem_map.mp hd'
      rfl
    · refine .inr fun d hd => ?_
      obtain ⟨b, _, rfl⟩ := List.mem_map.mp hd
      exact ⟨by simp, by simp⟩
    · obtain ⟨b, _, rfl⟩ := List.mem_map.mp hd
      show A.units + 2 + 0 < cLine
      omega
    · obtain ⟨tj, rfl⟩ := hR
      exact turn x tj (List.mem_range.mp hx') h tk (up kp)
    · have e := keyedOut_each (fun j => PyData.int (k j)) ko ei
      have el : dataLe false (fun j : Nat => PyData.int (k j)) = fun a b => decide (k a ≤ k b) := by
        funext a b
        show (!dataLt (.int (k b)) (.int (k a))) = _
        rw [dataLt_int]
        by_cases h : k b < k a
        · rw [decide_eq_true h, decide_eq_false (by omega)]; rfl
        · rw [decide_eq_false h, decide_eq_true (by omega)]; rfl
      rw [el] at e
      exact h out c h' tk h1 hx (up1 kp) hD e
end
section
variable {X : Cx} {e : Expr} {t : TE}
theorem cr_range1 : CallR X (.type "range") (fun vs H Q => ∃ j, vs = [V.int j] ∧ ∀ p, H p = none → Q (.ref p) (upd H p (.rng 0 j))) := by
  intro pins s σ H vs us Q I r h
  obtain ⟨j, rfl, q⟩ := h
  obtain ⟨u1, rfl, ri⟩ := vals1 r
  obtain ⟨t, rfl⟩ := ri
  refine call_range_1 ⟨.ref s.heap.objs.size, upd H s.heap.objs.size (.rng 0 j), I.laid (t' := s.toks + 2) (fun b o e => Heap.get?_push_of_some _ e) (Nat.le_refl _) ?_, rfl, q _ (I.hok.fresh (Nat.le_refl _))⟩
  exact ⟨_, _, _, Heap.get?_push_size _ rfl⟩
def restR (T : List (Addr × Str)) (i : Nat) (KV : Hp → V → V → Int → Prop) (σ : L2.St) (Q : VK) (v : V) (H1 : Hp) : Prop := LamX.Tabs T H1 ∧ ∀ H2, LamX.ExtN H1 H2 → LamX.Tabs T H2 → ∃ (r : Addr) (n : Nat) (key : Nat → Int) (w : V), v = .ref r ∧ H2 r = some (.rng 0 (n : Int)) ∧ n ≤ 1000000 ∧ σ[i]? = some (some w) ∧
  (∀ j, j < n → KV H2 (.int (j : Int)) w (key j)) ∧ ∀ p, H2 p = none → Q (.ref p) (upd H2 p (.lst (((List.range n).mergeSort fun a b => decide (key a ≤ key b)).map fun j : Nat => V.int (j : Int))))
theorem vals_nat : ∀ {us : List Value} {js : List Nat}, EachIs (fun u (j : Nat) => ∃ t, u = Value.int (j : Int) t) us js → Vals (js.map fun j : Nat => V.int (j : Int)) us
  | _, _, .nil => .nil
  | _, _, .cons h r => .cons (by obtain ⟨t, rfl⟩ := h; exact ⟨t, rfl⟩) (vals_nat r)
def tSortR (T : List (Addr × Str)) (i : Nat) (KV : Hp → V → V → Int → Prop) (t : TE) : TE := fun σ H Q => t σ H (restR T i KV σ Q)
theorem pe_sortR {T : List (Addr × Str)} {te : TE} {c P : Addr} {params : Arguments} {body : Expr} {scope : Scope} {p lpos kpos pos : Pos} {x y : Str} {i : Nat} {KV : Hp → V → V → Int → Prop} (he : PE X e te) (hg : Gl X "sorted") (hm : X.mg "sorted" = none)
    (TB : LamX.TabB X.base X.mg c P) (hcode : X.env.code = .ref c) (hmT : (P, X.env.qual ++ "<lambda>") ∈ T) (hu : ∀ p ∈ T, p.1 = P → p.2 = X.env.qual ++ "<lambda>") (KS : KeyS X.env.scope scope x y) (hdef : defaultsOf params X.env = ([], []))
    (hbind : ∀ (q : Str) (cl : List (Str × Addr)) (pm cv ctv u : Value), bindArgs (PySem.W.kla_fn "<lambda>" q params body scope cl pm cv ctv) ⟨[u], []⟩ = pure [(x, u)])
    (hdp : X.A.depth < recursionLimit) (hun : X.A.units + 64 < cLine) (hc : X.calm = true) (hN : X.N[i]? = some y)
    (hKV : ∀ (pins : List (Addr × Obj)) (s : Shared) (σ : L2.St) (H : Hp) (xv w : V) (k : Int) (u w' : Value), Inv X pins σ H s → KV H xv w k → RelV xv u → RelV w w' → Light body x y s.heap u w' k)
    (hna : starEach [e] X.env = (false, eval e X.env) :: starEach [] X.env)
    (he2 : backTo pos (starEach [e] X.env) = (false, eval e X.env) :: backTo pos (starEach [] X.env)) (hpl : (backTo pos (starEach [e] X.env)).any (·.1) = false)
    (hall : (backToKw pos (keywordEach [⟨some "key", .Lambda params body scope lpos, kpos⟩] X.env)).all (·.1.isSome) = true) (hnone : (backToKw pos (keywordEach [⟨some "key", .Lambda params body scope lpos, kpos⟩] X.env)).any (·.1.isNone) = false)
    (hks : (backToKw pos (keywordEach [⟨some "key", .Lambda params body scope lpos, kpos⟩] X.env)).filterMap (·.1) = [Str.ofString "key"]) :
    PE X (.Call (.Name "sorted" p) [e] [⟨some "key", .Lambda params body scope lpos, kpos⟩] pos) (tSortR T i KV te) := by
  refine ⟨fun pins s σ H Q I h => ?_⟩
  refine wpAny_Call_Name_kw (ld_blt I hg hm (by decide +kernel : bootBuiltins (Str.ofString "sorted") = some (.builtin "sorted")) ?_ (by decide) (by decide))
  refine PyProof.Rows.callWith_kw (thn ((pa_cons he pa_nil hna).run pos pins s σ H (fun vs H1 => match vs with | [v] => restR T i KV σ Q v H1 | _ => False) I h) fun us s1 ⟨vs, H1, I1, r1, q1⟩ => ?_) he2 hpl hall hnone
  obtain ⟨v, rfl⟩ : ∃ v, vs = [v] := by
    match vs, q1 with
    | [v], _ => exact ⟨v, rfl⟩
  obtain ⟨hT, q1⟩ := (show restR T i KV σ Q v H1 from q1)
  show wpAny _ _ (evalAll ((do let v ← eval (.Lambda params body scope lpos) X.env; standAt pos; pure v) :: [])) _ _ s1
  refine wpAny_evalAll_cons (wpAny_bind (LamX.lam_make2 I1 TB hcode hmT hu hT hdef (fun z hz ez => ?_) fun f c' pm ctv H2 s2 I2 eN T2 hf hfn hfr hco => wpAny_bind (wpAny_standAt (wpAny_pure ?_))))
  · rcases KS.free z hz ez with k | k
    · exact I.ok.has _ (.inl k)
    · exact I.ok.has _ (.inr k)
  refine wpAny_evalAll_nil ?_
  obtain ⟨l, n, key, w, rfl, hl, hn, hw, hk, q⟩ := q1 H2 eN T2
  rw [hks, Vals.ref1 r1]
  obtain ⟨t1, t2, t3, hr⟩ := I2.hok l _ hl
  show wpAny _ _ (call (.builtin "sorted") [.ref l] [(Str.ofString "key", .ref f)]) _ _ s2
  refine sorted_key_rng key (I2.ok.hd hc) hr hn hun (PyProof.Rows.ksk_s1 _ _) (fun _ => PyProof.Rows.ksk_l1 _ _) (fun x => PyProof.Rows.ksk_t1 _ _) (fun j tj hj h tk e => ?_) fun out cc h' tk h1 up1 up2 at_ he => ?_
  · exact key_turn I2 KS hf hco (hbind _ _ _ _ _ _) hdp hN hw e fun w' hw' => hKV _ _ _ _ _ _ _ _ _ I2 (hk j hj) ⟨tj, rfl⟩ hw'
  · have I3 : Inv X pins σ H2 { s2 with heap := h1, toks := tk } := I2.kept up1
    refine ⟨.ref _, upd H2 h1.objs.size (.lst (((List.range n).mergeSort fun a b => decide (key a ≤ key b)).map fun j : Nat => V.int (j : Int))), I3.laid (t' := tk) up2 (Nat.le_refl _) ⟨by rw [List.length_map, (List.mergeSort_perm _ _).length_eq, List.length_range, sizeLine_eq]; omega, out, cc, vals_nat he, at_⟩, rfl, q _ (I3.hok.fresh (Nat.le_refl _))⟩
end
section
variable {L : Ls} {Z Z' : Zs} {X : Cx} {k : Nat} {ε : Nat → Str → Prop} {e : Expr} {te : TD} {pos : Pos}
/-- y[x], by values -/
def kvB (K : PySem.W.Frag) (H : Hp) (xv w : V) (k : Int) : Prop := ∃ (a : Addr) (is : List V) (n : Nat), w = .ref a ∧ xv = .int (n : Int) ∧ SqL K H a is ∧ is[n]? = some (.int k)
theorem kvB_light {x y : Str} {p1 p2 p3 : Pos} (dx : (x == ("__debug__" : Str)) = false) (dy : (y == ("__debug__" : Str)) = false) (cy : (y == ("__classdict__" : Str)) = false) (pins : List (Addr × Obj)) (s : Shared) (σ : L2.St) (H : Hp) (xv w : V) (k : Int) (u w' : Value)
    (I : Inv X pins σ H s) (h : kvB X.K H xv w k) (r : RelV xv u) (r' : RelV w w') : Light (.Subscript (.Name y p1) (.Name x p2) p3) x y s.heap u w' k := by
  obtain ⟨a, is, n, rfl, rfl, ha, he⟩ := h
  obtain ⟨tn, rfl⟩ := r
  cases r'
  obtain ⟨its, rv, pl, hz⟩ := I.list ha
  obtain ⟨w1, ew, rw1⟩ := rv.get he
  obtain ⟨tk, rfl⟩ := rw1
  have hlt : n < is.length := by
    rcases Nat.lt_or_ge n is.length with z | z
    · exact z
    · rw [List.getElem?_eq_none z] at he; cases he
  rw [sizeLine_eq] at hz
  exact light_B pl.isList (by omega) (by omega) (by simpa using ew) dx dy cy
/-- sorted(range(e), key=lambda x: y[x]) -/
@[simp] def rSortKB (i : Nat) (te : TD) : TD := fun m δ Q => te m δ fun m d => match d, δ[i]? with
  | .int n, some (.val (.lst ds)) => ∃ ks : List Int, ds = ks.map .int ∧ n = (ks.length : Int) ∧ ks.length ≤ 1000000 ∧ Q m (.lst (((List.range ks.length).mergeSort fun a b => decide (ks.getD a 0 ≤ ks.getD b 0)).map fun j : Nat => D.int (j : Int)))
  | _, _ => False
theorem nats_dn {P : Addr → Prop} {H : Hp} : ∀ js : List Nat, DnL Z P H (js.map fun j : Nat => D.int (j : Int)) (js.map fun j : Nat => V.int (j : Int))
  | [] => .nil
  | j :: js => .cons (dn_int.mpr rfl) (nats_dn js)
theorem de_sortKB (F : XF L Z X k ε) {c P : Addr} {params : Arguments} {scope : Scope} {p pr lpos kpos rpos : Pos} {x y : Str} {p1 p2 p3 : Pos} (i : Nat) (he : DE Z X e te) (hm : X.mg "sorted" = none) (hmr : X.mg "range" = none)
    (TB : LamX.TabB X.base X.mg c P) (hcode : X.env.code = .ref c) (hmT : (P, X.env.qual ++ "<lambda>") ∈ L.T) (hu : ∀ p ∈ L.T, p.1 = P → p.2 = X.env.qual ++ "<lambda>") (KS : KeyS X.env.scope scope x y) (hdef : defaultsOf params X.env = ([], []))
    (hbind : ∀ (q : Str) (cl : List (Str × Addr)) (pm cv ctv u : Value), bindArgs (PySem.W.kla_fn "<lambda>" q params (.Subscript (.Name y p1) (.Name x p2) p3) scope cl pm cv ctv) ⟨[u], []⟩ = pure [(x, u)])
    (hN : X.N[i]? = some y := by rfl) (hg : Gl X "sorted" := by rfl) (hgr : Gl X "range" := by rfl) (dx : (x == ("__debug__" : Str)) = false := by decide) (dy : (y == ("__debug__" : Str)) = false := by decide) (cy : (y == ("__classdict__" : Str)) = false := by decide)
    (hna0 : starEach [e] X.env = (false, eval e X.env) :: starEach [] X.env := by rfl) (hpl0 : (backTo rpos (starEach [] X.env)).any (·.1) = false := by rfl)
    (hna : starEach [.Call (.Name "range" pr) [e] [] rpos] X.env = (false, eval (.Call (.Name "range" pr) [e] [] rpos) X.env) :: starEach [] X.env := by rfl)
    (he2 : backTo pos (starEach [.Call (.Name "range" pr) [e] [] rpos] X.env) = (false, eval (.Call (.Name "range" pr) [e] [] rpos) X.env) :: backTo pos (starEach [] X.env) := by rfl) (hpl : (backTo pos (starEach [.Call (.Name "range" pr) [e] [] rpos] X.env)).any (·.1) = false := by rfl)
    (hall : (backToKw pos (keywordEach [⟨some "key", .Lambda params (.Subscript (.Name y p1) (.Name x p2) p3) scope lpos, kpos⟩] X.env)).all (·.1.isSome) = true := by rfl)
    (hnone : (backToKw pos (keywordEach [⟨some "key", .Lambda params (.Subscript (.Name y p1) (.Name x p2) p3) scope lpos, kpos⟩] X.env)).any (·.1.isNone) = false := by rfl)
    (hks : (backToKw pos (keywordEach [⟨some "key", .Lambda params (.Subscript (.Name y p1) (.Name x p2) p3) scope lpos, kpos⟩] X.env)).filterMap (·.1) = [Str.ofString "key"] := by rfl) :
    DE Z X (.Call (.Name "sorted" p) [.Call (.Name "range" pr) [e] [] rpos] [⟨some "key", .Lambda params (.Subscript (.Name y p1) (.Name x p2) p3) scope lpos, kpos⟩] pos) (rSortKB i te) := by
  obtain ⟨T, pe, h⟩ := he.ex
  refine ⟨_, pe_sortR (pe_callTy cr_range1 hgr hmr (by decide +kernel) (pa_cons pe pa_nil hna0) (by decide) (by decide) hna0 hpl0) hg hm TB hcode hmT hu KS hdef hbind (by have := F.room.dp; omega) (by have := F.room.un; omega) F.calm hN (fun pins s σ H xv w k u w' I hk r r' => kvB_light dx dy cy pins s σ H xv w k u w' I hk r r') hna he2 hpl hall hnone hks, fun m δ σ H Q R n g r => h m δ σ H _ _ n g fun m v d H1 n1 s1 d1 g1 => ?_⟩
  cases d <;> first | exact g1.elim | skip
  rename_i z
  split at g1
  · rename_i z' ds e1 hi
    cases e1
    obtain ⟨ks, rfl, rfl, hlen, hq⟩ := g1
    refine ⟨(ks.length : Int), by rw [dn_int.mp d1], fun p hp => ?_⟩
    have n2 := n1.same F.zok (same_upd (o := .rng 0 (ks.length : Int)) hp)
    refine ⟨by have := n2.gi.tabs; rw [Zs.T, F.hL] at this; exact this, fun H3 eN T3 => ?_⟩
    have g3 : Gi Z m H3 := n2.gi.extN eN (by rw [Zs.T, F.hL]; exact T3)
    have sx : Stp (zone Z) (upd H1 p (.rng 0 (ks.length : Int))) H3 := Stp.ext eN
    have n3 := n2.go F.zok sx g3
    obtain ⟨wv, hw, dw⟩ := n3.val i _ hi
    obtain ⟨_, a, vs, rfl, _, t, l⟩ := dn_lst.mp dw
    refine ⟨p, ks.length, fun j => ks.getD j 0, .ref a, rfl, eN p _ upd_same (fun _ z => by cases z), hlen, hw, fun j hj => ?_, fun q hq' => ?_⟩
    · have hj' : ks[j]? = some ks[j] := List.getElem?_eq_getElem hj
      have hd : (ks.map D.int)[j]? = some (.int ks[j]) := by rw [List.getElem?_map, hj']; rfl
      obtain ⟨v3, e5, dv3⟩ := l.get hd
      refine ⟨a, vs, j, rfl, rfl, .inl (.inl t), ?_⟩
      rw [e5, dn_int.mp dv3]
      show some (V.int ks[j]) = some (V.int (ks.getD j 0))
      rw [List.getD_eq_getElem?_getD, hj']; rfl
    · have dl := fun js => nats_dn (Z := Z) (P := OO Z σ δ) (H := H3) js
      refine r m (.ref q) (.lst _) _ (n3.same F.zok (same_upd hq')) (s1.trans ((Stp.same (same_upd hp)).trans (sx.trans (.same (same_upd hq'))))) (dn_newL (dl _) (by rw [List.length_map, (List.mergeSort_perm _ _).length_eq, List.length_range, sizeLine_eq]; omega) hq' (n3.fresh F.zok hq')) hq
  · exact g1.elim
end
end DL

/-! sorted(a tuple of ints) -/
namespace DL
open PySem L2 PySem.Spec PyProof.Rows SrtO
section
variable {X : Cx}
def rSortedTI (K : PySem.W.Frag) : List V → Hp → VK → Prop := fun vs H Q => ∃ (a : Addr) (ns : List Int), vs = [V.ref a] ∧ SqT K H a (ns.map V.int) ∧
  ∀ (ns' : List Int) (p : Addr), ns'.Perm ns → ns'.Pairwise (· ≤ ·) → H p = none → Q (.ref p) (upd H p (.lst (ns'.map V.int)))
theorem cr_sortedTI : CallR X (.builtin "sorted") (rSortedTI X.K) := by
  intro pins s σ H vs us Q I r h
  obtain ⟨a, ns, rfl, hs, q⟩ := h
  obtain ⟨its, rv, ⟨o, ho, hc, n, hd⟩, hz⟩ := I.tuple hs
  rw [Vals.ref1 r]
  have hi := rv.ints
  have hl := rv.length
  refine Calls.call_function_entry kind_sorted plain_sorted entry_sorted (args_sorted1 _) ?_
  unfold Builtin.«sorted»
  refine wpAny_bind (m := checkCount "sorted" 1 1 _) (wpAny_pure ?_)
  refine wpAny_bind (wpAny_collect_seq a (.inr rfl) ho hc hd (fun h1 hk => ?_) (by rw [List.size_toArray]; omega))
  have ei : its.toArray.toList = its := by simp
  rw [ei]
  have hz' : its.length ≤ sizeLine := by omega
  refine wpAny_bind (wpAny_newList ?_ hz')
  have hob : (h1.push (seqObj "list" its.toArray 0)).get? h1.objs.size = some (seqObj "list" its.toArray 0) := Heap.get?_push_size _ rfl
  show wpAny _ _ _ _ _ { s with heap := h1.push (seqObj "list" its.toArray 0) }
  refine wpAny_bind (wpAny_holding (wpAny_call_entry slot_list_sort ⟨_, hob, rfl⟩ entry_list_sort (list_sort_ord swo_int hob hz' (fun h2 => ints_sortable hi h2) fun out hs hb => ⟨_, rfl, ?_⟩) (args_list_sort _)))
  refine wpAny_pure ⟨_, rfl, ?_⟩
  obtain ⟨k1, k2, k3⟩ := ints_out hi hs hb
  obtain ⟨ep, he'⟩ := PyProof.Rows.sortedHeap_at (vs := its) (out := out.toArray) hob
  have hlen : ((out.map iv).map V.int).length ≤ sizeLine := by
    rw [List.length_map, k2.length_eq]
    rw [List.length_map] at hz
    exact hz
  have I3 : Inv X pins σ H { s with heap := h1 } := I.kept (t' := s.toks) hk
  refine ⟨.ref _, upd H h1.objs.size (.lst ((out.map iv).map V.int)), I3.laid (t' := s.toks) (fun b u hu => ?_) (Nat.le_refl _) ⟨hlen, out, ep, vals_of_ints k1, he'⟩, rfl, q _ _ k2 k3 (I3.hok.fresh (Nat.le_refl _))⟩
  have hu' := Heap.get?_push_of_some (seqObj "list" its.toArray 0) hu
  rw [PyProof.Rows.sortedHeap_old (Nat.ne_of_lt (Heap.lt_size hu)) (Heap.lt_size hu')]
  exact hu'
end
section
variable {L : Ls} {Z Z' : Zs} {X : Cx} {k : Nat} {ε : Nat → Str → Prop}
/-- sorted of a list or a tuple of ints -/
@[simp] def dSortedV : List D → (D → Prop) → Prop
  | [.lst ds], Q => ∃ ns, D.ints ds = some ns ∧ Q (.lst ((srt ns).map .int))
  | [.tup ds], Q => ∃ ns, D.ints ds = some ns ∧ Q (.lst ((srt ns).map .int))
  | _, _ => False
def dSorted3 : List D → (D → Prop) → Prop
  | [.tup ds], Q => ∃ ns, D.ints ds = some ns ∧ Q (.lst ((srt ns).map .int))
  | _, _ => False
theorem k_sorted3 (F : XF L Z X k ε) : CalD Z X (.builtin "sorted") dSorted3 := by
  refine ⟨_, cr_sortedTI, fun P H xs ds Q R hp gi hd hg kk => ?_⟩
  unfold dSorted3 at hg
  split at hg
  · obtain ⟨ns, e, hg⟩ := hg
    obtain ⟨v, rfl, h⟩ := hd.one
    rw [ints_map e] at h
    obtain ⟨z, a, vs, rfl, t, l⟩ := dn_tupT h
    rw [l.ints] at t
    refine ⟨a, ns, rfl, by rw [F.K]; exact t, fun ns' p hP hW hp' => ?_⟩
    rw [srt_of hP hW]
    exact kk _ _ _ (same_upd hp') (dn_newL DnL.of_ints (by rw [List.length_map, srt_len]; rw [List.length_map] at z; exact z) hp' (hp p hp')) hg
  · exact hg.elim
theorem k_sortedV (F : XF L Z X k ε) : CalD Z X (.builtin "sorted") dSortedV := (k_sorted1.or (k_sorted3 F)).imp fun ds Q h => by
  unfold dSortedV at h
  split at h
  · exact .inl h
  · exact .inr h
  · exact h.elim
end
end DL

/-! enumerate(a tuple) -/
namespace DL
open PySem L2 PySem.Spec PyProof.Rows
set_option maxHeartbeats 8000000 in
theorem meets_enum1 {v : Value} {o : Obj} {H : Heap → Prop} (B : Begins v o H) :
    Meets (Builtin.«enumerate.__new__» ⟨[.type "enumerate", v], []⟩) (fun _ R s => H s.heap ∧
      R (.ok (.ret (.ref (s.heap.push o).objs.size))) { s with heap := (s.heap.push o).push { cls := .type "enumerate", data := .fields #[.none, .bool false, .ref s.heap.objs.size, rawInt 0, .none, .none] } }) :=
  .of_wp fun prog w A R s h => by
    obtain ⟨hp, g, d, tk, os⟩ := s; obtain ⟨h1, h⟩ := h
    have hsub := sub_enumerate
    have q1 : ∀ {A' : Around} {E : Value → Shared → Prop} {Q : Value → Shared → Prop}, Q (.ref hp.objs.size) ⟨hp.push o, g, d, tk, os⟩ → wpAny (model prog w) A' (pyIter v) Q E ⟨hp, g, d, tk, os⟩ :=
      fun q => B.iter prog w _ _ ⟨hp, g, d, tk, os⟩ _ h1 q
    wp_walk using q1
    refine wpAny_stack_any fun st => wpAny_pure ?_
    split
    · rename_i c _ _ _ _ _
      cases (c == Value.type "enumerate")
      · wp_walk using q1
        exact ⟨_, rfl, h⟩
      · wp_walk using q1
        exact ⟨_, rfl, h⟩
    · wp_walk using q1
      exact ⟨_, rfl, h⟩
section
variable {prog : Program} {w : World} {A : Around} {E : Value → Shared → Prop} {s : Shared}
theorem enum_begins1 {v : Value} {o : Obj} {H : Heap → Prop} {Q : Value → Shared → Prop} (B : Begins v o H) (h1 : H s.heap)
    (h : ∀ h', IsEnum h' (s.heap.objs.size + 1) s.heap.objs.size 0 .none → h'.get? s.heap.objs.size = some o → h'.objs.size = s.heap.objs.size + 2 →
      (∀ b o, s.heap.get? b = some o → h'.get? b = some o) → Q (.ref (s.heap.objs.size + 1)) { s with heap := h' }) :
    wpAny (model prog w) A (call (.type "enumerate") [v]) Q E s := by
  refine callType_new F.called_enumerate (by decide) (F.typeCall_enumerate_1 _) (F.newCall_enumerate_1 _) (fun obj => F.args_object_init_2 obj _) F.entry_enumerate_new
    (meets_enum1 B) ⟨h1, ?_⟩
  have hz : (s.heap.push o).objs.size = s.heap.objs.size + 1 := Heap.size_push ..
  show _ ∧ _
  rw [hz]
  have he : IsEnum ((s.heap.push o).push { cls := .type "enumerate", data := .fields #[.none, .bool false, .ref s.heap.objs.size, rawInt 0, .none, .none] }) (s.heap.objs.size + 1) s.heap.objs.size 0 .none := by
    have := Heap.get?_push_size (s.heap.push o) (o := { cls := .type "enumerate", data := .fields #[.none, .bool false, .ref s.heap.objs.size, rawInt 0, .none, .none] }) rfl
    rw [hz] at this; exact this
  refine ⟨⟨_, he, rfl⟩, h _ he (Heap.get?_push_of_some _ (Heap.get?_push_size _ B.free)) (by rw [Heap.size_push, hz]) fun b o x => Heap.get?_push_of_some _ (Heap.get?_push_of_some _ x)⟩
end
/-- the tuple at a as it stands at each turn, each item in a new pair -/
def IteT (K : PySem.W.Frag) (a : Addr) : It :=
  ⟨fun i H => ∃ (xs : List V) (x : V), SqT K H a xs ∧ xs[i]? = some x, fun i H v H' => ∃ T x, v = .ref T ∧ H T = none ∧ H' = upd H T (.tup [.int (i : Nat), x]) ∧ ∀ xs, SqT K H a xs → xs[i]? = some x, fun i H => ∃ xs : List V, SqT K H a xs ∧ xs.length ≤ i⟩
theorem turn_enumT {P : Program} {w : World} {K : PySem.W.Frag} {elts : List Expr} {kk : Nat} {tpos : Pos} (a e it : Addr) (hea : e ≠ a) (hai : a ≠ it) :
    Turn P w K (.Tuple elts kk tpos) (IteT K a) [e, it] e (fun i h => (∃ old, IsEnum h e it ((i : Nat) : Int) old) ∧ h.IsTupleIter it a i ∧ e ≠ it) where
  mem := by simp
  obj := fun i h st b hb => by
    obtain ⟨⟨old, he⟩, ⟨o, ho, hc, hd⟩, _⟩ := st
    have e' : b = e ∨ b = it := by simpa using hb
    rcases e' with z | z
    · rw [z]; exact ⟨_, he, fun v q => nomatch q⟩
    · rw [z]; exact ⟨o, ho, fun v q => by rw [hd] at q; cases q⟩
  keep := fun i h h' st k => let ⟨⟨old, he⟩, hi, hne⟩ := st; ⟨⟨old, k e (by simp) _ he⟩, hi.at fun o q => k it (by simp) o q, hne⟩
  item := by
    intro X hP hw hK hc i pins s σ H E I hf st hg
    subst hP hw hK
    obtain ⟨⟨old, he⟩, hit, hne⟩ := st
    obtain ⟨xs, x, hq, hx⟩ := hg
    obtain ⟨its, rv, p, hz⟩ := I.tuple hq
    obtain ⟨u, hu, ru⟩ := rv.get hx
    have hel : e < s.heap.objs.size := Heap.lt_size he
    have hil : it < s.heap.objs.size := by obtain ⟨_, q, _⟩ := hit; exact Heap.lt_size q
    have hlt : i < its.toArray.size := by
      rw [List.size_toArray]
      rcases Nat.lt_or_ge i its.length with z | z
      · exact z
      · rw [List.getElem?_eq_none z] at hu; cases hu
    refine wpAny_pyNext_enum_itemD (Draws.tuple (A := X.A.in1) (I.ok.hd hc) it a hai its.toArray) he ⟨hit, p⟩ hlt hne (by simp; exact ⟨hne, hea⟩) fun u' h' tk hP ho hst' hT hsz hk => ?_
    have eu : u' = u := by
      have : its[i]? = some u' := by simpa using hP
      rw [hu] at this; cases this; rfl
    subst eu
    obtain ⟨hit', _⟩ := hst'
    refine ⟨_, rfl, wpAny_letOwnedTupleGo_enum (s := { s with heap := h', toks := tk + 1 }) ho fun h'' he' sb => ?_⟩
    have hT2 : h''.get? s.heap.objs.size = some { cls := .type "tuple", data := .seq #[.int i tk, u'] } := (sb.2 _ (Nat.ne_of_gt hel)).trans hT
    have new : ObjOk X.prog X.w (upd H s.heap.objs.size (.tup [.int (i : Nat), x])) h'' s.heap.objs.size (.tup [.int (i : Nat), x]) :=
      ⟨by show 2 ≤ sizeLine; decide, [.int i tk, u'], .cons ⟨_, rfl⟩ (.cons ru .nil), ⟨_, hT2, rfl, _, rfl⟩⟩
    have I1 : Inv X pins σ (upd H s.heap.objs.size (.tup [.int (i : Nat), x])) { s with heap := h'', toks := tk + 1 } :=
      I.turnedNew (ch := [e, it]) (fun b ob hb q => (sb.2 b (fun z => hb (by simp [z]))).trans (hk b ob (fun z => hb (by simp [z])) (fun z => hb (by simp [z])) q)) hf (Nat.le_refl _) new
    refine ⟨.ref s.heap.objs.size, _, I1, rfl, ⟨_, x, rfl, I.hok.fresh (Nat.le_refl _), rfl, fun ys hy => by rw [I.tuple_inj hy hq]; exact hx⟩, ⟨⟨u', ?_⟩, hit'.at fun o q => (sb.2 it (Ne.symm hne)).trans q, hne⟩, fun b hb => ?_⟩
    · have e1 : ((i + 1 : Nat) : Int) = (i : Int) + 1 := by omega
      rw [e1]; exact he'
    · have hb' : b < s.heap.objs.size := by
        have e' : b = e ∨ b = it := by simpa using hb
        rcases e' with z | z
        · rw [z]; exact hel
        · rw [z]; exact hil
      rw [upd_ne (Nat.ne_of_lt hb')]
      exact (hf b hb).1
  done := by
    intro X hP hw hK hc i pins s σ H E I hf st hg
    subst hP hw hK
    obtain ⟨⟨old, he⟩, hit, hne⟩ := st
    obtain ⟨xs, hq, hx⟩ := hg
    obtain ⟨its, rv, p, hz⟩ := I.tuple hq
    obtain ⟨f0, f1, f2, f3, f4, f5⟩ := hf it (by simp)
    have hl := rv.length
    have hT : s.TypeIs (.ref e) "enumerate" := ⟨_, he, rfl⟩
    unfold pyNext
    refine wpAny_bind (wpAny_attempt (wpAny_callSpecial?_slot (name := Str.ofString "__next__") hT F.slot_enumerate_next
      (wpAny_call_entry F.slot_enumerate_next hT F.entry_enumerate_next ?_ (F.args_enumerate_next_1 _))))
    show wpAny _ _ (field (.ref e) 2 >>= _) _ _ _
    refine wpAny_bind (wpAny_field he rfl (x := .ref it) rfl ?_)
    refine wpAny_bind (wpAny_nextOf_tuple_end (I.ok.hd hc) hit (show s.heap.IsTuple a its.toArray from p) (by simp; omega) fun h' x he' hx' => ?_)
    obtain ⟨o, ho, hc'⟩ := hx'
    refine wpAny_bind (wpAny_isInstance (T := "StopIteration") (b := true) ⟨o, ho, hc'⟩ isSubtype_stop ?_)
    exact wpAny_pure ⟨rfl, I.turned (t' := s.toks) (fun b o hb q => he' b o hb q) f0 f1 f3 f4 f5⟩
  self := fun A i s Q E st h => let ⟨⟨_, he⟩, _⟩ := st; wpAny_pyIter_enum he h
def iEnumT (K : PySem.W.Frag) (ta : TA) : TI := fun σ H R => ta σ H fun vs H1 => ∃ a xs, vs = [.ref a] ∧ SqT K H1 a xs ∧ R (IteT K a) H1
theorem pi_enumT {X : Cx} {e : Expr} {ta : TA} {p pos tpos : Pos} {elts : List Expr} {kk : Nat} (hg : Gl X "enumerate") (hm : X.mg "enumerate" = none) (ha : PA X [e] ta) (hs : starEach [e] X.env = [(false, eval e X.env)] := by rfl) :
    PI X (.Tuple elts kk tpos) (.Call (.Name "enumerate" p) [e] [] pos) (iEnumT X.K ta) := by
  refine ⟨fun pins s σ H R I h => ?_⟩
  refine Call_ (ld_blt I hg hm boot_enumerate (PyProof.Rows.callWith_type1 (thn (ha.run pos pins s σ H _ I h) fun us s1 ⟨vs, H1, I1, r1, q1⟩ => ?_) hs rfl))
  obtain ⟨a, xs, ex, hq, q⟩ := q1
  subst ex
  cases r1 with
  | cons r rr =>
    cases rr
    cases r
    obtain ⟨its, rv, p', hz⟩ := I1.tuple hq
    have hal : a < s1.heap.objs.size := by obtain ⟨_, q, _⟩ := p'; exact Heap.lt_size q
    refine enum_begins1 (begins_tuple a its.toArray) (show s1.heap.IsTuple a its.toArray from p') fun h' he hit hsz hk => wpAny_pyIter_enum he ?_
    have I2 : Inv X pins σ H1 { s1 with heap := h' } := I1.kept (t' := s1.toks) hk
    refine ⟨s1.heap.objs.size + 1, [s1.heap.objs.size + 1, s1.heap.objs.size], _, _, H1, rfl, I2, turn_enumT a (s1.heap.objs.size + 1) s1.heap.objs.size (Nat.ne_of_gt (Nat.lt_succ_of_lt hal)) (Nat.ne_of_lt hal), ⟨⟨.none, he⟩, ⟨_, hit, rfl, rfl⟩, Nat.succ_ne_self _⟩, fun b hb => ?_, q⟩
    have e' : b = s1.heap.objs.size + 1 ∨ b = s1.heap.objs.size := by simpa using hb
    have hle : s1.heap.objs.size ≤ b := by
      rcases e' with z | z
      · rw [z]; exact Nat.le_add_right _ _
      · rw [z]; exact Nat.le_refl _
    exact I1.fpOk hle (I1.hok.fresh hle)
section
variable {L : Ls} {Z Z' : Zs} {X : Cx} {k : Nat} {ε : Nat → Str → Prop}
def enuD (ds : List D) : List D := (List.range ds.length).map fun i : Nat => D.tpw [.int (i : Int), ds.getD i .non]
theorem enuD_length (ds : List D) : (enuD ds).length = ds.length := by unfold enuD; rw [List.length_map, List.length_range]
theorem enu_D {a : Addr} {as : List D} {v : V} (hv : v = .ref a) {L : Ls} {st : Option (Addr × Addr × Addr)} {K : PySem.W.Frag} (hK : K = L.K) : ItD L st (IteT K a) (enuD as) [(.tup as, v)] where
  stop := fun Z P H hL hs h => by
    obtain ⟨z, c, vs, e, t, l⟩ := dn_tupT (h _ List.mem_cons_self)
    rw [hv] at e; cases e
    rw [Zs.K, hL, ← hK] at t
    exact ⟨vs, t, by rw [l.length, enuD_length]; exact Nat.le_refl _⟩
  go := fun Z P H i d hL hs h hi hp => by
    obtain ⟨z, c, vs, e, t, l⟩ := dn_tupT (h _ List.mem_cons_self)
    rw [hv] at e; cases e
    rw [Zs.K, hL, ← hK] at t
    have hlt : i < as.length := by
      rcases Nat.lt_or_ge i (enuD as).length with z | z
      · rw [enuD_length] at z; exact z
      · rw [List.getElem?_eq_none z] at hi; cases hi
    have ed : d = .tpw [.int (i : Int), as.getD i .non] := by
      unfold enuD at hi
      rw [List.getElem?_map, List.getElem?_range hlt] at hi
      exact (Option.some.inj hi).symm
    subst ed
    have ha : as[i]? = some (as.getD i .non) := by rw [List.getD_eq_getElem?_getD, List.getElem?_eq_getElem hlt]; rfl
    obtain ⟨x', hx, dx⟩ := l.get ha
    refine ⟨⟨vs, x', t, hx⟩, fun q H' y => ?_⟩
    obtain ⟨T, u, e, hT, e2, y1⟩ := y
    subst e e2
    have e1 := y1 vs t
    rw [hx] at e1; cases e1
    exact ⟨same_upd hT, pair_new (dn_int.mpr rfl) dx hT⟩
@[simp] def rEnum (t : TL) : TL := fun m δ Q => t m δ fun m ds => match ds with | [.tup as] => Q m (enuD as) | _ => False
theorem di_enum (F : XF L Z X k ε) {a : Expr} {elts : List Expr} {kk : Nat} {tpos pos : Pos} {t : TL} {p : Pos} (ha : DA Z X [a] t) (hm : X.mg "enumerate" = none) (hg : Gl X "enumerate" := by rfl) (hs : starEach [a] X.env = [(false, eval a X.env)] := by rfl) :
    DI Z X (.Tuple elts kk tpos) (.Call (.Name "enumerate" p) [a] [] pos) (rEnum t) := by
  obtain ⟨T, pa, h⟩ := ha.ex
  refine ⟨_, pi_enumT hg hm pa hs, fun m δ σ H Q R n q r => h m δ σ H _ _ n q fun m vs ds H1 n1 s1 d1 q1 => ?_⟩
  have hK : X.K = Z.L.K := F.K
  split at q1
  · rename_i as
    obtain ⟨v, rfl, hv⟩ := d1.one
    obtain ⟨z, c, vs, e, t, l⟩ := dn_tupT hv
    refine ⟨c, vs, by rw [e], by rw [hK]; exact t, r _ _ H1 _ [(.tup as, v)] n1 s1 (fun p hp => ?_) (enu_D e hK) (by rw [enuD_length]; exact z) q1⟩
    cases List.mem_singleton.mp hp; exact hv
  · exact q1.elim
end
end DL

namespace WK03
open PySem L2 DL
def topS (i : Nat) : Stmt := PySem.Challenge.pw_coverjoin_k03_whole_names_of_attributes.main.body.getD i (.Pass ⟨0, 0, 0, 0⟩)
abbrev s__law_blended : Stmt := topS 28
abbrev s__law_draw : Stmt := topS 29
abbrev s__law_pick : Stmt := topS 30
abbrev s__law_mixed : Stmt := topS 31
abbrev s__law_cj_some : Stmt := topS 36
abbrev s__law_cj_query : Stmt := topS 35
abbrev s__law_cj_store : Stmt := topS 37
abbrev s_is_number : Stmt := topS 9
abbrev s_is_rising : Stmt := topS 10
abbrev s_is_query : Stmt := topS 11
abbrev s_need_query : Stmt := topS 12
abbrev s_is_row : Stmt := topS 13
abbrev s_is_table : Stmt := topS 14
abbrev s_is_store : Stmt := topS 15
abbrev s_need_store : Stmt := topS 16
abbrev s_is_order : Stmt := topS 19
abbrev s_renamed : Stmt := topS 20
abbrev s__law_k03_renamed : Stmt := topS 40
abbrev s_lot_of : Stmt := topS 23
abbrev s_candidates : Stmt := topS 24
abbrev s_part_of : Stmt := topS 17
abbrev s_fits : Stmt := topS 22
abbrev s_answers : Stmt := topS 25
abbrev s__law_cj_odd : Stmt := topS 38
abbrev s__law_is_whole : Stmt := topS 34
abbrev s__law_cj_bent : Stmt := topS 39
abbrev s__law_is_truth : Stmt := topS 33
abbrev s__law_begun : Stmt := topS 27
abbrev s_law : Stmt := topS 41
abbrev s__law_caught : Stmt := topS 32
def errs : List Str := ["BadPlaces", "BadQuery", "BadStore"]
def isJ (c : Str) : Bool := errs.contains c
/-- isinstance of an error of the class c: what it answers of the class t -/
def isI (c : Str) : D → Option Bool
  | .cl d => if errs.contains c then (if d = "JoinError" then some true else if errs.contains d then some (decide (c = d)) else none) else none
  | .ty n => if errs.contains c && n == "ValueError" then some true else none
  | _ => none
def isO : List Str := ["BadPlaces", "BadQuery", "BadStore", "JoinError"]
structure Txt (w : World) (K : PySem.W.Frag) (mg : Str → Option Value) (base : Heap) (L : Ls) (gC CS : Addr) (fdC : FuncData) (cod tb : Str → Addr) : Prop where
  hK : L.K = K ∧ L.w = w
  x_BadPlaces : ExD K mg L "BadPlaces"
  x_BadQuery : ExD K mg L "BadQuery"
  x_BadStore : ExD K mg L "BadStore"
  c_MOST_ATOMS : ∃ t, mg "MOST_ATOMS" = some (.int 8 t)
  c_MOST_MANY : ∃ t, mg "MOST_MANY" = some (.int 8 t)
  c_MOST_NUMBER : ∃ t, mg "MOST_NUMBER" = some (.int 1000000000000000000 t)
  b_abs : mg "abs" = none
  b_all : mg "all" = none
  b_any : mg "any" = none
  b_bool : mg "bool" = none
  b_dict : mg "dict" = none
  b_enumerate : mg "enumerate" = none
  b_int : mg "int" = none
  b_isinstance : mg "isinstance" = none
  b_len : mg "len" = none
  b_list : mg "list" = none
  b_min : mg "min" = none
  b_range : mg "range" = none
  b_set : mg "set" = none
  b_sorted : mg "sorted" = none
  b_tuple : mg "tuple" = none
  b_zip : mg "zip" = none
  hI : ClsT K L isI
  hO : ClsB K L isO
  fuC : Fun K "_law_caught" "_law_caught" s__law_caught gC fdC
  mC : mg "_law_caught" = some (.ref gC)
  bC : Binds K fdC ["work"] []
  gJ : mg "JoinError" = some (.ref CS)
  hJ : ∀ c, isJ c = true → PySem.W.exmOne K (.ref (L.cls c)) (.ref CS) = some true
  tab_law : LamX.TabB base mg (cod "law") (tb "law") ∧ (tb "law", (("law" : Str) ++ ".<locals>.") ++ "<lambda>") ∈ L.T ∧ ∀ p ∈ L.T, p.1 = tb "law" → p.2 = (("law" : Str) ++ ".<locals>.") ++ "<lambda>"
  tab_renamed : LamX.TabB base mg (cod "renamed") (tb "renamed") ∧ (tb "renamed", (("renamed" : Str) ++ ".<locals>.") ++ "<lambda>") ∈ L.T ∧ ∀ p ∈ L.T, p.1 = tb "renamed" → p.2 = (("renamed" : Str) ++ ".<locals>.") ++ "<lambda>"
theorem sc__law_blended : FnScope ["state", "turn", "found", "prime", "blend", "cell"] ["state"] (defScope s__law_blended) := ⟨rfl, rfl, rfl, by decide +kernel, rfl, by decide +kernel, by decide +kernel⟩
theorem sc__law_draw : FnScope ["state", "size_here", "found"] ["state", "size_here"] (defScope s__law_draw) := ⟨rfl, rfl, rfl, by decide +kernel, rfl, by decide +kernel, by decide +kernel⟩
theorem sc__law_pick : FnScope ["state", "several"] ["state", "several"] (defScope s__law_pick) := ⟨rfl, rfl, rfl, by decide +kernel, rfl, by decide +kernel, by decide +kernel⟩
theorem sc__law_mixed : FnScope ["state", "several", "left", "found"] ["state", "several"] (defScope s__law_mixed) := ⟨rfl, rfl, rfl, by decide +kernel, rfl, by decide +kernel, by decide +kernel⟩
theorem sc__law_cj_some : FnScope ["state", "many"] ["state", "many"] (defScope s__law_cj_some) := ⟨rfl, rfl, rfl, by decide +kernel, rfl, by decide +kernel, by decide +kernel⟩
theorem sc__law_cj_query : FnScope ["state", "known", "many", "atoms_here", "turn", "lacking", "one", "atom"] ["state"] (defScope s__law_cj_query) := ⟨rfl, rfl, rfl, by decide +kernel, rfl, by decide +kernel, by decide +kernel⟩
theorem sc__law_cj_store : FnScope ["state", "query_here", "most", "top", "lift", "found", "atom", "rows_here", "turn", "at"] ["state", "query_here", "most", "top"] (defScope s__law_cj_store) := ⟨rfl, rfl, rfl, by decide +kernel, rfl, by decide +kernel, by decide +kernel⟩
theorem sc_is_number : FnScope ["value", "low"] ["value", "low"] (defScope s_is_number) := ⟨rfl, rfl, rfl, by decide +kernel, rfl, by decide +kernel, by decide +kernel⟩
theorem sc_is_rising : FnScope ["value", "one", "other", "item"] ["value"] (defScope s_is_rising) := ⟨rfl, rfl, rfl, by decide +kernel, rfl, by decide +kernel, by decide +kernel⟩
theorem sc_is_query : FnScope ["value", "many", "atoms", "attribute", "atom"] ["value"] (defScope s_is_query) := ⟨rfl, rfl, rfl, by decide +kernel, rfl, by decide +kernel, by decide +kernel⟩
theorem sc_need_query : FnScope ["query"] ["query"] (defScope s_need_query) := ⟨rfl, rfl, rfl, by decide +kernel, rfl, by decide +kernel, by decide +kernel⟩
theorem sc_is_row : FnScope ["value", "wide", "item"] ["value", "wide"] (defScope s_is_row) := ⟨rfl, rfl, rfl, by decide +kernel, rfl, by decide +kernel, by decide +kernel⟩
theorem sc_is_table : FnScope ["value", "wide", "one", "other", "row"] ["value", "wide"] (defScope s_is_table) := ⟨rfl, rfl, rfl, by decide +kernel, rfl, by decide +kernel, by decide +kernel⟩
theorem sc_is_store : FnScope ["query", "value", "atom", "table"] ["query", "value"] (defScope s_is_store) := ⟨rfl, rfl, rfl, by decide +kernel, rfl, by decide +kernel, by decide +kernel⟩
theorem sc_need_store : FnScope ["query", "store"] ["query", "store"] (defScope s_need_store) := ⟨rfl, rfl, rfl, by decide +kernel, rfl, by decide +kernel, by decide +kernel⟩
theorem sc_is_order : FnScope ["query", "value", "item"] ["query", "value"] (defScope s_is_order) := ⟨rfl, rfl, rfl, by decide +kernel, rfl, by decide +kernel, by decide +kernel⟩
theorem sc_renamed : FnScope ["query", "store", "places", "atoms", "tables", "atom", "table", "turn", "named", "attribute", "row", "at"] ["query", "store", "places"] (defScope s_renamed) := ⟨rfl, rfl, rfl, by decide +kernel, rfl, by decide +kernel, by decide +kernel⟩
theorem sc__law_k03_renamed : FnScope ["query_here", "store_here", "places_here", "atoms_here", "tables_here", "atom", "table_here", "named", "rows_here", "row", "told_here", "attribute", "number"] ["query_here", "store_here", "places_here"] (defScope s__law_k03_renamed) := ⟨rfl, rfl, rfl, by decide +kernel, rfl, by decide +kernel, by decide +kernel⟩
theorem sc_lot_of : FnScope ["query", "store", "found", "atom", "table", "lot", "row", "many"] ["query", "store"] (defScope s_lot_of) := ⟨rfl, rfl, rfl, by decide +kernel, rfl, by decide +kernel, by decide +kernel⟩
theorem sc_candidates : FnScope ["query", "store", "found", "attribute", "here", "atom", "table", "own", "row", "number"] ["query", "store"] (defScope s_candidates) := ⟨rfl, rfl, rfl, by decide +kernel, rfl, by decide +kernel, by decide +kernel⟩
theorem sc_part_of : FnScope ["answer", "atom", "attribute"] ["answer", "atom"] (defScope s_part_of) := ⟨rfl, rfl, rfl, by decide +kernel, rfl, by decide +kernel, by decide +kernel⟩
theorem sc_fits : FnScope ["query", "lots", "known", "last", "atom", "lot"] ["query", "lots", "known"] (defScope s_fits) := ⟨rfl, rfl, rfl, by decide +kernel, rfl, by decide +kernel, by decide +kernel⟩
theorem sc_answers : FnScope ["query", "store", "lots", "numbers", "line", "attribute", "known", "number"] ["query", "store"] (defScope s_answers) := ⟨rfl, rfl, rfl, by decide +kernel, rfl, by decide +kernel, by decide +kernel⟩
theorem sc__law_cj_odd : FnScope ["state"] ["state"] (defScope s__law_cj_odd) := ⟨rfl, rfl, rfl, by decide +kernel, rfl, by decide +kernel, by decide +kernel⟩
theorem sc__law_is_whole : FnScope ["item"] ["item"] (defScope s__law_is_whole) := ⟨rfl, rfl, rfl, by decide +kernel, rfl, by decide +kernel, by decide +kernel⟩
theorem sc__law_cj_bent : FnScope ["state", "item", "at", "way"] ["state", "item"] (defScope s__law_cj_bent) := ⟨rfl, rfl, rfl, by decide +kernel, rfl, by decide +kernel, by decide +kernel⟩
theorem sc__law_is_truth : FnScope ["found", "due"] ["found", "due"] (defScope s__law_is_truth) := ⟨rfl, rfl, rfl, by decide +kernel, rfl, by decide +kernel, by decide +kernel⟩
theorem sc__law_begun : FnScope ["script", "great", "cell"] ["script"] (defScope s__law_begun) := ⟨rfl, rfl, rfl, by decide +kernel, rfl, by decide +kernel, by decide +kernel⟩
theorem sc_law : FnScope ["script", "state", "lap", "many", "places_here", "found", "due", "answer", "told_here", "back_here", "near", "is_due", "query_here", "store_here", "value", "at", "number", "one"] ["script"] (defScope s_law) := ⟨rfl, rfl, rfl, by decide +kernel, rfl, by decide +kernel, by decide +kernel⟩
theorem sc__law_caught : FnScope ["work", "caught", "error"] ["work"] (defScope s__law_caught) := ⟨rfl, rfl, rfl, by decide +kernel, rfl, by decide +kernel, by decide +kernel⟩
section
variable {P : Program} {w : World} {K : PySem.W.Frag} {mg : Str → Option Value} {base : Heap} {L : Ls} {gC CS : Addr} {fdC : FuncData} {cod tb : Str → Addr}
def r__law_blended  (ε : Nat → Str → Prop) : TSd := (rSeq (rPar [1, 2] (pVal (rOp dAdd (rStTurn 0) (rC (.int 1))) (pVal (rC (.int 0)) pNil))) (rSeq (rStTurnSet 0 (rVar 1)) (rSeq (rFor (.one 3) (rIt (rC (.lst [(.int 2147483077), (.int 2147483069), (.int 2147483059)]))) (rSeq (rSet 4 (rOp dAdd (rOp dMul (rC (.int 40692)) (rVar 1)) (rOp dFdiv (rVar 3) (rC (.int 83))))) (rSeq (rFor (.one 5) (rStCells 0) (rSet 4 (rOp dMod (rCall dInt (rCons (rOp dAdd (rOp dAdd (rOp dMul (rVar 4) (rC (.int 69621))) (rVar 5)) (rVar 1)) rNil)) (rVar 3)))) (rSet 2 (rOp dAdd (rOp dMul (rVar 2) (rC (.int 2147483647))) (rOp dMod (rCall dInt (rCons (rOp dPow (rVar 4) (rC (.int 5))) rNil)) (rVar 3))))))) (rRet (rVar 2)))))
theorem k__law_blended {k : Nat} (T : Txt w K mg base L gC CS fdC cod tb)   {S : Spd} {f : Addr} {fd : FuncData} (Fu : Fun K "_law_blended" "_law_blended" s__law_blended f fd)
    (imp : ∀ ε ds m Q, ds.length = 1 → S ds m Q ε → r__law_blended  ε { nx := fun m _ => Q m .non, rt := Q } m (params ["state", "turn", "found", "prime", "blend", "cell"] ds)) : FnOk P w K mg base (L2.CX P w) (k + 1) f fd ["state"] (prom L 1 S) :=
  def_ok T.hK Fu sc__law_blended rfl fun cdv A outer s H E Z ε _ hr F => ⟨r__law_blended  ε, (dss_cons (ds_par2 F 1 2 (dp_val F (de_op F (b_add F) (de_stT F 0) (de_int F)) (fun _ Fl1 => (dp_val Fl1 (de_int Fl1) (fun _ _ => dp_nil))))) (dss_cons (ds_stT F 0 (de_var F 1)) (dss_cons (ds_for F (.one 3) (di_seq F (de_lstC F (da_consC F (de_int F) (da_consC F (de_int F) (da_consC F (de_int F) da_nilC))))) (tg_one F.nd 3) (fun _ Fl2 => (dss_cons (ds_set Fl2 4 (de_op Fl2 (b_add Fl2) (de_op Fl2 (b_mul Fl2) (de_int Fl2) (de_var Fl2 1)) (de_op Fl2 o_fdiv (de_var Fl2 3) (de_int Fl2)))) (dss_cons (ds_for Fl2 (.one 5) (di_stC Fl2 0) (tg_one Fl2.nd 5) (fun _ Fl3 => (dss_one (ds_set Fl3 4 (de_op Fl3 o_mod (de_callTy Fl3 k_int T.b_int (by decide +kernel) (da_cons Fl3 (de_op Fl3 (b_add Fl3) (de_op Fl3 (b_add Fl3) (de_op Fl3 (b_mul Fl3) (de_var Fl3 4) (de_int Fl3)) (de_var Fl3 5)) (de_var Fl3 1)) da_nil)) (de_var Fl3 3)))))) (dss_one (ds_set Fl2 2 (de_op Fl2 (b_add Fl2) (de_op Fl2 (b_mul Fl2) (de_var Fl2 2) (de_int Fl2)) (de_op Fl2 o_mod (de_callTy Fl2 k_int T.b_int (by decide +kernel) (da_cons Fl2 (de_op Fl2 o_pow (de_var Fl2 4) (de_int Fl2)) da_nil)) (de_var Fl2 3))))))))) (dss_one (ds_ret (de_var F 2)))))), imp ε⟩
def r__law_draw (S__law_blended : Spd) (ε : Nat → Str → Prop) : TSd := (rSeq (rIfS (rTest (rOp dEq (rStInt 0) (rC (.int 0)))) (rStSet 0 (rStPop 0 (rFn 1 S__law_blended ε (rCons (rVar 0) rNil)))) rNext) (rSeq (rSet 2 (rOp dMod (rCall dInt (rCons (rStInt 0) rNil)) (rVar 1))) (rSeq (rStSet 0 (rOp dFdiv (rStInt 0) (rVar 1))) (rRet (rVar 2)))))
theorem k__law_draw {k : Nat} (T : Txt w K mg base L gC CS fdC cod tb) (S__law_blended : Spd) (d__law_blended : FnD P w K mg base L k "_law_blended" 1 S__law_blended) {S : Spd} {f : Addr} {fd : FuncData} (Fu : Fun K "_law_draw" "_law_draw" s__law_draw f fd)
    (imp : ∀ ε ds m Q, ds.length = 2 → S ds m Q ε → r__law_draw S__law_blended ε { nx := fun m _ => Q m .non, rt := Q } m (params ["state", "size_here", "found"] ds)) : FnOk P w K mg base (L2.CX P w) (k + 1) f fd ["state", "size_here"] (prom L 2 S) :=
  def_ok T.hK Fu sc__law_draw rfl fun cdv A outer s H E Z ε _ hr F => ⟨r__law_draw S__law_blended ε, (dss_cons (ds_if (dt_cmp F (c_eq F) (de_stL F 0) (de_int F) (nomark _)) (dss_one (ds_stL F 0 (de_stPop F 0 (de_call F d__law_blended (da_cons F (de_var F 0) da_nil))))) dss_nil) (dss_cons (ds_set F 2 (de_op F o_mod (de_callTy F k_int T.b_int (by decide +kernel) (da_cons F (de_stL F 0) da_nil)) (de_var F 1))) (dss_cons (ds_stL F 0 (de_op F o_fdiv (de_stL F 0) (de_var F 1))) (dss_one (ds_ret (de_var F 2)))))), imp ε⟩
def r__law_pick (S__law_draw : Spd) (ε : Nat → Str → Prop) : TSd := (rRet (rOp dIx (rVar 1) (rFn 2 S__law_draw ε (rCons (rVar 0) (rCons (rCall dLenA (rCons (rVar 1) rNil)) rNil)))))
theorem k__law_pick {k : Nat} (T : Txt w K mg base L gC CS fdC cod tb) (S__law_draw : Spd) (d__law_draw : FnD P w K mg base L k "_law_draw" 2 S__law_draw) {S : Spd} {f : Addr} {fd : FuncData} (Fu : Fun K "_law_pick" "_law_pick" s__law_pick f fd)
    (imp : ∀ ε ds m Q, ds.length = 2 → S ds m Q ε → r__law_pick S__law_draw ε { nx := fun m _ => Q m .non, rt := Q } m (params ["state", "several"] ds)) : FnOk P w K mg base (L2.CX P w) (k + 1) f fd ["state", "several"] (prom L 2 S) :=
  def_ok T.hK Fu sc__law_pick rfl fun cdv A outer s H E Z ε _ hr F => ⟨r__law_pick S__law_draw ε, (dss_one (ds_ret (de_ix F (de_var F 1) (de_call F d__law_draw (da_cons F (de_var F 0) (da_cons F (de_callB F (k_lenA F) T.b_len (by decide +kernel) (da_cons F (de_var F 1) da_nil)) da_nil)))))), imp ε⟩
def r__law_mixed (S__law_draw : Spd) (ε : Nat → Str → Prop) : TSd := (rSeq (rPar [2, 3] (pOwn (rListOf (rVar 1)) (pOwn (rLs rNil) pNil))) (rSeq (rWhile (rBrwT 2 (rTest (rOp dNe (rVar 2) (rLst rNil)))) (rAppPop 3 2 (rFn 2 S__law_draw ε (rCons (rVar 0) (rCons (rBrw 2 (rCall dLenA (rCons (rVar 2) rNil))) rNil))))) (rFrz 3 (rRet (rVar 3)))))
theorem k__law_mixed {k : Nat} (T : Txt w K mg base L gC CS fdC cod tb) (S__law_draw : Spd) (d__law_draw : FnD P w K mg base L k "_law_draw" 2 S__law_draw) {S : Spd} {f : Addr} {fd : FuncData} (Fu : Fun K "_law_mixed" "_law_mixed" s__law_mixed f fd)
    (imp : ∀ ε ds m Q, ds.length = 2 → S ds m Q ε → r__law_mixed S__law_draw ε { nx := fun m _ => Q m .non, rt := Q } m (params ["state", "several", "left", "found"] ds)) : FnOk P w K mg base (L2.CX P w) (k + 1) f fd ["state", "several"] (prom L 2 S) :=
  def_ok T.hK Fu sc__law_mixed rfl fun cdv A outer s H E Z ε _ hr F => ⟨r__law_mixed S__law_draw ε, (dss_cons (ds_par2 F 2 3 (dp_own F (del_list F (de_var F 1) T.b_list) (fun _ Fl1 => (dp_own Fl1 (del_lst Fl1 da_nil) (fun _ _ => dp_nil))))) (dss_cons (ds_while F (dt_brw F 2 (dt_cmp F (c_ne F) (de_var F 2) (de_lst F da_nil) (nomark _))) (dss_one (ds_appPop F 3 2 (de_call F d__law_draw (da_cons F (de_var F 0) (da_cons F (de_brw F 2 (de_callB F (k_lenA F) T.b_len (by decide +kernel) (da_cons F (de_var F 2) da_nil))) da_nil)))))) (dss_frz 3 (dss_one (ds_ret (de_var F 3)))))), imp ε⟩
def r__law_cj_some (S__law_mixed : Spd) (S__law_draw : Spd) (ε : Nat → Str → Prop) : TSd := (rRet (rCall dTuple (rCons (rCall dSorted (rCons (rSl (rFn 2 S__law_mixed ε (rCons (rVar 0) (rCons (rListRg (rRg1 (rVar 1))) rNil))) rNoPart (rPart (rOp dAdd (rC (.int 1)) (rFn 2 S__law_draw ε (rCons (rVar 0) (rCons (rCall dMin2 (rCons (rVar 1) (rCons (rC (.int 3)) rNil))) rNil)))))) rNil)) rNil)))
theorem k__law_cj_some {k : Nat} (T : Txt w K mg base L gC CS fdC cod tb) (S__law_mixed : Spd) (S__law_draw : Spd) (d__law_mixed : FnD P w K mg base L k "_law_mixed" 2 S__law_mixed) (d__law_draw : FnD P w K mg base L k "_law_draw" 2 S__law_draw) {S : Spd} {f : Addr} {fd : FuncData} (Fu : Fun K "_law_cj_some" "_law_cj_some" s__law_cj_some f fd)
    (imp : ∀ ε ds m Q, ds.length = 2 → S ds m Q ε → r__law_cj_some S__law_mixed S__law_draw ε { nx := fun m _ => Q m .non, rt := Q } m (params ["state", "many"] ds)) : FnOk P w K mg base (L2.CX P w) (k + 1) f fd ["state", "many"] (prom L 2 S) :=
  def_ok T.hK Fu sc__law_cj_some rfl fun cdv A outer s H E Z ε _ hr F => ⟨r__law_cj_some S__law_mixed S__law_draw ε, (dss_one (ds_ret (de_callTy F (k_tuple F.K) T.b_tuple (by decide +kernel) (da_cons F (de_callB F (k_sorted F) T.b_sorted (by decide +kernel) (da_cons F (de_slice F (de_call F d__law_mixed (da_cons F (de_var F 0) (da_cons F (de_listRg F (dr_1 (de_var F 1) T.b_range) T.b_list) da_nil))) do_none (do_some (de_op F (b_add F) (de_int F) (de_call F d__law_draw (da_cons F (de_var F 0) (da_cons F (de_callB F (k_min2 F) T.b_min (by decide +kernel) (da_cons F (de_var F 1) (da_cons F (de_int F) da_nil))) da_nil)))))) da_nil)) da_nil)))), imp ε⟩
def r__law_cj_query (S__law_draw : Spd) (S__law_pick : Spd) (S__law_cj_some : Spd) (ε : Nat → Str → Prop) : TSd := (rSeq (rSet 1 (rC (.lst [(.tup [(.int 3), (.tup [(.tup [(.int 0), (.int 1)]), (.tup [(.int 0), (.int 2)]), (.tup [(.int 1), (.int 2)])])]), (.tup [(.int 2), (.tup [(.tup [(.int 0)]), (.tup [(.int 0), (.int 1)]), (.tup [(.int 1)])])]), (.tup [(.int 4), (.tup [(.tup [(.int 0), (.int 1)]), (.tup [(.int 1), (.int 2)]), (.tup [(.int 2), (.int 3)]), (.tup [(.int 0), (.int 3)])])])]))) (rSeq (rSet 1 (rOp dAdd (rVar 1) (rC (.lst [(.tup [(.int 3), (.tup [(.tup [(.int 0), (.int 1)]), (.tup [(.int 1), (.int 2)])])]), (.tup [(.int 4), (.tup [(.tup [(.int 0), (.int 1)]), (.tup [(.int 0), (.int 2)]), (.tup [(.int 0), (.int 3)])])]), (.tup [(.int 1), (.tup [(.tup [(.int 0)])])]), (.tup [(.int 2), (.tup [(.tup [(.int 0)]), (.tup [(.int 1)])])])])))) (rSeq (rSet 1 (rOp dAdd (rVar 1) (rC (.lst [(.tup [(.int 4), (.tup [(.tup [(.int 0), (.int 1), (.int 2)]), (.tup [(.int 1), (.int 2), (.int 3)]), (.tup [(.int 0), (.int 3)])])]), (.tup [(.int 3), (.tup [(.tup [(.int 0), (.int 1), (.int 2)]), (.tup [(.int 0), (.int 1)]), (.tup [(.int 2)])])]), (.tup [(.int 2), (.tup [(.tup [(.int 0), (.int 1)]), (.tup [(.int 0), (.int 1)])])])])))) (rSeq (rIfS (rTest (rOp dEq (rFn 2 S__law_draw ε (rCons (rVar 0) (rCons (rC (.int 2)) rNil))) (rC (.int 0)))) (rRet (rFn 2 S__law_pick ε (rCons (rVar 0) (rCons (rVar 1) rNil)))) rNext) (rSeq (rSet 2 (rOp dAdd (rC (.int 1)) (rFn 2 S__law_draw ε (rCons (rVar 0) (rCons (rC (.int 4)) rNil))))) (rSeq (rOwn 3 (rLs rNil)) (rSeq (rFor (.one 4) (rRng1 (rCons (rOp dAdd (rC (.int 1)) (rFn 2 S__law_draw ε (rCons (rVar 0) (rCons (rC (.int 4)) rNil)))) rNil)) (rApp 3 (rFn 2 S__law_cj_some ε (rCons (rVar 0) (rCons (rVar 2) rNil))))) (rFrz 3 (rSeq (rSet 5 (rL (rLc (.one 6) [6] (rRng1 (rCons (rVar 2) rNil)) (rTest (rOp dEq (rL (rLc (.one 7) [7] (rIt (rVar 3)) (rTest (rOp dIn (rVar 6) (rVar 7))) (rC (.int 1)))) (rLst rNil))) (rVar 6)))) (rRet (rTup (rCons (rVar 2) (rCons (rCall dTuple (rCons (rOp dAdd (rVar 3) (rIf (rTest (rOp dNe (rVar 5) (rLst rNil))) (rLst (rCons (rCall dTuple (rCons (rVar 5) rNil)) rNil)) (rLst rNil))) rNil)) rNil)))))))))))))
theorem k__law_cj_query {k : Nat} (T : Txt w K mg base L gC CS fdC cod tb) (S__law_draw : Spd) (S__law_pick : Spd) (S__law_cj_some : Spd) (d__law_draw : FnD P w K mg base L k "_law_draw" 2 S__law_draw) (d__law_pick : FnD P w K mg base L k "_law_pick" 2 S__law_pick) (d__law_cj_some : FnD P w K mg base L k "_law_cj_some" 2 S__law_cj_some) {S : Spd} {f : Addr} {fd : FuncData} (Fu : Fun K "_law_cj_query" "_law_cj_query" s__law_cj_query f fd)
    (imp : ∀ ε ds m Q, ds.length = 1 → S ds m Q ε → r__law_cj_query S__law_draw S__law_pick S__law_cj_some ε { nx := fun m _ => Q m .non, rt := Q } m (params ["state", "known", "many", "atoms_here", "turn", "lacking", "one", "atom"] ds)) : FnOk P w K mg base (L2.CX P w) (k + 1) f fd ["state"] (prom L 1 S) :=
  def_ok T.hK Fu sc__law_cj_query rfl fun cdv A outer s H E Z ε _ hr F => ⟨r__law_cj_query S__law_draw S__law_pick S__law_cj_some ε, (dss_cons (ds_set F 1 (de_lstC F (da_consC F (de_tupC F (da_consC F (de_int F) (da_consC F (de_tupC F (da_consC F (de_tupC F (da_consC F (de_int F) (da_consC F (de_int F) da_nilC))) (da_consC F (de_tupC F (da_consC F (de_int F) (da_consC F (de_int F) da_nilC))) (da_consC F (de_tupC F (da_consC F (de_int F) (da_consC F (de_int F) da_nilC))) da_nilC)))) da_nilC))) (da_consC F (de_tupC F (da_consC F (de_int F) (da_consC F (de_tupC F (da_consC F (de_tupC F (da_consC F (de_int F) da_nilC)) (da_consC F (de_tupC F (da_consC F (de_int F) (da_consC F (de_int F) da_nilC))) (da_consC F (de_tupC F (da_consC F (de_int F) da_nilC)) da_nilC)))) da_nilC))) (da_consC F (de_tupC F (da_consC F (de_int F) (da_consC F (de_tupC F (da_consC F (de_tupC F (da_consC F (de_int F) (da_consC F (de_int F) da_nilC))) (da_consC F (de_tupC F (da_consC F (de_int F) (da_consC F (de_int F) da_nilC))) (da_consC F (de_tupC F (da_consC F (de_int F) (da_consC F (de_int F) da_nilC))) (da_consC F (de_tupC F (da_consC F (de_int F) (da_consC F (de_int F) da_nilC))) da_nilC))))) da_nilC))) da_nilC))))) (dss_cons (ds_set F 1 (de_op F (b_add F) (de_var F 1) (de_lstC F (da_consC F (de_tupC F (da_consC F (de_int F) (da_consC F (de_tupC F (da_consC F (de_tupC F (da_consC F (de_int F) (da_consC F (de_int F) da_nilC))) (da_consC F (de_tupC F (da_consC F (de_int F) (da_consC F (de_int F) da_nilC))) da_nilC))) da_nilC))) (da_consC F (de_tupC F (da_consC F (de_int F) (da_consC F (de_tupC F (da_consC F (de_tupC F (da_consC F (de_int F) (da_consC F (de_int F) da_nilC))) (da_consC F (de_tupC F (da_consC F (de_int F) (da_consC F (de_int F) da_nilC))) (da_consC F (de_tupC F (da_consC F (de_int F) (da_consC F (de_int F) da_nilC))) da_nilC)))) da_nilC))) (da_consC F (de_tupC F (da_consC F (de_int F) (da_consC F (de_tupC F (da_consC F (de_tupC F (da_consC F (de_int F) da_nilC)) da_nilC)) da_nilC))) (da_consC F (de_tupC F (da_consC F (de_int F) (da_consC F (de_tupC F (da_consC F (de_tupC F (da_consC F (de_int F) da_nilC)) (da_consC F (de_tupC F (da_consC F (de_int F) da_nilC)) da_nilC))) da_nilC))) da_nilC))))))) (dss_cons (ds_set F 1 (de_op F (b_add F) (de_var F 1) (de_lstC F (da_consC F (de_tupC F (da_consC F (de_int F) (da_consC F (de_tupC F (da_consC F (de_tupC F (da_consC F (de_int F) (da_consC F (de_int F) (da_consC F (de_int F) da_nilC)))) (da_consC F (de_tupC F (da_consC F (de_int F) (da_consC F (de_int F) (da_consC F (de_int F) da_nilC)))) (da_consC F (de_tupC F (da_consC F (de_int F) (da_consC F (de_int F) da_nilC))) da_nilC)))) da_nilC))) (da_consC F (de_tupC F (da_consC F (de_int F) (da_consC F (de_tupC F (da_consC F (de_tupC F (da_consC F (de_int F) (da_consC F (de_int F) (da_consC F (de_int F) da_nilC)))) (da_consC F (de_tupC F (da_consC F (de_int F) (da_consC F (de_int F) da_nilC))) (da_consC F (de_tupC F (da_consC F (de_int F) da_nilC)) da_nilC)))) da_nilC))) (da_consC F (de_tupC F (da_consC F (de_int F) (da_consC F (de_tupC F (da_consC F (de_tupC F (da_consC F (de_int F) (da_consC F (de_int F) da_nilC))) (da_consC F (de_tupC F (da_consC F (de_int F) (da_consC F (de_int F) da_nilC))) da_nilC))) da_nilC))) da_nilC)))))) (dss_cons (ds_if (dt_cmp F (c_eq F) (de_call F d__law_draw (da_cons F (de_var F 0) (da_cons F (de_int F) da_nil))) (de_int F) (nomark _)) (dss_one (ds_ret (de_call F d__law_pick (da_cons F (de_var F 0) (da_cons F (de_var F 1) da_nil))))) dss_nil) (dss_cons (ds_set F 2 (de_op F (b_add F) (de_int F) (de_call F d__law_draw (da_cons F (de_var F 0) (da_cons F (de_int F) da_nil))))) (dss_cons (ds_own F 3 (del_lst F da_nil)) (dss_cons (ds_for F (.one 4) (di_rng1 F (da_cons F (de_op F (b_add F) (de_int F) (de_call F d__law_draw (da_cons F (de_var F 0) (da_cons F (de_int F) da_nil)))) da_nil) T.b_range) (tg_one F.nd 4) (fun _ Fl1 => (dss_one (ds_app Fl1 3 (de_call Fl1 d__law_cj_some (da_cons Fl1 (de_var Fl1 0) (da_cons Fl1 (de_var Fl1 2) da_nil))))))) (dss_frz 3 (dss_cons (And.left (dsl_lc F 5 (.one 6) [("one", 6)] (di_rng1 F (da_cons F (de_var F 2) da_nil) T.b_range) (fun _ _ _ _ _ nd cm => (tg_one nd 6)) (fun _ _ _ _ _ _ G2 => (dts_one (dt_cmp G2 (c_eq G2) (DEl.de (del_lc G2 (.one 7) [("atom", 7)] (di_seq G2 (de_var G2 3)) (fun _ _ _ _ _ nd cm => (tg_one nd 7)) (fun _ _ _ _ _ _ G3 => (dts_one (dt_cmp G3 (o_in G3.K) (de_var G3 6) (de_var G3 7) (by rfl)))) (fun _ _ _ _ _ _ G3 => (de_int G3)))) (de_lst G2 da_nil) (nomark _)))) (fun _ _ _ _ _ _ G2 => (de_var G2 6)))) (dss_one (ds_ret (de_tup F (da_cons F (de_var F 2) (da_cons F (de_callTy F (k_tuple F.K) T.b_tuple (by decide +kernel) (da_cons F (de_op F (b_add F) (de_var F 3) (de_if (dt_cmp F (c_ne F) (de_var F 5) (de_lst F da_nil) (nomark _)) (de_lst F (da_cons F (de_callTy F (k_tuple F.K) T.b_tuple (by decide +kernel) (da_cons F (de_var F 5) da_nil)) da_nil)) (de_lst F da_nil))) da_nil)) da_nil)))))))))))))), imp ε⟩
def r__law_cj_store (S__law_pick : Spd) (S__law_draw : Spd) (ε : Nat → Str → Prop) : TSd := (rSeq (rSet 4 (rFn 2 S__law_pick ε (rCons (rVar 0) (rCons (rC (.lst [(.int 0), (.int 0), (.int 0), (.int 7)])) rNil)))) (rSeq (rOwn 5 (rLs rNil)) (rSeq (rFor (.one 6) (rIt (rOp dIx (rVar 1) (rC (.int 1)))) (rSeq (rOwn 7 (rLs rNil)) (rSeq (rFor (.one 8) (rRng1 (rCons (rFn 2 S__law_draw ε (rCons (rVar 0) (rCons (rOp dAdd (rVar 2) (rC (.int 1))) rNil))) rNil)) (rApp 7 (rCall dTuple (rCons (rL (rLc (.one 9) [9] (rIt (rVar 6)) rYes (rOp dAdd (rFn 2 S__law_draw (fun _ _ => False) (rCons (rVar 0) (rCons (rVar 3) rNil))) (rVar 4)))) rNil)))) (rFrz 7 (rApp 5 (rCall dTuple (rCons (rSortSet (rVar 7)) rNil))))))) (rFrz 5 (rRet (rCall dTuple (rCons (rVar 5) rNil)))))))
theorem k__law_cj_store {k : Nat} (T : Txt w K mg base L gC CS fdC cod tb) (S__law_pick : Spd) (S__law_draw : Spd) (d__law_pick : FnD P w K mg base L k "_law_pick" 2 S__law_pick) (d__law_draw : FnD P w K mg base L k "_law_draw" 2 S__law_draw) {S : Spd} {f : Addr} {fd : FuncData} (Fu : Fun K "_law_cj_store" "_law_cj_store" s__law_cj_store f fd)
    (imp : ∀ ε ds m Q, ds.length = 4 → S ds m Q ε → r__law_cj_store S__law_pick S__law_draw ε { nx := fun m _ => Q m .non, rt := Q } m (params ["state", "query_here", "most", "top", "lift", "found", "atom", "rows_here", "turn", "at"] ds)) : FnOk P w K mg base (L2.CX P w) (k + 1) f fd ["state", "query_here", "most", "top"] (prom L 4 S) :=
  def_ok T.hK Fu sc__law_cj_store rfl fun cdv A outer s H E Z ε _ hr F => ⟨r__law_cj_store S__law_pick S__law_draw ε, (dss_cons (ds_set F 4 (de_call F d__law_pick (da_cons F (de_var F 0) (da_cons F (de_lstC F (da_consC F (de_int F) (da_consC F (de_int F) (da_consC F (de_int F) (da_consC F (de_int F) da_nilC))))) da_nil)))) (dss_cons (ds_own F 5 (del_lst F da_nil)) (dss_cons (ds_for F (.one 6) (di_seq F (de_ix F (de_var F 1) (de_int F))) (tg_one F.nd 6) (fun _ Fl1 => (dss_cons (ds_own Fl1 7 (del_lst Fl1 da_nil)) (dss_cons (ds_for Fl1 (.one 8) (di_rng1 Fl1 (da_cons Fl1 (de_call Fl1 d__law_draw (da_cons Fl1 (de_var Fl1 0) (da_cons Fl1 (de_op Fl1 (b_add Fl1) (de_var Fl1 2) (de_int Fl1)) da_nil))) da_nil) T.b_range) (tg_one Fl1.nd 8) (fun _ Fl2 => (dss_one (ds_app Fl2 7 (de_callTy Fl2 (k_tuple Fl2.K) T.b_tuple (by decide +kernel) (da_cons Fl2 (DEl.de (del_lc Fl2 (.one 9) [("at", 9)] (di_seq Fl2 (de_var Fl2 6)) (fun _ _ _ _ _ nd cm => (tg_one nd 9)) (fun _ _ _ _ _ _ G3 => dts_nil) (fun _ _ _ _ _ _ G3 => (de_op G3 (b_add G3) (de_call G3 d__law_draw (da_cons G3 (de_var G3 0) (da_cons G3 (de_var G3 3) da_nil))) (de_var G3 4))))) da_nil)))))) (dss_frz 7 (dss_one (ds_app Fl1 5 (de_callTy Fl1 (k_tuple Fl1.K) T.b_tuple (by decide +kernel) (da_cons Fl1 (de_sortSet Fl1 (de_var Fl1 7) T.b_sorted T.b_set) da_nil))))))))) (dss_frz 5 (dss_one (ds_ret (de_callTy F (k_tuple F.K) T.b_tuple (by decide +kernel) (da_cons F (de_var F 5) da_nil)))))))), imp ε⟩
def r_is_number  (ε : Nat → Str → Prop) : TSd := (rRet (rAndV (rCall dIsi (rCons (rVar 0) (rCons (rC (.ty "int")) rNil))) (rAndV (rNotB (rCall dIsi (rCons (rVar 0) (rCons (rC (.ty "bool")) rNil)))) (rChain dLe dLt (rVar 1) (rVar 0) (rC (.int 1000000000000000000))))))
theorem k_is_number {k : Nat} (T : Txt w K mg base L gC CS fdC cod tb)   {S : Spd} {f : Addr} {fd : FuncData} (Fu : Fun K "is_number" "is_number" s_is_number f fd)
    (imp : ∀ ε ds m Q, ds.length = 2 → S ds m Q ε → r_is_number  ε { nx := fun m _ => Q m .non, rt := Q } m (params ["value", "low"] ds)) : FnOk P w K mg base (L2.CX P w) (k + 1) f fd ["value", "low"] (prom L 2 S) :=
  def_ok T.hK Fu sc_is_number rfl fun cdv A outer s H E Z ε _ hr F => ⟨r_is_number  ε, (dss_one (ds_ret (de_and (de_callB F (k_isi F.K) T.b_isinstance (by decide +kernel) (da_cons F (de_var F 0) (da_cons F (de_ty F (T := "int") T.b_int (by decide +kernel)) da_nil))) (de_and (de_notV (de_callB F (k_isi F.K) T.b_isinstance (by decide +kernel) (da_cons F (de_var F 0) (da_cons F (de_ty F (T := "bool") T.b_bool (by decide +kernel)) da_nil)))) (de_one (de_chain F o_le (c_lt F) (de_var F 1) (de_var F 0) (de_glob F (i := 1000000000000000000) T.c_MOST_NUMBER))))))), imp ε⟩
def r_is_rising (S_is_number : Spd) (ε : Nat → Str → Prop) : TSd := (rSeq (rIfS (rOr (rNot (rTru (rCall dIsi (rCons (rVar 0) (rCons (rC (.ty "tuple")) rNil))))) (rNot (rTru (rCall dAll (rCons (rL (rLc (.one 3) [3] (rIt (rVar 0)) rYes (rFn 2 S_is_number (fun _ _ => False) (rCons (rVar 3) (rCons (rC (.int 0)) rNil))))) rNil))))) (rRet (rC (.bl false))) rNext) (rRet (rCall dAll (rCons (rL (rLc (.many [1, 2]) [1, 2] (rZip (rCons (rVar 0) (rCons (rSl (rVar 0) (rPart (rC (.int 1))) rNoPart) rNil))) rYes (rOp dLt (rVar 1) (rVar 2)))) rNil))))
theorem k_is_rising {k : Nat} (T : Txt w K mg base L gC CS fdC cod tb) (S_is_number : Spd) (d_is_number : FnD P w K mg base L k "is_number" 2 S_is_number) {S : Spd} {f : Addr} {fd : FuncData} (Fu : Fun K "is_rising" "is_rising" s_is_rising f fd)
    (imp : ∀ ε ds m Q, ds.length = 1 → S ds m Q ε → r_is_rising S_is_number ε { nx := fun m _ => Q m .non, rt := Q } m (params ["value", "one", "other", "item"] ds)) : FnOk P w K mg base (L2.CX P w) (k + 1) f fd ["value"] (prom L 1 S) :=
  def_ok T.hK Fu sc_is_rising rfl fun cdv A outer s H E Z ε _ hr F => ⟨r_is_rising S_is_number ε, (dss_cons (ds_if (DW.dt (dw_or (dt_not (dt_truth F (de_callB F (k_isi F.K) T.b_isinstance (by decide +kernel) (da_cons F (de_var F 0) (da_cons F (de_ty F (T := "tuple") T.b_tuple (by decide +kernel)) da_nil))))) (dw_or1 (dt_not (dt_truth F (de_callB F (k_all F) T.b_all (by decide +kernel) (da_cons F (DEl.de (del_lc F (.one 3) [("item", 3)] (di_seq F (de_var F 0)) (fun _ _ _ _ _ nd cm => (tg_one nd 3)) (fun _ _ _ _ _ _ G1 => dts_nil) (fun _ _ _ _ _ _ G1 => (de_call G1 d_is_number (da_cons G1 (de_var G1 3) (da_cons G1 (de_int G1) da_nil)))))) da_nil))))))) (dss_one (ds_ret (de_bl F))) dss_nil) (dss_one (ds_ret (de_callB F (k_all F) T.b_all (by decide +kernel) (da_cons F (DEl.de (del_lc F (.many [1, 2]) [("one", 1), ("other", 2)] (di_zip F (da_cons F (de_var F 0) (da_cons F (de_slice F (de_var F 0) (do_some (de_int F)) do_none) da_nil)) T.b_zip) (fun _ _ _ _ _ nd cm => (tg_many cm (pgs_s nd 1 (pgs_s nd 2 pgs_z)))) (fun _ _ _ _ _ _ G2 => dts_nil) (fun _ _ _ _ _ _ G2 => (de_cmp G2 (c_lt G2) (de_var G2 1) (de_var G2 2) (nomark _))))) da_nil))))), imp ε⟩
def r_is_query (S_is_number : Spd) (S_is_rising : Spd) (ε : Nat → Str → Prop) : TSd := (rSeq (rIfS (rOr (rNot (rTru (rCall dIsi (rCons (rVar 0) (rCons (rC (.ty "tuple")) rNil))))) (rOr (rTest (rOp dNe (rCall dLenA (rCons (rVar 0) rNil)) (rC (.int 2)))) (rOr (rNot (rTru (rFn 2 S_is_number ε (rCons (rOp dIx (rVar 0) (rC (.int 0))) (rCons (rC (.int 1)) rNil))))) (rTest (rOp dGt (rOp dIx (rVar 0) (rC (.int 0))) (rC (.int 8))))))) (rRet (rC (.bl false))) rNext) (rSeq (rAsg (.many [1, 2]) (rVar 0)) (rSeq (rIfS (rOr (rNot (rTru (rCall dIsi (rCons (rVar 2) (rCons (rC (.ty "tuple")) rNil))))) (rNot (rTest (rChain dLe dLe (rC (.int 1)) (rCall dLenA (rCons (rVar 2) rNil)) (rC (.int 8)))))) (rRet (rC (.bl false))) rNext) (rSeq (rIfS (rNot (rTru (rCall dAll (rCons (rL (rLc (.one 4) [4] (rIt (rVar 2)) rYes (rAndV (rFn 1 S_is_rising (fun _ _ => False) (rCons (rVar 4) rNil)) (rAndV (rOp dNe (rVar 4) (rTup rNil)) (rOp dLt (rOp dIx (rVar 4) (rNeg (rC (.int 1)))) (rVar 1)))))) rNil)))) (rRet (rC (.bl false))) rNext) (rRet (rCall dAll (rCons (rL (rLc (.one 3) [3] (rRng1 (rCons (rVar 1) rNil)) rYes (rCall dAny (rCons (rL (rLc (.one 4) [4] (rIt (rVar 2)) rYes (rOp dIn (rVar 3) (rVar 4)))) rNil)))) rNil)))))))
theorem k_is_query {k : Nat} (T : Txt w K mg base L gC CS fdC cod tb) (S_is_number : Spd) (S_is_rising : Spd) (d_is_number : FnD P w K mg base L k "is_number" 2 S_is_number) (d_is_rising : FnD P w K mg base L k "is_rising" 1 S_is_rising) {S : Spd} {f : Addr} {fd : FuncData} (Fu : Fun K "is_query" "is_query" s_is_query f fd)
    (imp : ∀ ε ds m Q, ds.length = 1 → S ds m Q ε → r_is_query S_is_number S_is_rising ε { nx := fun m _ => Q m .non, rt := Q } m (params ["value", "many", "atoms", "attribute", "atom"] ds)) : FnOk P w K mg base (L2.CX P w) (k + 1) f fd ["value"] (prom L 1 S) :=
  def_ok T.hK Fu sc_is_query rfl fun cdv A outer s H E Z ε _ hr F => ⟨r_is_query S_is_number S_is_rising ε, (dss_cons (ds_if (DW.dt (dw_or (dt_not (dt_truth F (de_callB F (k_isi F.K) T.b_isinstance (by decide +kernel) (da_cons F (de_var F 0) (da_cons F (de_ty F (T := "tuple") T.b_tuple (by decide +kernel)) da_nil))))) (dw_or (dt_cmp F (c_ne F) (de_callB F (k_lenA F) T.b_len (by decide +kernel) (da_cons F (de_var F 0) da_nil)) (de_int F) (nomark _)) (dw_or (dt_not (dt_truth F (de_call F d_is_number (da_cons F (de_ix F (de_var F 0) (de_int F)) (da_cons F (de_int F) da_nil))))) (dw_or1 (dt_cmp F o_gt (de_ix F (de_var F 0) (de_int F)) (de_glob F (i := 8) T.c_MOST_MANY) (nomark _))))))) (dss_one (ds_ret (de_bl F))) dss_nil) (dss_cons (ds_asg F (.many [1, 2]) (de_var F 0) (tg_many F.calm (pgs_s F.nd 1 (pgs_s F.nd 2 pgs_z)))) (dss_cons (ds_if (DW.dt (dw_or (dt_not (dt_truth F (de_callB F (k_isi F.K) T.b_isinstance (by decide +kernel) (da_cons F (de_var F 2) (da_cons F (de_ty F (T := "tuple") T.b_tuple (by decide +kernel)) da_nil))))) (dw_or1 (dt_not (dt_chain F o_le o_le (de_int F) (de_callB F (k_lenA F) T.b_len (by decide +kernel) (da_cons F (de_var F 2) da_nil)) (de_glob F (i := 8) T.c_MOST_ATOMS)))))) (dss_one (ds_ret (de_bl F))) dss_nil) (dss_cons (ds_if (dt_not (dt_truth F (de_callB F (k_all F) T.b_all (by decide +kernel) (da_cons F (DEl.de (del_lc F (.one 4) [("atom", 4)] (di_seq F (de_var F 2)) (fun _ _ _ _ _ nd cm => (tg_one nd 4)) (fun _ _ _ _ _ _ G1 => dts_nil) (fun _ _ _ _ _ _ G1 => (de_and (de_call G1 d_is_rising (da_cons G1 (de_var G1 4) da_nil)) (de_and (de_cmp G1 (c_ne G1) (de_var G1 4) (de_tup G1 da_nil) (nomark _)) (de_one (de_cmp G1 (c_lt G1) (de_ix G1 (de_var G1 4) (de_neg (de_int G1))) (de_var G1 1) (nomark _)))))))) da_nil)))) (dss_one (ds_ret (de_bl F))) dss_nil) (dss_one (ds_ret (de_callB F (k_all F) T.b_all (by decide +kernel) (da_cons F (DEl.de (del_lc F (.one 3) [("attribute", 3)] (di_rng1 F (da_cons F (de_var F 1) da_nil) T.b_range) (fun _ _ _ _ _ nd cm => (tg_one nd 3)) (fun _ _ _ _ _ _ G2 => dts_nil) (fun _ _ _ _ _ _ G2 => (de_callB G2 (k_any G2) T.b_any (by decide +kernel) (da_cons G2 (DEl.de (del_lc G2 (.one 4) [("atom", 4)] (di_seq G2 (de_var G2 2)) (fun _ _ _ _ _ nd cm => (tg_one nd 4)) (fun _ _ _ _ _ _ G3 => dts_nil) (fun _ _ _ _ _ _ G3 => (de_cmp G3 (o_in G3.K) (de_var G3 3) (de_var G3 4) (by rfl))))) da_nil))))) da_nil)))))))), imp ε⟩
def r_need_query (S_is_query : Spd) (ε : Nat → Str → Prop) : TSd := (rIfS (rNot (rTru (rFn 1 S_is_query ε (rCons (rVar 0) rNil)))) (rRaise ε "BadQuery") rNext)
theorem k_need_query {k : Nat} (T : Txt w K mg base L gC CS fdC cod tb) (S_is_query : Spd) (d_is_query : FnD P w K mg base L k "is_query" 1 S_is_query) {S : Spd} {f : Addr} {fd : FuncData} (Fu : Fun K "need_query" "need_query" s_need_query f fd)
    (imp : ∀ ε ds m Q, ds.length = 1 → S ds m Q ε → r_need_query S_is_query ε { nx := fun m _ => Q m .non, rt := Q } m (params ["query"] ds)) : FnOk P w K mg base (L2.CX P w) (k + 1) f fd ["query"] (prom L 1 S) :=
  def_ok T.hK Fu sc_need_query rfl fun cdv A outer s H E Z ε _ hr F => ⟨r_need_query S_is_query ε, (dss_one (ds_if (dt_not (dt_truth F (de_call F d_is_query (da_cons F (de_var F 0) da_nil)))) (dss_one (ds_raise F T.x_BadQuery)) dss_nil)), imp ε⟩
def r_is_row (S_is_number : Spd) (ε : Nat → Str → Prop) : TSd := (rRet (rAndV (rCall dIsi (rCons (rVar 0) (rCons (rC (.ty "tuple")) rNil))) (rAndV (rOp dEq (rCall dLenA (rCons (rVar 0) rNil)) (rVar 1)) (rCall dAll (rCons (rL (rLc (.one 2) [2] (rIt (rVar 0)) rYes (rFn 2 S_is_number (fun _ _ => False) (rCons (rVar 2) (rCons (rC (.int 0)) rNil))))) rNil)))))
theorem k_is_row {k : Nat} (T : Txt w K mg base L gC CS fdC cod tb) (S_is_number : Spd) (d_is_number : FnD P w K mg base L k "is_number" 2 S_is_number) {S : Spd} {f : Addr} {fd : FuncData} (Fu : Fun K "is_row" "is_row" s_is_row f fd)
    (imp : ∀ ε ds m Q, ds.length = 2 → S ds m Q ε → r_is_row S_is_number ε { nx := fun m _ => Q m .non, rt := Q } m (params ["value", "wide", "item"] ds)) : FnOk P w K mg base (L2.CX P w) (k + 1) f fd ["value", "wide"] (prom L 2 S) :=
  def_ok T.hK Fu sc_is_row rfl fun cdv A outer s H E Z ε _ hr F => ⟨r_is_row S_is_number ε, (dss_one (ds_ret (de_and (de_callB F (k_isi F.K) T.b_isinstance (by decide +kernel) (da_cons F (de_var F 0) (da_cons F (de_ty F (T := "tuple") T.b_tuple (by decide +kernel)) da_nil))) (de_and (de_cmp F (c_eq F) (de_callB F (k_lenA F) T.b_len (by decide +kernel) (da_cons F (de_var F 0) da_nil)) (de_var F 1) (nomark _)) (de_one (de_callB F (k_all F) T.b_all (by decide +kernel) (da_cons F (DEl.de (del_lc F (.one 2) [("item", 2)] (di_seq F (de_var F 0)) (fun _ _ _ _ _ nd cm => (tg_one nd 2)) (fun _ _ _ _ _ _ G1 => dts_nil) (fun _ _ _ _ _ _ G1 => (de_call G1 d_is_number (da_cons G1 (de_var G1 2) (da_cons G1 (de_int G1) da_nil)))))) da_nil))))))), imp ε⟩
def r_is_table (S_is_row : Spd) (ε : Nat → Str → Prop) : TSd := (rSeq (rIfS (rOr (rNot (rTru (rCall dIsi (rCons (rVar 0) (rCons (rC (.ty "tuple")) rNil))))) (rNot (rTru (rCall dAll (rCons (rL (rLc (.one 4) [4] (rIt (rVar 0)) rYes (rFn 2 S_is_row (fun _ _ => False) (rCons (rVar 4) (rCons (rVar 1) rNil))))) rNil))))) (rRet (rC (.bl false))) rNext) (rRet (rCall dAll (rCons (rL (rLc (.many [2, 3]) [2, 3] (rZip (rCons (rVar 0) (rCons (rSl (rVar 0) (rPart (rC (.int 1))) rNoPart) rNil))) rYes (rOp dLt (rVar 2) (rVar 3)))) rNil))))
theorem k_is_table {k : Nat} (T : Txt w K mg base L gC CS fdC cod tb) (S_is_row : Spd) (d_is_row : FnD P w K mg base L k "is_row" 2 S_is_row) {S : Spd} {f : Addr} {fd : FuncData} (Fu : Fun K "is_table" "is_table" s_is_table f fd)
    (imp : ∀ ε ds m Q, ds.length = 2 → S ds m Q ε → r_is_table S_is_row ε { nx := fun m _ => Q m .non, rt := Q } m (params ["value", "wide", "one", "other", "row"] ds)) : FnOk P w K mg base (L2.CX P w) (k + 1) f fd ["value", "wide"] (prom L 2 S) :=
  def_ok T.hK Fu sc_is_table rfl fun cdv A outer s H E Z ε _ hr F => ⟨r_is_table S_is_row ε, (dss_cons (ds_if (DW.dt (dw_or (dt_not (dt_truth F (de_callB F (k_isi F.K) T.b_isinstance (by decide +kernel) (da_cons F (de_var F 0) (da_cons F (de_ty F (T := "tuple") T.b_tuple (by decide +kernel)) da_nil))))) (dw_or1 (dt_not (dt_truth F (de_callB F (k_all F) T.b_all (by decide +kernel) (da_cons F (DEl.de (del_lc F (.one 4) [("row", 4)] (di_seq F (de_var F 0)) (fun _ _ _ _ _ nd cm => (tg_one nd 4)) (fun _ _ _ _ _ _ G1 => dts_nil) (fun _ _ _ _ _ _ G1 => (de_call G1 d_is_row (da_cons G1 (de_var G1 4) (da_cons G1 (de_var G1 1) da_nil)))))) da_nil))))))) (dss_one (ds_ret (de_bl F))) dss_nil) (dss_one (ds_ret (de_callB F (k_all F) T.b_all (by decide +kernel) (da_cons F (DEl.de (del_lc F (.many [2, 3]) [("one", 2), ("other", 3)] (di_zip F (da_cons F (de_var F 0) (da_cons F (de_slice F (de_var F 0) (do_some (de_int F)) do_none) da_nil)) T.b_zip) (fun _ _ _ _ _ nd cm => (tg_many cm (pgs_s nd 2 (pgs_s nd 3 pgs_z)))) (fun _ _ _ _ _ _ G2 => dts_nil) (fun _ _ _ _ _ _ G2 => (de_cmp G2 (c_lt G2) (de_var G2 2) (de_var G2 3) (nomark _))))) da_nil))))), imp ε⟩
def r_is_store (S_need_query : Spd) (S_is_table : Spd) (ε : Nat → Str → Prop) : TSd := (rSeq (rDrop (rFn 1 S_need_query ε (rCons (rVar 0) rNil))) (rSeq (rIfS (rOr (rNot (rTru (rCall dIsi (rCons (rVar 1) (rCons (rC (.ty "tuple")) rNil))))) (rTest (rOp dNe (rCall dLenA (rCons (rVar 1) rNil)) (rCall dLenA (rCons (rOp dIx (rVar 0) (rC (.int 1))) rNil))))) (rRet (rC (.bl false))) rNext) (rRet (rCall dAll (rCons (rL (rLc (.many [2, 3]) [2, 3] (rZip (rCons (rOp dIx (rVar 0) (rC (.int 1))) (rCons (rVar 1) rNil))) rYes (rFn 2 S_is_table (fun _ _ => False) (rCons (rVar 3) (rCons (rCall dLenA (rCons (rVar 2) rNil)) rNil))))) rNil)))))
theorem k_is_store {k : Nat} (T : Txt w K mg base L gC CS fdC cod tb) (S_need_query : Spd) (S_is_table : Spd) (d_need_query : FnD P w K mg base L k "need_query" 1 S_need_query) (d_is_table : FnD P w K mg base L k "is_table" 2 S_is_table) {S : Spd} {f : Addr} {fd : FuncData} (Fu : Fun K "is_store" "is_store" s_is_store f fd)
    (imp : ∀ ε ds m Q, ds.length = 2 → S ds m Q ε → r_is_store S_need_query S_is_table ε { nx := fun m _ => Q m .non, rt := Q } m (params ["query", "value", "atom", "table"] ds)) : FnOk P w K mg base (L2.CX P w) (k + 1) f fd ["query", "value"] (prom L 2 S) :=
  def_ok T.hK Fu sc_is_store rfl fun cdv A outer s H E Z ε _ hr F => ⟨r_is_store S_need_query S_is_table ε, (dss_cons (ds_expr (de_call F d_need_query (da_cons F (de_var F 0) da_nil))) (dss_cons (ds_if (DW.dt (dw_or (dt_not (dt_truth F (de_callB F (k_isi F.K) T.b_isinstance (by decide +kernel) (da_cons F (de_var F 1) (da_cons F (de_ty F (T := "tuple") T.b_tuple (by decide +kernel)) da_nil))))) (dw_or1 (dt_cmp F (c_ne F) (de_callB F (k_lenA F) T.b_len (by decide +kernel) (da_cons F (de_var F 1) da_nil)) (de_callB F (k_lenA F) T.b_len (by decide +kernel) (da_cons F (de_ix F (de_var F 0) (de_int F)) da_nil)) (nomark _))))) (dss_one (ds_ret (de_bl F))) dss_nil) (dss_one (ds_ret (de_callB F (k_all F) T.b_all (by decide +kernel) (da_cons F (DEl.de (del_lc F (.many [2, 3]) [("atom", 2), ("table", 3)] (di_zip F (da_cons F (de_ix F (de_var F 0) (de_int F)) (da_cons F (de_var F 1) da_nil)) T.b_zip) (fun _ _ _ _ _ nd cm => (tg_many cm (pgs_s nd 2 (pgs_s nd 3 pgs_z)))) (fun _ _ _ _ _ _ G1 => dts_nil) (fun _ _ _ _ _ _ G1 => (de_call G1 d_is_table (da_cons G1 (de_var G1 3) (da_cons G1 (de_callB G1 (k_lenA G1) T.b_len (by decide +kernel) (da_cons G1 (de_var G1 2) da_nil)) da_nil)))))) da_nil)))))), imp ε⟩
def r_need_store (S_is_store : Spd) (ε : Nat → Str → Prop) : TSd := (rIfS (rNot (rTru (rFn 2 S_is_store ε (rCons (rVar 0) (rCons (rVar 1) rNil))))) (rRaise ε "BadStore") rNext)
theorem k_need_store {k : Nat} (T : Txt w K mg base L gC CS fdC cod tb) (S_is_store : Spd) (d_is_store : FnD P w K mg base L k "is_store" 2 S_is_store) {S : Spd} {f : Addr} {fd : FuncData} (Fu : Fun K "need_store" "need_store" s_need_store f fd)
    (imp : ∀ ε ds m Q, ds.length = 2 → S ds m Q ε → r_need_store S_is_store ε { nx := fun m _ => Q m .non, rt := Q } m (params ["query", "store"] ds)) : FnOk P w K mg base (L2.CX P w) (k + 1) f fd ["query", "store"] (prom L 2 S) :=
  def_ok T.hK Fu sc_need_store rfl fun cdv A outer s H E Z ε _ hr F => ⟨r_need_store S_is_store ε, (dss_one (ds_if (dt_not (dt_truth F (de_call F d_is_store (da_cons F (de_var F 0) (da_cons F (de_var F 1) da_nil))))) (dss_one (ds_raise F T.x_BadStore)) dss_nil)), imp ε⟩
def r_is_order (S_need_query : Spd) (S_is_number : Spd) (ε : Nat → Str → Prop) : TSd := (rSeq (rDrop (rFn 1 S_need_query ε (rCons (rVar 0) rNil))) (rSeq (rIfS (rOr (rNot (rTru (rCall dIsi (rCons (rVar 1) (rCons (rC (.ty "tuple")) rNil))))) (rNot (rTru (rCall dAll (rCons (rL (rLc (.one 2) [2] (rIt (rVar 1)) rYes (rFn 2 S_is_number (fun _ _ => False) (rCons (rVar 2) (rCons (rC (.int 0)) rNil))))) rNil))))) (rRet (rC (.bl false))) rNext) (rRet (rOp dEq (rCall dSortedV (rCons (rVar 1) rNil)) (rListRg (rRg1 (rOp dIx (rVar 0) (rC (.int 0)))))))))
theorem k_is_order {k : Nat} (T : Txt w K mg base L gC CS fdC cod tb) (S_need_query : Spd) (S_is_number : Spd) (d_need_query : FnD P w K mg base L k "need_query" 1 S_need_query) (d_is_number : FnD P w K mg base L k "is_number" 2 S_is_number) {S : Spd} {f : Addr} {fd : FuncData} (Fu : Fun K "is_order" "is_order" s_is_order f fd)
    (imp : ∀ ε ds m Q, ds.length = 2 → S ds m Q ε → r_is_order S_need_query S_is_number ε { nx := fun m _ => Q m .non, rt := Q } m (params ["query", "value", "item"] ds)) : FnOk P w K mg base (L2.CX P w) (k + 1) f fd ["query", "value"] (prom L 2 S) :=
  def_ok T.hK Fu sc_is_order rfl fun cdv A outer s H E Z ε _ hr F => ⟨r_is_order S_need_query S_is_number ε, (dss_cons (ds_expr (de_call F d_need_query (da_cons F (de_var F 0) da_nil))) (dss_cons (ds_if (DW.dt (dw_or (dt_not (dt_truth F (de_callB F (k_isi F.K) T.b_isinstance (by decide +kernel) (da_cons F (de_var F 1) (da_cons F (de_ty F (T := "tuple") T.b_tuple (by decide +kernel)) da_nil))))) (dw_or1 (dt_not (dt_truth F (de_callB F (k_all F) T.b_all (by decide +kernel) (da_cons F (DEl.de (del_lc F (.one 2) [("item", 2)] (di_seq F (de_var F 1)) (fun _ _ _ _ _ nd cm => (tg_one nd 2)) (fun _ _ _ _ _ _ G1 => dts_nil) (fun _ _ _ _ _ _ G1 => (de_call G1 d_is_number (da_cons G1 (de_var G1 2) (da_cons G1 (de_int G1) da_nil)))))) da_nil))))))) (dss_one (ds_ret (de_bl F))) dss_nil) (dss_one (ds_ret (de_cmp F (c_eq F) (de_callB F (k_sortedV F) T.b_sorted (by decide +kernel) (da_cons F (de_var F 1) da_nil)) (de_listRg F (dr_1 (de_ix F (de_var F 0) (de_int F)) T.b_range) T.b_list) (nomark _)))))), imp ε⟩
def r_renamed (S_need_query : Spd) (S_need_store : Spd) (S_is_order : Spd) (ε : Nat → Str → Prop) : TSd := (rSeq (rDrop (rFn 1 S_need_query ε (rCons (rVar 0) rNil))) (rSeq (rDrop (rFn 2 S_need_store ε (rCons (rVar 0) (rCons (rVar 1) rNil)))) (rSeq (rIfS (rNot (rTru (rFn 2 S_is_order ε (rCons (rVar 0) (rCons (rVar 2) rNil))))) (rRaise ε "BadPlaces") rNext) (rSeq (rPar [3, 4] (pOwn (rLs rNil) (pOwn (rLs rNil) pNil))) (rSeq (rFor (.many [5, 6]) (rZip (rCons (rOp dIx (rVar 0) (rC (.int 1))) (rCons (rVar 1) rNil))) (rSeq (rSet 8 (rL (rLc (.one 9) [9] (rIt (rVar 5)) rYes (rOp dIx (rVar 2) (rVar 9))))) (rSeq (rSet 7 (rSortKB 8 (rCall dLenA (rCons (rVar 5) rNil)))) (rSeq (rApp 3 (rCall dTuple (rCons (rCall dSorted (rCons (rVar 8) rNil)) rNil))) (rApp 4 (rCall dTuple (rCons (rSortR (rL (rLc (.one 10) [10] (rIt (rVar 6)) rYes (rCall dTuple (rCons (rL (rLc (.one 11) [11] (rIt (rVar 7)) rYes (rOp dIx (rVar 10) (rVar 11)))) rNil))))) rNil))))))) (rFrz 3 (rFrz 4 (rRet (rTup (rCons (rTup (rCons (rOp dIx (rVar 0) (rC (.int 0))) (rCons (rCall dTuple (rCons (rVar 3) rNil)) rNil))) (rCons (rCall dTuple (rCons (rVar 4) rNil)) rNil)))))))))))
theorem k_renamed {k : Nat} (T : Txt w K mg base L gC CS fdC cod tb) (S_need_query : Spd) (S_need_store : Spd) (S_is_order : Spd) (d_need_query : FnD P w K mg base L k "need_query" 1 S_need_query) (d_need_store : FnD P w K mg base L k "need_store" 2 S_need_store) (d_is_order : FnD P w K mg base L k "is_order" 2 S_is_order) {S : Spd} {f : Addr} {fd : FuncData} (Fu : FunC K "renamed" "renamed" s_renamed f fd (cod "renamed"))
    (imp : ∀ ε ds m Q, ds.length = 3 → S ds m Q ε → r_renamed S_need_query S_need_store S_is_order ε { nx := fun m _ => Q m .non, rt := Q } m (params ["query", "store", "places", "atoms", "tables", "atom", "table", "turn", "named", "attribute", "row", "at"] ds)) : FnOk P w K mg base (L2.CX P w) (k + 3) f fd ["query", "store", "places"] (prom L 3 S) :=
  def_okC T.hK Fu sc_renamed rfl fun A outer s H E Z ε _ hr F => ⟨r_renamed S_need_query S_need_store S_is_order ε, (dss_cons (ds_expr (de_call F (d_need_query.mono (Nat.le_add_right _ 2)) (da_cons F (de_var F 0) da_nil))) (dss_cons (ds_expr (de_call F (d_need_store.mono (Nat.le_add_right _ 2)) (da_cons F (de_var F 0) (da_cons F (de_var F 1) da_nil)))) (dss_cons (ds_if (dt_not (dt_truth F (de_call F (d_is_order.mono (Nat.le_add_right _ 2)) (da_cons F (de_var F 0) (da_cons F (de_var F 2) da_nil))))) (dss_one (ds_raise F T.x_BadPlaces)) dss_nil) (dss_cons (ds_par2 F 3 4 (dp_own F (del_lst F da_nil) (fun _ Fl1 => (dp_own Fl1 (del_lst Fl1 da_nil) (fun _ _ => dp_nil))))) (dss_cons (ds_for F (.many [5, 6]) (di_zip F (da_cons F (de_ix F (de_var F 0) (de_int F)) (da_cons F (de_var F 1) da_nil)) T.b_zip) (tg_many F.calm (pgs_s F.nd 5 (pgs_s F.nd 6 pgs_z))) (fun _ Fl2 => (dss_cons (ds_set Fl2 8 (DEl.de (del_lc Fl2 (.one 9) [("attribute", 9)] (di_seq Fl2 (de_var Fl2 5)) (fun _ _ _ _ _ nd cm => (tg_one nd 9)) (fun _ _ _ _ _ _ G3 => dts_nil) (fun _ _ _ _ _ _ G3 => (de_ix G3 (de_var G3 2) (de_var G3 9)))))) (dss_cons (ds_set Fl2 7 (de_sortKB Fl2 8 (de_callB Fl2 (k_lenA Fl2) T.b_len (by decide +kernel) (da_cons Fl2 (de_var Fl2 5) da_nil)) T.b_sorted T.b_range T.tab_renamed.1 rfl T.tab_renamed.2.1 T.tab_renamed.2.2 (keyS_by (sc := defScope s_renamed) (by decide +kernel)) rfl (fun _ _ _ _ _ _ => rfl))) (dss_cons (ds_app Fl2 3 (de_callTy Fl2 (k_tuple Fl2.K) T.b_tuple (by decide +kernel) (da_cons Fl2 (de_callB Fl2 (k_sorted Fl2) T.b_sorted (by decide +kernel) (da_cons Fl2 (de_var Fl2 8) da_nil)) da_nil))) (dss_one (ds_app Fl2 4 (de_callTy Fl2 (k_tuple Fl2.K) T.b_tuple (by decide +kernel) (da_cons Fl2 (de_sortR Fl2 (DEl.de (del_lc Fl2 (.one 10) [("row", 10)] (di_seq Fl2 (de_var Fl2 6)) (fun _ _ _ _ _ nd cm => (tg_one nd 10)) (fun _ _ _ _ _ _ G4 => dts_nil) (fun _ _ _ _ _ _ G4 => (de_callTy G4 (k_tuple G4.K) T.b_tuple (by decide +kernel) (da_cons G4 (DEl.de (del_lc G4 (.one 11) [("at", 11)] (di_seq G4 (de_var G4 7)) (fun _ _ _ _ _ nd cm => (tg_one nd 11)) (fun _ _ _ _ _ _ G5 => dts_nil) (fun _ _ _ _ _ _ G5 => (de_ix G5 (de_var G5 10) (de_var G5 11))))) da_nil))))) T.b_sorted) da_nil))))))))) (dss_frz 3 (dss_frz 4 (dss_one (ds_ret (de_tup F (da_cons F (de_tup F (da_cons F (de_ix F (de_var F 0) (de_int F)) (da_cons F (de_callTy F (k_tuple F.K) T.b_tuple (by decide +kernel) (da_cons F (de_var F 3) da_nil)) da_nil))) (da_cons F (de_callTy F (k_tuple F.K) T.b_tuple (by decide +kernel) (da_cons F (de_var F 4) da_nil)) da_nil)))))))))))), imp ε⟩
def r__law_k03_renamed  (ε : Nat → Str → Prop) : TSd := (rSeq (rPar [3, 4] (pOwn (rLs rNil) (pOwn (rLs rNil) pNil))) (rSeq (rFor (.many [5, 6]) (rZip (rCons (rOp dIx (rVar 0) (rC (.int 1))) (rCons (rVar 1) rNil))) (rSeq (rSet 7 (rCall dSorted (rCons (rL (rLc (.one 11) [11] (rIt (rVar 5)) rYes (rOp dIx (rVar 2) (rVar 11)))) rNil))) (rSeq (rOwn 8 (rLs rNil)) (rSeq (rFor (.one 9) (rIt (rVar 6)) (rSeq (rSet 10 (rDictOf (rL (rLc (.many [11, 12]) [11, 12] (rZip (rCons (rVar 5) (rCons (rVar 9) rNil))) rYes (rTup (rCons (rOp dIx (rVar 2) (rVar 11)) (rCons (rVar 12) rNil))))))) (rApp 8 (rCall dTuple (rCons (rL (rLc (.one 11) [11] (rIt (rVar 7)) rYes (rGetI (rVar 10) (rVar 11)))) rNil))))) (rSeq (rApp 3 (rCall dTuple (rCons (rVar 7) rNil))) (rFrz 8 (rApp 4 (rCall dTuple (rCons (rSortR (rVar 8)) rNil))))))))) (rFrz 3 (rFrz 4 (rRet (rTup (rCons (rTup (rCons (rOp dIx (rVar 0) (rC (.int 0))) (rCons (rCall dTuple (rCons (rVar 3) rNil)) rNil))) (rCons (rCall dTuple (rCons (rVar 4) rNil)) rNil))))))))
theorem k__law_k03_renamed {k : Nat} (T : Txt w K mg base L gC CS fdC cod tb)   {S : Spd} {f : Addr} {fd : FuncData} (Fu : Fun K "_law_k03_renamed" "_law_k03_renamed" s__law_k03_renamed f fd)
    (imp : ∀ ε ds m Q, ds.length = 3 → S ds m Q ε → r__law_k03_renamed  ε { nx := fun m _ => Q m .non, rt := Q } m (params ["query_here", "store_here", "places_here", "atoms_here", "tables_here", "atom", "table_here", "named", "rows_here", "row", "told_here", "attribute", "number"] ds)) : FnOk P w K mg base (L2.CX P w) (k + 1) f fd ["query_here", "store_here", "places_here"] (prom L 3 S) :=
  def_ok T.hK Fu sc__law_k03_renamed rfl fun cdv A outer s H E Z ε _ hr F => ⟨r__law_k03_renamed  ε, (dss_cons (ds_par2 F 3 4 (dp_own F (del_lst F da_nil) (fun _ Fl1 => (dp_own Fl1 (del_lst Fl1 da_nil) (fun _ _ => dp_nil))))) (dss_cons (ds_for F (.many [5, 6]) (di_zip F (da_cons F (de_ix F (de_var F 0) (de_int F)) (da_cons F (de_var F 1) da_nil)) T.b_zip) (tg_many F.calm (pgs_s F.nd 5 (pgs_s F.nd 6 pgs_z))) (fun _ Fl2 => (dss_cons (ds_set Fl2 7 (de_callB Fl2 (k_sorted Fl2) T.b_sorted (by decide +kernel) (da_cons Fl2 (DEl.de (del_lc Fl2 (.one 11) [("attribute", 11)] (di_seq Fl2 (de_var Fl2 5)) (fun _ _ _ _ _ nd cm => (tg_one nd 11)) (fun _ _ _ _ _ _ G3 => dts_nil) (fun _ _ _ _ _ _ G3 => (de_ix G3 (de_var G3 2) (de_var G3 11))))) da_nil))) (dss_cons (ds_own Fl2 8 (del_lst Fl2 da_nil)) (dss_cons (ds_for Fl2 (.one 9) (di_seq Fl2 (de_var Fl2 6)) (tg_one Fl2.nd 9) (fun _ Fl4 => (dss_cons (ds_set Fl4 10 (de_dictOf Fl4 (DEl.de (del_lc Fl4 (.many [11, 12]) [("attribute", 11), ("number", 12)] (di_zip Fl4 (da_cons Fl4 (de_var Fl4 5) (da_cons Fl4 (de_var Fl4 9) da_nil)) T.b_zip) (fun _ _ _ _ _ nd cm => (tg_many cm (pgs_s nd 11 (pgs_s nd 12 pgs_z)))) (fun _ _ _ _ _ _ G5 => dts_nil) (fun _ _ _ _ _ _ G5 => (de_tup G5 (da_cons G5 (de_ix G5 (de_var G5 2) (de_var G5 11)) (da_cons G5 (de_var G5 12) da_nil)))))) T.b_dict)) (dss_one (ds_app Fl4 8 (de_callTy Fl4 (k_tuple Fl4.K) T.b_tuple (by decide +kernel) (da_cons Fl4 (DEl.de (del_lc Fl4 (.one 11) [("attribute", 11)] (di_seq Fl4 (de_var Fl4 7)) (fun _ _ _ _ _ nd cm => (tg_one nd 11)) (fun _ _ _ _ _ _ G6 => dts_nil) (fun _ _ _ _ _ _ G6 => (de_getI G6 (de_var G6 10) (de_var G6 11))))) da_nil))))))) (dss_cons (ds_app Fl2 3 (de_callTy Fl2 (k_tuple Fl2.K) T.b_tuple (by decide +kernel) (da_cons Fl2 (de_var Fl2 7) da_nil))) (dss_frz 8 (dss_one (ds_app Fl2 4 (de_callTy Fl2 (k_tuple Fl2.K) T.b_tuple (by decide +kernel) (da_cons Fl2 (de_sortR Fl2 (de_var Fl2 8) T.b_sorted) da_nil))))))))))) (dss_frz 3 (dss_frz 4 (dss_one (ds_ret (de_tup F (da_cons F (de_tup F (da_cons F (de_ix F (de_var F 0) (de_int F)) (da_cons F (de_callTy F (k_tuple F.K) T.b_tuple (by decide +kernel) (da_cons F (de_var F 3) da_nil)) da_nil))) (da_cons F (de_callTy F (k_tuple F.K) T.b_tuple (by decide +kernel) (da_cons F (de_var F 4) da_nil)) da_nil))))))))), imp ε⟩
def r_lot_of  (ε : Nat → Str → Prop) : TSd := (rSeq (rOwn 2 (rLs rNil)) (rSeq (rFor (.many [3, 4]) (rZip (rCons (rOp dIx (rVar 0) (rC (.int 1))) (rCons (rVar 1) rNil))) (rRows 5 (.one 6) (rIt (rVar 4)) (.one 7) (rRng1 (rCons (rCall dLenA (rCons (rVar 3) rNil)) rNil)) (rSl (rVar 6) rNoPart (rPart (rOp dAdd (rVar 7) (rC (.int 1))))) (rApp 2 (rVar 5)))) (rFrz 2 (rRet (rVar 2)))))
theorem k_lot_of {k : Nat} (T : Txt w K mg base L gC CS fdC cod tb)   {S : Spd} {f : Addr} {fd : FuncData} (Fu : Fun K "lot_of" "lot_of" s_lot_of f fd)
    (imp : ∀ ε ds m Q, ds.length = 2 → S ds m Q ε → r_lot_of  ε { nx := fun m _ => Q m .non, rt := Q } m (params ["query", "store", "found", "atom", "table", "lot", "row", "many"] ds)) : FnOk P w K mg base (L2.CX P w) (k + 1) f fd ["query", "store"] (prom L 2 S) :=
  def_ok T.hK Fu sc_lot_of rfl fun cdv A outer s H E Z ε _ hr F => ⟨r_lot_of  ε, (dss_cons (ds_own F 2 (del_lst F da_nil)) (dss_cons (ds_for F (.many [3, 4]) (di_zip F (da_cons F (de_ix F (de_var F 0) (de_int F)) (da_cons F (de_var F 1) da_nil)) T.b_zip) (tg_many F.calm (pgs_s F.nd 3 (pgs_s F.nd 4 pgs_z))) (fun _ Fl1 => (dss_rows Fl1 5 (.one 6) (.one 7) (fun _ Fl2 => (di_seq Fl2 (de_var Fl2 4))) (tg_one Fl1.nd 6) (fun _ Fl2 => (di_rng1 Fl2 (da_cons Fl2 (de_callB Fl2 (k_lenA Fl2) T.b_len (by decide +kernel) (da_cons Fl2 (de_var Fl2 3) da_nil)) da_nil) T.b_range)) (tg_one Fl1.nd 7) (fun _ Fl2 => (de_slice Fl2 (de_var Fl2 6) do_none (do_some (de_op Fl2 (b_add Fl2) (de_var Fl2 7) (de_int Fl2))))) (dss_one (ds_app Fl1 2 (de_var Fl1 5)))))) (dss_frz 2 (dss_one (ds_ret (de_var F 2)))))), imp ε⟩
def r_candidates  (ε : Nat → Str → Prop) : TSd := (rSeq (rOwn 2 (rLs rNil)) (rSeq (rFor (.one 3) (rRng1 (rCons (rOp dIx (rVar 0) (rC (.int 0))) rNil)) (rSeq (rSet 4 (rC .non)) (rSeq (rFor (.many [5, 6]) (rZip (rCons (rOp dIx (rVar 0) (rC (.int 1))) (rCons (rVar 1) rNil))) (rIfS (rTest (rOp dInA (rVar 3) (rVar 5))) (rSeq (rSet 7 (rDc (.one 8) [8] (rItA (rVar 6)) rYes (rOp dIx (rVar 8) (rIdx (rVar 5) (rVar 3))))) (rSet 4 (rIf (rTest (rOp dIs (rVar 4) (rC .non))) (rVar 7) (rDc (.one 9) [9] (rItA (rVar 4)) (rTest (rOp dInA (rVar 9) (rVar 7))) (rVar 9))))) rNext)) (rApp 2 (rCall dSortedA (rCons (rVar 4) rNil)))))) (rFrz 2 (rRet (rVar 2)))))
theorem k_candidates {k : Nat} (T : Txt w K mg base L gC CS fdC cod tb)   {S : Spd} {f : Addr} {fd : FuncData} (Fu : Fun K "candidates" "candidates" s_candidates f fd)
    (imp : ∀ ε ds m Q, ds.length = 2 → S ds m Q ε → r_candidates  ε { nx := fun m _ => Q m .non, rt := Q } m (params ["query", "store", "found", "attribute", "here", "atom", "table", "own", "row", "number"] ds)) : FnOk P w K mg base (L2.CX P w) (k + 1) f fd ["query", "store"] (prom L 2 S) :=
  def_ok T.hK Fu sc_candidates rfl fun cdv A outer s H E Z ε _ hr F => ⟨r_candidates  ε, (dss_cons (ds_own F 2 (del_lst F da_nil)) (dss_cons (ds_for F (.one 3) (di_rng1 F (da_cons F (de_ix F (de_var F 0) (de_int F)) da_nil) T.b_range) (tg_one F.nd 3) (fun _ Fl1 => (dss_cons (ds_set Fl1 4 (de_non Fl1)) (dss_cons (ds_for Fl1 (.many [5, 6]) (di_zip Fl1 (da_cons Fl1 (de_ix Fl1 (de_var Fl1 0) (de_int Fl1)) (da_cons Fl1 (de_var Fl1 1) da_nil)) T.b_zip) (tg_many Fl1.calm (pgs_s Fl1.nd 5 (pgs_s Fl1.nd 6 pgs_z))) (fun _ Fl2 => (dss_one (ds_if (dt_cmp Fl2 (o_inA Fl2) (de_var Fl2 3) (de_var Fl2 5) (by rfl)) (dss_cons (ds_set Fl2 7 (de_dc Fl2 (.one 8) [("row", 8)] (di_all Fl2 (de_var Fl2 6)) (fun _ _ _ _ _ nd cm => (tg_one nd 8)) (fun _ _ _ _ _ _ G3 => dts_nil) (fun _ _ _ _ _ _ G3 => (de_ix G3 (de_var G3 8) (de_idx G3 (de_var G3 5) (de_var G3 3)))))) (dss_one (ds_set Fl2 4 (de_if (dt_cmp Fl2 c_is (de_var Fl2 4) (de_non Fl2) (nomark _)) (de_var Fl2 7) (de_dc Fl2 (.one 9) [("number", 9)] (di_all Fl2 (de_var Fl2 4)) (fun _ _ _ _ _ nd cm => (tg_one nd 9)) (fun _ _ _ _ _ _ G4 => (dts_one (dt_cmp G4 (o_inA G4) (de_var G4 9) (de_var G4 7) (by rfl)))) (fun _ _ _ _ _ _ G4 => (de_var G4 9))))))) dss_nil)))) (dss_one (ds_app Fl1 2 (de_callB Fl1 (k_sortedA Fl1) T.b_sorted (by decide +kernel) (da_cons Fl1 (de_var Fl1 4) da_nil)))))))) (dss_frz 2 (dss_one (ds_ret (de_var F 2)))))), imp ε⟩
def r_part_of  (ε : Nat → Str → Prop) : TSd := (rRet (rCall dTuple (rCons (rL (rLc (.one 2) [2] (rIt (rVar 1)) rYes (rOp dIx (rVar 0) (rVar 2)))) rNil)))
theorem k_part_of {k : Nat} (T : Txt w K mg base L gC CS fdC cod tb)   {S : Spd} {f : Addr} {fd : FuncData} (Fu : Fun K "part_of" "part_of" s_part_of f fd)
    (imp : ∀ ε ds m Q, ds.length = 2 → S ds m Q ε → r_part_of  ε { nx := fun m _ => Q m .non, rt := Q } m (params ["answer", "atom", "attribute"] ds)) : FnOk P w K mg base (L2.CX P w) (k + 1) f fd ["answer", "atom"] (prom L 2 S) :=
  def_ok T.hK Fu sc_part_of rfl fun cdv A outer s H E Z ε _ hr F => ⟨r_part_of  ε, (dss_one (ds_ret (de_callTy F (k_tuple F.K) T.b_tuple (by decide +kernel) (da_cons F (DEl.de (del_lc F (.one 2) [("attribute", 2)] (di_seq F (de_var F 1)) (fun _ _ _ _ _ nd cm => (tg_one nd 2)) (fun _ _ _ _ _ _ G1 => dts_nil) (fun _ _ _ _ _ _ G1 => (de_ix G1 (de_var G1 0) (de_var G1 2))))) da_nil)))), imp ε⟩
def r_fits (S_part_of : Spd) (ε : Nat → Str → Prop) : TSd := (rSeq (rSet 3 (rOp dSub (rCall dLenA (rCons (rVar 2) rNil)) (rC (.int 1)))) (rSeq (rFor (.many [4, 5]) (rZipM (rCons (rOp dIx (rVar 0) (rC (.int 1))) (rCons (rVar 1) rNil))) (rIfS (rAnd (rTest (rOp dIn (rVar 3) (rVar 4))) (rTest (rOp dNinB (rFn 2 S_part_of ε (rCons (rVar 2) (rCons (rSl (rVar 4) rNoPart (rPart (rOp dAdd (rIdx (rVar 4) (rVar 3)) (rC (.int 1))))) rNil))) (rVar 5)))) (rRet (rC (.bl false))) rNext)) (rRet (rC (.bl true)))))
theorem k_fits {k : Nat} (T : Txt w K mg base L gC CS fdC cod tb) (S_part_of : Spd) (d_part_of : FnD P w K mg base L k "part_of" 2 S_part_of) {S : Spd} {f : Addr} {fd : FuncData} (Fu : Fun K "fits" "fits" s_fits f fd)
    (imp : ∀ ε ds m Q, ds.length = 3 → S ds m Q ε → r_fits S_part_of ε { nx := fun m _ => Q m .non, rt := Q } m (params ["query", "lots", "known", "last", "atom", "lot"] ds)) : FnOk P w K mg base (L2.CX P w) (k + 1) f fd ["query", "lots", "known"] (prom L 3 S) :=
  def_ok T.hK Fu sc_fits rfl fun cdv A outer s H E Z ε _ hr F => ⟨r_fits S_part_of ε, (dss_cons (ds_set F 3 (de_op F o_sub (de_callB F (k_lenA F) T.b_len (by decide +kernel) (da_cons F (de_var F 2) da_nil)) (de_int F))) (dss_cons (ds_for F (.many [4, 5]) (di_zipM F (da_cons F (de_ix F (de_var F 0) (de_int F)) (da_cons F (de_var F 1) da_nil)) T.b_zip) (tg_many F.calm (pgs_s F.nd 4 (pgs_s F.nd 5 pgs_z))) (fun _ Fl1 => (dss_one (ds_if (DW.dt (dw_and (dt_cmp Fl1 (o_in Fl1.K) (de_var Fl1 3) (de_var Fl1 4) (by rfl)) (dw_and1 (dt_cmp Fl1 (o_ninB Fl1) (de_call Fl1 d_part_of (da_cons Fl1 (de_var Fl1 2) (da_cons Fl1 (de_slice Fl1 (de_var Fl1 4) do_none (do_some (de_op Fl1 (b_add Fl1) (de_idx Fl1 (de_var Fl1 4) (de_var Fl1 3)) (de_int Fl1)))) da_nil))) (de_var Fl1 5) (by rfl))))) (dss_one (ds_ret (de_bl Fl1))) dss_nil)))) (dss_one (ds_ret (de_bl F))))), imp ε⟩
def r_answers (S_need_query : Spd) (S_need_store : Spd) (S_lot_of : Spd) (S_candidates : Spd) (S_fits : Spd) (ε : Nat → Str → Prop) : TSd := (rSeq (rDrop (rFn 1 S_need_query ε (rCons (rVar 0) rNil))) (rSeq (rDrop (rFn 2 S_need_store ε (rCons (rVar 0) (rCons (rVar 1) rNil)))) (rSeq (rPar [2, 3] (pVal (rFn 2 S_lot_of ε (rCons (rVar 0) (rCons (rVar 1) rNil))) (pVal (rFn 2 S_candidates ε (rCons (rVar 0) (rCons (rVar 1) rNil))) pNil))) (rSeq (rSet 4 (rC (.lst [(.tup [])]))) (rSeq (rFor (.one 5) (rRng1 (rCons (rOp dIx (rVar 0) (rC (.int 0))) rNil)) (rSeq (rSet 4 (rL (rLc2 (.one 6) [6, 7] (rIt (rVar 4)) rYes (.one 7) [7] (rIt (rOp dIx (rVar 3) (rVar 5))) rYes (rOp dAdd (rVar 6) (rTup (rCons (rVar 7) rNil)))))) (rSet 4 (rL (rLc (.one 6) [6] (rIt (rVar 4)) (rTru (rFn 3 S_fits (fun _ _ => False) (rCons (rVar 0) (rCons (rVar 2) (rCons (rVar 6) rNil))))) (rVar 6)))))) (rRet (rCall dTuple (rCons (rVar 4) rNil))))))))
theorem k_answers {k : Nat} (T : Txt w K mg base L gC CS fdC cod tb) (S_need_query : Spd) (S_need_store : Spd) (S_lot_of : Spd) (S_candidates : Spd) (S_fits : Spd) (d_need_query : FnD P w K mg base L k "need_query" 1 S_need_query) (d_need_store : FnD P w K mg base L k "need_store" 2 S_need_store) (d_lot_of : FnD P w K mg base L k "lot_of" 2 S_lot_of) (d_candidates : FnD P w K mg base L k "candidates" 2 S_candidates) (d_fits : FnD P w K mg base L k "fits" 3 S_fits) {S : Spd} {f : Addr} {fd : FuncData} (Fu : Fun K "answers" "answers" s_answers f fd)
    (imp : ∀ ε ds m Q, ds.length = 2 → S ds m Q ε → r_answers S_need_query S_need_store S_lot_of S_candidates S_fits ε { nx := fun m _ => Q m .non, rt := Q } m (params ["query", "store", "lots", "numbers", "line", "attribute", "known", "number"] ds)) : FnOk P w K mg base (L2.CX P w) (k + 1) f fd ["query", "store"] (prom L 2 S) :=
  def_ok T.hK Fu sc_answers rfl fun cdv A outer s H E Z ε _ hr F => ⟨r_answers S_need_query S_need_store S_lot_of S_candidates S_fits ε, (dss_cons (ds_expr (de_call F d_need_query (da_cons F (de_var F 0) da_nil))) (dss_cons (ds_expr (de_call F d_need_store (da_cons F (de_var F 0) (da_cons F (de_var F 1) da_nil)))) (dss_cons (ds_parT F [2, 3] (dp_val F (de_call F d_lot_of (da_cons F (de_var F 0) (da_cons F (de_var F 1) da_nil))) (fun _ Fl1 => (dp_val Fl1 (de_call Fl1 d_candidates (da_cons Fl1 (de_var Fl1 0) (da_cons Fl1 (de_var Fl1 1) da_nil))) (fun _ _ => dp_nil)))) (tg_many F.calm (pgs_s F.nd 2 (pgs_s F.nd 3 pgs_z)))) (dss_cons (ds_set F 4 (de_lstC F (da_consC F (de_tupC F da_nilC) da_nilC))) (dss_cons (ds_for F (.one 5) (di_rng1 F (da_cons F (de_ix F (de_var F 0) (de_int F)) da_nil) T.b_range) (tg_one F.nd 5) (fun _ Fl2 => (dss_cons (And.left (dsl_lc2 Fl2 4 (.one 6) [("known", 6), ("number", 7)] (.one 7) [7] (di_seq Fl2 (de_var Fl2 4)) (fun _ _ _ _ _ nd cm => (tg_one nd 6)) (fun _ _ _ _ _ _ G3 => dts_nil) (fun _ _ _ _ _ _ G3 => (di_seq G3 (de_ix G3 (de_var G3 3) (de_var G3 5)))) (fun _ _ _ _ _ nd cm => (tg_one nd 7)) (fun _ _ _ _ _ _ G3 => dts_nil) (fun _ _ _ _ _ _ G3 => (de_op G3 (b_add G3) (de_var G3 6) (de_tup G3 (da_cons G3 (de_var G3 7) da_nil)))))) (dss_one (And.left (dsl_lc Fl2 4 (.one 6) [("known", 6)] (di_seq Fl2 (de_var Fl2 4)) (fun _ _ _ _ _ nd cm => (tg_one nd 6)) (fun _ _ _ _ _ _ G4 => (dts_one (dt_truth G4 (de_call G4 d_fits (da_cons G4 (de_var G4 0) (da_cons G4 (de_var G4 2) (da_cons G4 (de_var G4 6) da_nil))))))) (fun _ _ _ _ _ _ G4 => (de_var G4 6)))))))) (dss_one (ds_ret (de_callTy F (k_tuple F.K) T.b_tuple (by decide +kernel) (da_cons F (de_var F 4) da_nil))))))))), imp ε⟩
def r__law_cj_odd (S__law_pick : Spd) (ε : Nat → Str → Prop) : TSd := (rRet (rFn 2 S__law_pick ε (rCons (rVar 0) (rCons (rC (.lst [.non, (.int 0), (.int (-1)), (.bl true), (.str "1"), (.tup []), (.lst []), .emp, (.tup [(.int 1)]), (.tup [(.tup [(.int 0)])]), (.tup [(.int 2), (.tup [(.tup [(.int 0)])])]), (.tup [(.int 0), (.tup [])]), (.int 1000000000000000000)])) rNil))))
theorem k__law_cj_odd {k : Nat} (T : Txt w K mg base L gC CS fdC cod tb) (S__law_pick : Spd) (d__law_pick : FnD P w K mg base L k "_law_pick" 2 S__law_pick) {S : Spd} {f : Addr} {fd : FuncData} (Fu : Fun K "_law_cj_odd" "_law_cj_odd" s__law_cj_odd f fd)
    (imp : ∀ ε ds m Q, ds.length = 1 → S ds m Q ε → r__law_cj_odd S__law_pick ε { nx := fun m _ => Q m .non, rt := Q } m (params ["state"] ds)) : FnOk P w K mg base (L2.CX P w) (k + 1) f fd ["state"] (prom L 1 S) :=
  def_ok T.hK Fu sc__law_cj_odd rfl fun cdv A outer s H E Z ε _ hr F => ⟨r__law_cj_odd S__law_pick ε, (dss_one (ds_ret (de_call F d__law_pick (da_cons F (de_var F 0) (da_cons F (de_lstC F (da_consC F (de_non F) (da_consC F (de_int F) (da_consC F (de_negC (de_int F)) (da_consC F (de_bl F) (da_consC F (de_str F) (da_consC F (de_tupC F da_nilC) (da_consC F (de_lstC F da_nilC) (da_consC F (de_emp F) (da_consC F (de_tupC F (da_consC F (de_int F) da_nilC)) (da_consC F (de_tupC F (da_consC F (de_tupC F (da_consC F (de_int F) da_nilC)) da_nilC)) (da_consC F (de_tupC F (da_consC F (de_int F) (da_consC F (de_tupC F (da_consC F (de_tupC F (da_consC F (de_int F) da_nilC)) da_nilC)) da_nilC))) (da_consC F (de_tupC F (da_consC F (de_int F) (da_consC F (de_tupC F da_nilC) da_nilC))) (da_consC F (de_powC F (de_int F) (de_int F)) da_nilC)))))))))))))) da_nil))))), imp ε⟩
def r__law_is_whole  (ε : Nat → Str → Prop) : TSd := (rRet (rAndV (rCall dIsi (rCons (rVar 0) (rCons (rC (.ty "int")) rNil))) (rNotB (rCall dIsi (rCons (rVar 0) (rCons (rC (.ty "bool")) rNil))))))
theorem k__law_is_whole {k : Nat} (T : Txt w K mg base L gC CS fdC cod tb)   {S : Spd} {f : Addr} {fd : FuncData} (Fu : Fun K "_law_is_whole" "_law_is_whole" s__law_is_whole f fd)
    (imp : ∀ ε ds m Q, ds.length = 1 → S ds m Q ε → r__law_is_whole  ε { nx := fun m _ => Q m .non, rt := Q } m (params ["item"] ds)) : FnOk P w K mg base (L2.CX P w) (k + 1) f fd ["item"] (prom L 1 S) :=
  def_ok T.hK Fu sc__law_is_whole rfl fun cdv A outer s H E Z ε _ hr F => ⟨r__law_is_whole  ε, (dss_one (ds_ret (de_and (de_callB F (k_isi F.K) T.b_isinstance (by decide +kernel) (da_cons F (de_var F 0) (da_cons F (de_ty F (T := "int") T.b_int (by decide +kernel)) da_nil))) (de_one (de_notV (de_callB F (k_isi F.K) T.b_isinstance (by decide +kernel) (da_cons F (de_var F 0) (da_cons F (de_ty F (T := "bool") T.b_bool (by decide +kernel)) da_nil)))))))), imp ε⟩
def r__law_cj_bent (S__law_draw : Spd) (S__law_cj_odd : Spd) (S__law_cj_bent : Spd) (S__law_is_whole : Spd) (S__law_pick : Spd) (ε : Nat → Str → Prop) : TSd := (rSeq (rIfS (rOr (rNot (rTru (rCall dIsi (rCons (rVar 1) (rCons (rC (.ty "tuple")) rNil))))) (rOr (rTest (rOp dEq0 (rVar 1) (rTup rNil))) (rTest (rOp dEq (rFn 2 S__law_draw ε (rCons (rVar 0) (rCons (rC (.int 9)) rNil))) (rC (.int 0)))))) (rRet (rFn 1 S__law_cj_odd ε (rCons (rVar 0) rNil))) rNext) (rSeq (rPar [2, 3] (pVal (rFn 2 S__law_draw ε (rCons (rVar 0) (rCons (rCall dLenA (rCons (rVar 1) rNil)) rNil))) (pVal (rFn 2 S__law_draw ε (rCons (rVar 0) (rCons (rC (.int 8)) rNil))) pNil))) (rSeq (rIfS (rTest (rOp dLt (rVar 3) (rC (.int 4)))) (rRet (rOp dAdd (rOp dAdd (rSl (rVar 1) rNoPart (rPart (rVar 2))) (rTup (rCons (rFn 2 S__law_cj_bent ε (rCons (rVar 0) (rCons (rOp dIx (rVar 1) (rVar 2)) rNil))) rNil))) (rSl (rVar 1) (rPart (rOp dAdd (rVar 2) (rC (.int 1)))) rNoPart))) rNext) (rSeq (rIfS (rTest (rOp dEq (rVar 3) (rC (.int 4)))) (rRet (rOp dAdd (rSl (rVar 1) rNoPart (rPart (rVar 2))) (rSl (rVar 1) (rPart (rOp dAdd (rVar 2) (rC (.int 1)))) rNoPart))) rNext) (rSeq (rIfS (rTest (rOp dEq (rVar 3) (rC (.int 5)))) (rRet (rOp dAdd (rOp dAdd (rSl (rVar 1) rNoPart (rPart (rVar 2))) (rSl (rVar 1) (rPart (rVar 2)) (rPart (rOp dAdd (rVar 2) (rC (.int 1)))))) (rSl (rVar 1) (rPart (rVar 2)) rNoPart))) rNext) (rSeq (rIfS (rAnd (rTest (rOp dEq (rVar 3) (rC (.int 6)))) (rTru (rFn 1 S__law_is_whole ε (rCons (rOp dIx (rVar 1) (rVar 2)) rNil)))) (rRet (rOp dAdd (rOp dAdd (rSl (rVar 1) rNoPart (rPart (rVar 2))) (rTup (rCons (rOp dAdd (rOp dIx (rVar 1) (rVar 2)) (rFn 2 S__law_pick ε (rCons (rVar 0) (rCons (rC (.lst [(.int 1), (.int (-1))])) rNil)))) rNil))) (rSl (rVar 1) (rPart (rOp dAdd (rVar 2) (rC (.int 1)))) rNoPart))) rNext) (rRet (rIf (rTest (rOp dEq (rVar 3) (rC (.int 7)))) (rRev (rVar 1)) (rCall dList (rCons (rVar 1) rNil))))))))))
theorem k__law_cj_bent {k : Nat} (T : Txt w K mg base L gC CS fdC cod tb) (S__law_draw : Spd) (S__law_cj_odd : Spd) (S__law_cj_bent : Spd) (S__law_is_whole : Spd) (S__law_pick : Spd) (d__law_draw : FnD P w K mg base L k "_law_draw" 2 S__law_draw) (d__law_cj_odd : FnD P w K mg base L k "_law_cj_odd" 1 S__law_cj_odd) (d__law_cj_bent : FnD P w K mg base L k "_law_cj_bent" 2 S__law_cj_bent) (d__law_is_whole : FnD P w K mg base L k "_law_is_whole" 1 S__law_is_whole) (d__law_pick : FnD P w K mg base L k "_law_pick" 2 S__law_pick) {S : Spd} {f : Addr} {fd : FuncData} (Fu : Fun K "_law_cj_bent" "_law_cj_bent" s__law_cj_bent f fd)
    (imp : ∀ ε ds m Q, ds.length = 2 → S ds m Q ε → r__law_cj_bent S__law_draw S__law_cj_odd S__law_cj_bent S__law_is_whole S__law_pick ε { nx := fun m _ => Q m .non, rt := Q } m (params ["state", "item", "at", "way"] ds)) : FnOk P w K mg base (L2.CX P w) (k + 1) f fd ["state", "item"] (prom L 2 S) :=
  def_ok T.hK Fu sc__law_cj_bent rfl fun cdv A outer s H E Z ε _ hr F => ⟨r__law_cj_bent S__law_draw S__law_cj_odd S__law_cj_bent S__law_is_whole S__law_pick ε, (dss_cons (ds_if (DW.dt (dw_or (dt_not (dt_truth F (de_callB F (k_isi F.K) T.b_isinstance (by decide +kernel) (da_cons F (de_var F 1) (da_cons F (de_ty F (T := "tuple") T.b_tuple (by decide +kernel)) da_nil))))) (dw_or (dt_cmp F (c_eq0 F) (de_var F 1) (de_tup F da_nil) (nomark _)) (dw_or1 (dt_cmp F (c_eq F) (de_call F d__law_draw (da_cons F (de_var F 0) (da_cons F (de_int F) da_nil))) (de_int F) (nomark _)))))) (dss_one (ds_ret (de_call F d__law_cj_odd (da_cons F (de_var F 0) da_nil)))) dss_nil) (dss_cons (ds_par2 F 2 3 (dp_val F (de_call F d__law_draw (da_cons F (de_var F 0) (da_cons F (de_callB F (k_lenA F) T.b_len (by decide +kernel) (da_cons F (de_var F 1) da_nil)) da_nil))) (fun _ Fl1 => (dp_val Fl1 (de_call Fl1 d__law_draw (da_cons Fl1 (de_var Fl1 0) (da_cons Fl1 (de_int Fl1) da_nil))) (fun _ _ => dp_nil))))) (dss_cons (ds_if (dt_cmp F (c_lt F) (de_var F 3) (de_int F) (nomark _)) (dss_one (ds_ret (de_op F (b_add F) (de_op F (b_add F) (de_slice F (de_var F 1) do_none (do_some (de_var F 2))) (de_tup F (da_cons F (de_call F d__law_cj_bent (da_cons F (de_var F 0) (da_cons F (de_ix F (de_var F 1) (de_var F 2)) da_nil))) da_nil))) (de_slice F (de_var F 1) (do_some (de_op F (b_add F) (de_var F 2) (de_int F))) do_none)))) dss_nil) (dss_cons (ds_if (dt_cmp F (c_eq F) (de_var F 3) (de_int F) (nomark _)) (dss_one (ds_ret (de_op F (b_add F) (de_slice F (de_var F 1) do_none (do_some (de_var F 2))) (de_slice F (de_var F 1) (do_some (de_op F (b_add F) (de_var F 2) (de_int F))) do_none)))) dss_nil) (dss_cons (ds_if (dt_cmp F (c_eq F) (de_var F 3) (de_int F) (nomark _)) (dss_one (ds_ret (de_op F (b_add F) (de_op F (b_add F) (de_slice F (de_var F 1) do_none (do_some (de_var F 2))) (de_slice F (de_var F 1) (do_some (de_var F 2)) (do_some (de_op F (b_add F) (de_var F 2) (de_int F))))) (de_slice F (de_var F 1) (do_some (de_var F 2)) do_none)))) dss_nil) (dss_cons (ds_if (DW.dt (dw_and (dt_cmp F (c_eq F) (de_var F 3) (de_int F) (nomark _)) (dw_and1 (dt_truth F (de_call F d__law_is_whole (da_cons F (de_ix F (de_var F 1) (de_var F 2)) da_nil)))))) (dss_one (ds_ret (de_op F (b_add F) (de_op F (b_add F) (de_slice F (de_var F 1) do_none (do_some (de_var F 2))) (de_tup F (da_cons F (de_op F (b_add F) (de_ix F (de_var F 1) (de_var F 2)) (de_call F d__law_pick (da_cons F (de_var F 0) (da_cons F (de_lstC F (da_consC F (de_int F) (da_consC F (de_negC (de_int F)) da_nilC))) da_nil)))) da_nil))) (de_slice F (de_var F 1) (do_some (de_op F (b_add F) (de_var F 2) (de_int F))) do_none)))) dss_nil) (dss_one (ds_ret (de_if (dt_cmp F (c_eq F) (de_var F 3) (de_int F) (nomark _)) (de_rev F (de_var F 1)) (de_callTy F (k_list F.K) T.b_list (by decide +kernel) (da_cons F (de_var F 1) da_nil))))))))))), imp ε⟩
def r__law_is_truth  (ε : Nat → Str → Prop) : TSd := (rRet (rIf (rTru (rVar 1)) (rOp dIs (rVar 0) (rC (.bl true))) (rOp dIs (rVar 0) (rC (.bl false)))))
theorem k__law_is_truth {k : Nat} (T : Txt w K mg base L gC CS fdC cod tb)   {S : Spd} {f : Addr} {fd : FuncData} (Fu : Fun K "_law_is_truth" "_law_is_truth" s__law_is_truth f fd)
    (imp : ∀ ε ds m Q, ds.length = 2 → S ds m Q ε → r__law_is_truth  ε { nx := fun m _ => Q m .non, rt := Q } m (params ["found", "due"] ds)) : FnOk P w K mg base (L2.CX P w) (k + 1) f fd ["found", "due"] (prom L 2 S) :=
  def_ok T.hK Fu sc__law_is_truth rfl fun cdv A outer s H E Z ε _ hr F => ⟨r__law_is_truth  ε, (dss_one (ds_ret (de_if (dt_truth F (de_var F 1)) (de_cmp F c_is (de_var F 0) (de_bl F) (nomark _)) (de_cmp F c_is (de_var F 0) (de_bl F) (nomark _))))), imp ε⟩
def r1_begun : TL := (rLc (.one 2) [2] (rScr (rVar 0)) (rTest (rOp dGe (rCall dAbs (rCons (rVar 2) rNil)) (rC (.int 1000000000000000000)))) (rOp dSub (rCall dAbs (rCons (rVar 2) rNil)) (rC (.int 1000000000000000000))))
def r2_begun : TL := (rLc (.one 2) [2] (rScr (rVar 0)) rYes (rCall dAbs (rCons (rVar 2) rNil)))
theorem k__law_begun {k : Nat} (T : Txt w K mg base L gC CS fdC cod tb) {f : Addr} {fd : FuncData} (Fu : Fun K "_law_begun" "_law_begun" s__law_begun f fd)
    (q1 : ∀ (ns : List Int) (Q : List D → Prop), (∀ gs : List Int, (∀ x ∈ gs, 0 ≤ x) → gs.length ≤ ns.length → Q (gs.map D.int)) → r1_begun 0 (params ["script", "great", "cell"] [.scr ns]) fun _ => Q)
    (q2 : ∀ (ns : List Int) (gs : List D) (Q : List D → Prop), (∀ gs : List Int, (∀ x ∈ gs, 0 ≤ x) → gs.length ≤ ns.length → Q (gs.map D.int)) → r2_begun 0 ((params ["script", "great", "cell"] [.scr ns]).set 1 (.own gs)) fun _ => Q) :
    FnOk P w K mg base (L2.CX P w) (k + 1) f fd ["script"] (spBegun L) :=
  begun_ok T.hK Fu sc__law_begun ⟨_, rfl⟩ rfl rfl (fun cdv A outer s H E Z F => (And.right (dsl_lc F 1 (.one 2) [("cell", 2)] (di_scr F (de_var F 0)) (fun _ _ _ _ _ nd cm => (tg_one nd 2)) (fun _ _ _ _ _ _ G1 => (dts_one (dt_cmp G1 o_ge (de_callB G1 k_abs T.b_abs (by decide +kernel) (da_cons G1 (de_var G1 2) da_nil)) (de_powC G1 (de_int G1) (de_int G1)) (nomark _)))) (fun _ _ _ _ _ _ G1 => (de_op G1 o_sub (de_callB G1 k_abs T.b_abs (by decide +kernel) (da_cons G1 (de_var G1 2) da_nil)) (de_powC G1 (de_int G1) (de_int G1))))))) (fun cdv A outer s H E Z F => (del_lc F (.one 2) [("cell", 2)] (di_scr F (de_var F 0)) (fun _ _ _ _ _ nd cm => (tg_one nd 2)) (fun _ _ _ _ _ _ G2 => dts_nil) (fun _ _ _ _ _ _ G2 => (de_callB G2 k_abs T.b_abs (by decide +kernel) (da_cons G2 (de_var G2 2) da_nil))))) q1 q2
def r_law (S__law_cj_query : Spd) (S__law_cj_store : Spd) (S__law_mixed : Spd) (S_renamed : Spd) (S__law_k03_renamed : Spd) (S_answers : Spd) (S__law_cj_bent : Spd) (S__law_cj_odd : Spd) (S__law_is_whole : Spd) (S__law_is_truth : Spd) (S_is_order : Spd) (ε : Nat → Str → Prop) : TSd := (rSeq (rFor (.one 2) (rRng1 (rCons (rOp dAdd (rC (.int 2)) (rCall dMin2 (rCons (rCall dLenA (rCons (rVar 0) rNil)) (rCons (rC (.int 4)) rNil)))) rNil)) (rSeq (rSet 12 (rFn 1 S__law_cj_query ε (rCons (rVar 1) rNil))) (rSeq (rSet 13 (rFn 4 S__law_cj_store ε (rCons (rVar 1) (rCons (rVar 12) (rCons (rC (.int 6)) (rCons (rC (.int 3)) rNil)))))) (rSeq (rSet 3 (rOp dIx (rVar 12) (rC (.int 0)))) (rSeq (rSet 4 (rCall dTuple (rCons (rFn 2 S__law_mixed ε (rCons (rVar 1) (rCons (rListRg (rRg1 (rVar 3))) rNil))) rNil))) (rSeq (rSet 5 (rFnKw 3 2 1 S_renamed ε [0, 1, 2] (rCons (rVar 12) (rCons (rVar 13) rNil)) (rCons (rVar 4) rNil))) (rSeq (rIfS (rOr (rTest (rOp dNe (rVar 5) (rFn 3 S__law_k03_renamed ε (rCons (rVar 12) (rCons (rVar 13) (rCons (rVar 4) rNil)))))) (rNot (rTru (rCall dIsi (rCons (rVar 5) (rCons (rC (.ty "tuple")) rNil)))))) (rRet (rC (.bl false))) rNext) (rSeq (rOwn 6 (rLs rNil)) (rSeq (rFor (.one 7) (rIt (rFn 2 S_answers ε (rCons (rVar 12) (rCons (rVar 13) rNil)))) (rSeq (rSet 8 (rDictOf (rL (rLc (.many [15, 16]) [15, 16] (rEnum (rCons (rVar 7) rNil)) rYes (rTup (rCons (rOp dIx (rVar 4) (rVar 15)) (rCons (rVar 16) rNil))))))) (rApp 6 (rCall dTuple (rCons (rL (rLc (.one 15) [15] (rRng1 (rCons (rVar 3) rNil)) rYes (rGetI (rVar 8) (rVar 15)))) rNil))))) (rFrz 6 (rSeq (rIfS (rTest (rOp dNe (rFn 2 S_answers ε (rCons (rOp dIx (rVar 5) (rC (.int 0))) (rCons (rOp dIx (rVar 5) (rC (.int 1))) rNil))) (rCall dTuple (rCons (rSortR (rVar 6)) rNil)))) (rRet (rC (.bl false))) rNext) (rSeq (rSet 9 (rCall dTuple (rCons (rL (rLc (.one 15) [15] (rRng1 (rCons (rVar 3) rNil)) rYes (rIdx (rVar 4) (rVar 15)))) rNil))) (rSeq (rIfS (rTest (rOp dNe (rFn 3 S_renamed ε (rCons (rOp dIx (rVar 5) (rC (.int 0))) (rCons (rOp dIx (rVar 5) (rC (.int 1))) (rCons (rVar 9) rNil)))) (rTup (rCons (rVar 12) (rCons (rVar 13) rNil))))) (rRet (rC (.bl false))) rNext) (rSeq (rOwn 10 (rLs (rCons (rVar 4) (rCons (rSl (rVar 4) rNoPart (rPart (rNeg (rC (.int 1))))) (rCons (rOp dAdd (rVar 4) (rTup (rCons (rVar 3) rNil))) (rCons (rCall dList (rCons (rVar 4) rNil)) rNil)))))) (rSeq (rApp 10 (rFn 2 S__law_cj_bent ε (rCons (rVar 1) (rCons (rVar 4) rNil)))) (rFrz 10 (rSeq (rFor (.one 14) (rIt (rOp dAdd (rVar 10) (rLst (rCons (rOp dAdd (rSl (rVar 4) rNoPart (rPart (rNeg (rC (.int 1))))) (rC (.tup [(.int 0)]))) (rCons (rFn 1 S__law_cj_odd ε (rCons (rVar 1) rNil)) rNil))))) (rSeq (rSet 11 (rAndV (rCall dIsi (rCons (rVar 14) (rCons (rC (.ty "tuple")) rNil))) (rOp dEq (rL (rLc (.one 17) [17] (rIt (rVar 14)) (rNot (rTru (rFn 1 S__law_is_whole (fun _ _ => False) (rCons (rVar 17) rNil)))) (rC (.int 1)))) (rLst rNil)))) (rSeq (rSet 11 (rAndV (rVar 11) (rOp dEq (rCall dSortedV (rCons (rVar 14) rNil)) (rListRg (rRg1 (rVar 3)))))) (rSeq (rIfS (rNot (rTru (rFn 2 S__law_is_truth ε (rCons (rKw 2 2 S_is_order ε [0, 1] (rCons (rVar 12) (rCons (rVar 14) rNil))) (rCons (rVar 11) rNil))))) (rRet (rC (.bl false))) rNext) (rIfS (rAnd (rNot (rTru (rVar 11))) (rNot (rTru (rCall (dIsiA isI isO) (rCons (rCaught isJ (fun εc8 => (rFn 3 S_renamed εc8 (rCons (rVar 12) (rCons (rVar 13) (rCons (rVar 14) rNil)))))) (rCons (rC (.cl "BadPlaces")) rNil)))))) (rRet (rC (.bl false))) rNext))))) (rIfS (rNot (rTru (rCall (dIsiA isI isO) (rCons (rCaught isJ (fun εc9 => (rFn 3 S_renamed εc9 (rCons (rVar 12) (rCons (rC .non) (rCons (rC .non) rNil)))))) (rCons (rC (.cl "BadStore")) rNil))))) (rRet (rC (.bl false))) rNext)))))))))))))))))) (rRet (rC (.bl true))))
theorem k_law {k : Nat} (T : Txt w K mg base L gC CS fdC cod tb) (S__law_cj_query : Spd) (S__law_cj_store : Spd) (S__law_mixed : Spd) (S_renamed : Spd) (S__law_k03_renamed : Spd) (S_answers : Spd) (S__law_cj_bent : Spd) (S__law_cj_odd : Spd) (S__law_is_whole : Spd) (S__law_is_truth : Spd) (S_is_order : Spd) (d__law_cj_query : FnD P w K mg base L k "_law_cj_query" 1 S__law_cj_query) (d__law_cj_store : FnD P w K mg base L k "_law_cj_store" 4 S__law_cj_store) (d__law_mixed : FnD P w K mg base L k "_law_mixed" 2 S__law_mixed) (d__law_k03_renamed : FnD P w K mg base L k "_law_k03_renamed" 3 S__law_k03_renamed) (d_answers : FnD P w K mg base L k "answers" 2 S_answers) (d_renamed : FnD P w K mg base L k "renamed" 3 S_renamed) (d__law_cj_bent : FnD P w K mg base L k "_law_cj_bent" 2 S__law_cj_bent) (d__law_cj_odd : FnD P w K mg base L k "_law_cj_odd" 1 S__law_cj_odd) (d__law_is_whole : FnD P w K mg base L k "_law_is_whole" 1 S__law_is_whole) (d__law_is_truth : FnD P w K mg base L k "_law_is_truth" 2 S__law_is_truth) (dk_renamed_2_places : FnW P w K mg base L k "renamed" 3 S_renamed 2 ["places"] [0, 1, 2]) (dk_is_order_0_query_value : FnW P w K mg base L k "is_order" 2 S_is_order 0 ["query", "value"] [0, 1]) {f fb : Addr} {fd fdb : FuncData} (Fu : FunC K "law" "law" s_law f fd (cod "law")) (FB : FnOk P w K mg base (L2.CX P w) (k + 2) fb fdb ["script"] (spBegun L)) (mB : mg "_law_begun" = some (.ref fb)) (kB : PySem.W.keepIn K (.ref fb) = true) (bB : Binds K fdb ["script"] [])
    (imp : ∀ ns : List Int, ns.length ≤ 63 → r_law S__law_cj_query S__law_cj_store S__law_mixed S_renamed S__law_k03_renamed S_answers S__law_cj_bent S__law_cj_odd S__law_is_whole S__law_is_truth S_is_order (fun _ _ => False) { nx := fun _ _ => False, rt := fun _ d => d = .bl true } 0 ((params ["script", "state", "lap", "many", "places_here", "found", "due", "answer", "told_here", "back_here", "near", "is_due", "query_here", "store_here", "value", "at", "number", "one"] [.scr ns]).set 1 (.val .rng))) : FnOk P w K mg base (L2.CX P w) (k + 3) f fd ["script"] (spLaw L K) := by
  refine law_okC T.hK Fu sc_law 1 rfl (by decide) (by first | exact Or.inl rfl | exact Or.inr rfl) ⟨_, rfl⟩ (by first | exact Or.inl rfl | exact Or.inr rfl) rfl FB mB kB bB rfl (fun A outer s H E Z F => ?_) imp
  unfold r_law
  exact (dss_cons (ds_for F (.one 2) (di_rng1 F (da_cons F (de_op F (b_add F) (de_int F) (de_callB F (k_min2 F) T.b_min (by decide +kernel) (da_cons F (de_callB F (k_lenA F) T.b_len (by decide +kernel) (da_cons F (de_var F 0) da_nil)) (da_cons F (de_int F) da_nil)))) da_nil) T.b_range) (tg_one F.nd 2) (fun _ Fl1 => (dss_cons (ds_set Fl1 12 (de_call Fl1 (d__law_cj_query.mono (Nat.le_add_right _ 2)) (da_cons Fl1 (de_var Fl1 1) da_nil))) (dss_cons (ds_set Fl1 13 (de_call Fl1 (d__law_cj_store.mono (Nat.le_add_right _ 2)) (da_cons Fl1 (de_var Fl1 1) (da_cons Fl1 (de_var Fl1 12) (da_cons Fl1 (de_int Fl1) (da_cons Fl1 (de_int Fl1) da_nil)))))) (dss_cons (ds_set Fl1 3 (de_ix Fl1 (de_var Fl1 12) (de_int Fl1))) (dss_cons (ds_set Fl1 4 (de_callTy Fl1 (k_tuple Fl1.K) T.b_tuple (by decide +kernel) (da_cons Fl1 (de_call Fl1 (d__law_mixed.mono (Nat.le_add_right _ 2)) (da_cons Fl1 (de_var Fl1 1) (da_cons Fl1 (de_listRg Fl1 (dr_1 (de_var Fl1 3) T.b_range) T.b_list) da_nil))) da_nil))) (dss_cons (ds_set Fl1 5 (de_callKw Fl1 (dk_renamed_2_places.mono (Nat.le_add_right _ 2)) (da_cons Fl1 (de_var Fl1 12) (da_cons Fl1 (de_var Fl1 13) da_nil)) (dk_cons Fl1 (de_var Fl1 4) dk_nil))) (dss_cons (ds_if (DW.dt (dw_or (dt_cmp Fl1 (c_ne Fl1) (de_var Fl1 5) (de_call Fl1 (d__law_k03_renamed.mono (Nat.le_add_right _ 2)) (da_cons Fl1 (de_var Fl1 12) (da_cons Fl1 (de_var Fl1 13) (da_cons Fl1 (de_var Fl1 4) da_nil)))) (nomark _)) (dw_or1 (dt_not (dt_truth Fl1 (de_callB Fl1 (k_isi Fl1.K) T.b_isinstance (by decide +kernel) (da_cons Fl1 (de_var Fl1 5) (da_cons Fl1 (de_ty Fl1 (T := "tuple") T.b_tuple (by decide +kernel)) da_nil)))))))) (dss_one (ds_ret (de_bl Fl1))) dss_nil) (dss_cons (ds_own Fl1 6 (del_lst Fl1 da_nil)) (dss_cons (ds_for Fl1 (.one 7) (di_seq Fl1 (de_call Fl1 (d_answers.mono (Nat.le_add_right _ 2)) (da_cons Fl1 (de_var Fl1 12) (da_cons Fl1 (de_var Fl1 13) da_nil)))) (tg_one Fl1.nd 7) (fun _ Fl2 => (dss_cons (ds_set Fl2 8 (de_dictOf Fl2 (DEl.de (del_lc Fl2 (.many [15, 16]) [("at", 15), ("number", 16)] (di_enum Fl2 (da_cons Fl2 (de_var Fl2 7) da_nil) T.b_enumerate) (fun _ _ _ _ _ nd cm => (tg_many cm (pgs_s nd 15 (pgs_s nd 16 pgs_z)))) (fun _ _ _ _ _ _ G3 => dts_nil) (fun _ _ _ _ _ _ G3 => (de_tup G3 (da_cons G3 (de_ix G3 (de_var G3 4) (de_var G3 15)) (da_cons G3 (de_var G3 16) da_nil)))))) T.b_dict)) (dss_one (ds_app Fl2 6 (de_callTy Fl2 (k_tuple Fl2.K) T.b_tuple (by decide +kernel) (da_cons Fl2 (DEl.de (del_lc Fl2 (.one 15) [("at", 15)] (di_rng1 Fl2 (da_cons Fl2 (de_var Fl2 3) da_nil) T.b_range) (fun _ _ _ _ _ nd cm => (tg_one nd 15)) (fun _ _ _ _ _ _ G4 => dts_nil) (fun _ _ _ _ _ _ G4 => (de_getI G4 (de_var G4 8) (de_var G4 15))))) da_nil))))))) (dss_frz 6 (dss_cons (ds_if (dt_cmp Fl1 (c_ne Fl1) (de_call Fl1 (d_answers.mono (Nat.le_add_right _ 2)) (da_cons Fl1 (de_ix Fl1 (de_var Fl1 5) (de_int Fl1)) (da_cons Fl1 (de_ix Fl1 (de_var Fl1 5) (de_int Fl1)) da_nil))) (de_callTy Fl1 (k_tuple Fl1.K) T.b_tuple (by decide +kernel) (da_cons Fl1 (de_sortR Fl1 (de_var Fl1 6) T.b_sorted) da_nil)) (nomark _)) (dss_one (ds_ret (de_bl Fl1))) dss_nil) (dss_cons (ds_set Fl1 9 (de_callTy Fl1 (k_tuple Fl1.K) T.b_tuple (by decide +kernel) (da_cons Fl1 (DEl.de (del_lc Fl1 (.one 15) [("at", 15)] (di_rng1 Fl1 (da_cons Fl1 (de_var Fl1 3) da_nil) T.b_range) (fun _ _ _ _ _ nd cm => (tg_one nd 15)) (fun _ _ _ _ _ _ G5 => dts_nil) (fun _ _ _ _ _ _ G5 => (de_idx G5 (de_var G5 4) (de_var G5 15))))) da_nil))) (dss_cons (ds_if (dt_cmp Fl1 (c_ne Fl1) (de_call Fl1 (d_renamed.mono (Nat.le_add_right _ 2)) (da_cons Fl1 (de_ix Fl1 (de_var Fl1 5) (de_int Fl1)) (da_cons Fl1 (de_ix Fl1 (de_var Fl1 5) (de_int Fl1)) (da_cons Fl1 (de_var Fl1 9) da_nil)))) (de_tup Fl1 (da_cons Fl1 (de_var Fl1 12) (da_cons Fl1 (de_var Fl1 13) da_nil))) (nomark _)) (dss_one (ds_ret (de_bl Fl1))) dss_nil) (dss_cons (ds_own Fl1 10 (del_lst Fl1 (da_cons Fl1 (de_var Fl1 4) (da_cons Fl1 (de_slice Fl1 (de_var Fl1 4) do_none (do_some (de_neg (de_int Fl1)))) (da_cons Fl1 (de_op Fl1 (b_add Fl1) (de_var Fl1 4) (de_tup Fl1 (da_cons Fl1 (de_var Fl1 3) da_nil))) (da_cons Fl1 (de_callTy Fl1 (k_list Fl1.K) T.b_list (by decide +kernel) (da_cons Fl1 (de_var Fl1 4) da_nil)) da_nil)))))) (dss_cons (ds_app Fl1 10 (de_call Fl1 (d__law_cj_bent.mono (Nat.le_add_right _ 2)) (da_cons Fl1 (de_var Fl1 1) (da_cons Fl1 (de_var Fl1 4) da_nil)))) (dss_frz 10 (dss_cons (ds_for Fl1 (.one 14) (di_seq Fl1 (de_op Fl1 (b_add Fl1) (de_var Fl1 10) (de_lst Fl1 (da_cons Fl1 (de_op Fl1 (b_add Fl1) (de_slice Fl1 (de_var Fl1 4) do_none (do_some (de_neg (de_int Fl1)))) (de_tupC Fl1 (da_consC Fl1 (de_int Fl1) da_nilC))) (da_cons Fl1 (de_call Fl1 (d__law_cj_odd.mono (Nat.le_add_right _ 2)) (da_cons Fl1 (de_var Fl1 1) da_nil)) da_nil))))) (tg_one Fl1.nd 14) (fun _ Fl6 => (dss_cons (ds_set Fl6 11 (de_and (de_callB Fl6 (k_isi Fl6.K) T.b_isinstance (by decide +kernel) (da_cons Fl6 (de_var Fl6 14) (da_cons Fl6 (de_ty Fl6 (T := "tuple") T.b_tuple (by decide +kernel)) da_nil))) (de_one (de_cmp Fl6 (c_eq Fl6) (DEl.de (del_lc Fl6 (.one 17) [("one", 17)] (di_seq Fl6 (de_var Fl6 14)) (fun _ _ _ _ _ nd cm => (tg_one nd 17)) (fun _ _ _ _ _ _ G7 => (dts_one (dt_not (dt_truth G7 (de_call G7 (d__law_is_whole.mono (Nat.le_add_right _ 2)) (da_cons G7 (de_var G7 17) da_nil)))))) (fun _ _ _ _ _ _ G7 => (de_int G7)))) (de_lst Fl6 da_nil) (nomark _))))) (dss_cons (ds_set Fl6 11 (de_and (de_var Fl6 11) (de_one (de_cmp Fl6 (c_eq Fl6) (de_callB Fl6 (k_sortedV Fl6) T.b_sorted (by decide +kernel) (da_cons Fl6 (de_var Fl6 14) da_nil)) (de_listRg Fl6 (dr_1 (de_var Fl6 3) T.b_range) T.b_list) (nomark _))))) (dss_cons (ds_if (dt_not (dt_truth Fl6 (de_call Fl6 (d__law_is_truth.mono (Nat.le_add_right _ 2)) (da_cons Fl6 (de_callKw0 Fl6 (dk_is_order_0_query_value.mono (Nat.le_add_right _ 2)) (dk_cons Fl6 (de_var Fl6 12) (dk_cons Fl6 (de_var Fl6 14) dk_nil))) (da_cons Fl6 (de_var Fl6 11) da_nil))))) (dss_one (ds_ret (de_bl Fl6))) dss_nil) (dss_one (ds_if (DW.dt (dw_and (dt_not (dt_truth Fl6 (de_var Fl6 11))) (dw_and1 (dt_not (dt_truth Fl6 (de_callB Fl6 (k_isiA Fl6 T.hI T.hO) T.b_isinstance (by decide +kernel) (da_cons Fl6 (de_caught Fl6 T.fuC T.mC T.bC sc__law_caught rfl rfl T.gJ rfl rfl rfl T.hJ T.tab_law.1 rfl T.tab_law.2.1 T.tab_law.2.2 (LamX.lamS_by (sc := defScope s_law) (by decide +kernel)) rfl (fun _ _ _ _ _ => rfl) (fun _ _ _ _ _ _ _ _ εc8 Fc8 => (de_call Fc8 d_renamed (da_cons Fc8 (de_var Fc8 12) (da_cons Fc8 (de_var Fc8 13) (da_cons Fc8 (de_var Fc8 14) da_nil)))))) (da_cons Fl6 (de_cl Fl6 (c := "BadPlaces") T.x_BadPlaces.g) da_nil)))))))) (dss_one (ds_ret (de_bl Fl6))) dss_nil))))))) (dss_one (ds_if (dt_not (dt_truth Fl1 (de_callB Fl1 (k_isiA Fl1 T.hI T.hO) T.b_isinstance (by decide +kernel) (da_cons Fl1 (de_caught Fl1 T.fuC T.mC T.bC sc__law_caught rfl rfl T.gJ rfl rfl rfl T.hJ T.tab_law.1 rfl T.tab_law.2.1 T.tab_law.2.2 (LamX.lamS_by (sc := defScope s_law) (by decide +kernel)) rfl (fun _ _ _ _ _ => rfl) (fun _ _ _ _ _ _ _ _ εc9 Fc9 => (de_call Fc9 d_renamed (da_cons Fc9 (de_var Fc9 12) (da_cons Fc9 (de_non Fc9) (da_cons Fc9 (de_non Fc9) da_nil)))))) (da_cons Fl1 (de_cl Fl1 (c := "BadStore") T.x_BadStore.g) da_nil))))) (dss_one (ds_ret (de_bl Fl1))) dss_nil)))))))))))))))))))) (dss_one (ds_ret (de_bl F))))
end
end WK03

namespace WK03
open PySem L2 DL
/-! ### the promises of k00's defs -/
def isWhole : D → Bool
  | .int _ => true
  | _ => false
def isNum (lo : Int) : D → Bool
  | .int i => decide (lo ≤ i) && decide (i < 1000000000000000000)
  | _ => false
def S_whole : Spd := fun ds m Q _ => ∃ d, ds = [d] ∧ d.typed = true ∧ Q m (.bl (isWhole d))
def S_truth : Spd := fun ds m Q _ => ∃ a b : Bool, ds = [.bl a, .bl b] ∧ Q m (.bl (decide (a = b)))
def S_num : Spd := fun ds m Q _ => ∃ d lo, ds = [d, .int lo] ∧ d.typed = true ∧ Q m (.bl (isNum lo d))
/-- the numbers of a tuple -/
def nums : D → Option (List Int)
  | .tup ds => D.ints ds
  | _ => none
def asc (ns : List Int) : Bool := decide (ns.Pairwise (· < ·))
def rising : D → Bool
  | .tup ds => ds.all (isNum 0) && (match D.ints ds with | some ns => asc ns | none => false)
  | _ => false
def S_rising : Spd := fun ds m Q _ => ∃ w n d, ds = [d] ∧ good w n d ∧ Q m (.bl (rising d))
theorem p_whole (ε : Nat → Str → Prop) (ds : List D) (m : Nat) (Q : Nat → D → Prop) (hl : ds.length = 1) (h : S_whole ds m Q ε) : r__law_is_whole ε { nx := fun m _ => Q m .non, rt := Q } m (params ["item"] ds) := by
  obtain ⟨d, rfl, ht, q⟩ := h
  simp [r__law_is_whole]
  cases d <;> simp [D.typed, isWhole] at ht q ⊢ <;> assumption
theorem p_truth (ε : Nat → Str → Prop) (ds : List D) (m : Nat) (Q : Nat → D → Prop) (hl : ds.length = 2) (h : S_truth ds m Q ε) : r__law_is_truth ε { nx := fun m _ => Q m .non, rt := Q } m (params ["found", "due"] ds) := by
  obtain ⟨a, b, rfl, q⟩ := h
  simp [r__law_is_truth]
  cases b <;> simpa using q
theorem p_num (ε : Nat → Str → Prop) (ds : List D) (m : Nat) (Q : Nat → D → Prop) (hl : ds.length = 2) (h : S_num ds m Q ε) : r_is_number ε { nx := fun m _ => Q m .non, rt := Q } m (params ["value", "low"] ds) := by
  obtain ⟨d, lo, rfl, ht, q⟩ := h
  simp [r_is_number]
  cases d <;> simp [D.typed, isNum] at ht q ⊢ <;> try assumption
  split <;> simp_all
theorem nums_of : ∀ {ds : List D}, (ds.all (isNum 0)) = true → ∃ ns : List Int, ds = ns.map D.int ∧ ∀ n ∈ ns, 0 ≤ n ∧ n < 1000000000000000000
  | [], _ => ⟨[], rfl, fun _ h => by cases h⟩
  | d :: ds, h => by
    rw [List.all_cons, Bool.and_eq_true] at h
    obtain ⟨ns, rfl, hn⟩ := nums_of h.2
    cases d <;> simp [isNum] at h
    rename_i i
    exact ⟨i :: ns, rfl, fun n hm => by
      rcases List.mem_cons.mp hm with rfl | hm
      · exact h.1
      · exact hn n hm⟩
theorem asc_zip : ∀ ns : List Int, ((ns.zip (ns.drop 1)).all fun p => decide (p.1 < p.2)) = asc ns
  | [] => rfl
  | [n] => by simp [asc]
  | n :: m :: ns => by
    have ih := asc_zip (m :: ns)
    simp only [List.drop_succ_cons, List.drop_zero, List.zip_cons_cons, List.all_cons] at ih ⊢
    rw [ih]
    unfold asc
    rw [Bool.eq_iff_iff]
    simp only [Bool.and_eq_true, decide_eq_true_iff, List.pairwise_cons]
    constructor
    · rintro ⟨h1, h2, h3⟩
      refine ⟨fun a ha => ?_, h2, h3⟩
      rcases List.mem_cons.mp ha with rfl | ha
      · exact h1
      · have := h2 a ha; omega
    · rintro ⟨h1, h2, h3⟩
      exact ⟨h1 m List.mem_cons_self, h2, h3⟩
theorem p_rising (ε : Nat → Str → Prop) (ds : List D) (m : Nat) (Q : Nat → D → Prop) (hl : ds.length = 1) (h : S_rising ds m Q ε) : r_is_rising S_num ε { nx := fun m _ => Q m .non, rt := Q } m (params ["value", "one", "other", "item"] ds) := by
  obtain ⟨w, n, d, rfl, hg, q⟩ := h
  have ht := good_typed hg
  simp [r_is_rising]
  cases d <;> simp [D.typed, rising] at ht q ⊢ <;> try assumption
  rename_i ds
  cases n with
  | zero => exact hg.elim
  | succ n =>
    refine lc_bl (isNum 0) (fun d hd K hk => ?_) ?_
    · simp
      exact ⟨d, 0, rfl, good_typed (hg.2 d hd), hk⟩
    · refine ⟨_, bls_id _, ?_⟩
      cases ha : ds.all (isNum 0) with
      | false =>
        rw [if_pos (by
          rw [List.all_eq_false] at ha
          obtain ⟨x, hx, h0⟩ := ha
          exact List.mem_map.mpr ⟨x, hx, by simpa using h0⟩)]
        rw [ha] at q
        exact q
      | true =>
        rw [if_neg (by
          intro hm
          obtain ⟨x, hx, h0⟩ := List.mem_map.mp hm
          have := List.all_eq_true.mp ha x hx
          rw [this] at h0; cases h0)]
        obtain ⟨ns, rfl, hn⟩ := nums_of ha
        rw [ha] at q
        simp at q
        refine lc_bl (fun d => match d with | .tpw [.int a, .int b] => decide (a < b) | _ => false) (fun d hd K hk => ?_) ?_
        · obtain ⟨p, hp, rfl⟩ := List.mem_map.mp hd
          obtain ⟨a, b⟩ := p
          have h1 := (List.of_mem_zip hp).1
          have h2 := List.mem_of_mem_tail (List.of_mem_zip hp).2
          obtain ⟨i, _, rfl⟩ := List.mem_map.mp h1
          obtain ⟨j, _, rfl⟩ := List.mem_map.mp h2
          simpa using hk
        · refine ⟨_, bls_id _, ?_⟩
          have e : ((zipD (ns.map D.int) (ns.map D.int).tail).map fun d => match d with | .tpw [.int a, .int b] => decide (a < b) | _ => false).all id = asc ns := by
            rw [← asc_zip ns]
            unfold zipD
            rw [← List.map_tail, ← List.drop_one]
            simp only [List.zip_map, List.map_map, List.all_map]
            rfl
          rw [e]
          exact q
/-- an atom of a query of so many attributes -/
def atomOk (many : Int) (d : D) : Bool := rising d && match nums d with
  | some ns => (match ns.getLast? with | some z => decide (z < many) | none => false)
  | none => false
def hasA (a : Int) (d : D) : Bool := match nums d with
  | some ns => decide (a ∈ ns)
  | none => false
/-- a query -/
def isQ : D → Bool
  | .tup [.int many, .tup as] => decide (1 ≤ many) && decide (many ≤ 8) && (decide (1 ≤ as.length) && decide (as.length ≤ 8)) && as.all (atomOk many) && (List.range many.toNat).all fun a => as.any (hasA a)
  | _ => false
def S_query : Spd := fun ds m Q _ => ∃ w n d, ds = [d] ∧ good w n d ∧ Q m (.bl (isQ d))
theorem rising_nums {d : D} (h : rising d = true) : ∃ ns : List Int, d = .tup (ns.map D.int) ∧ asc ns = true ∧ ∀ n ∈ ns, 0 ≤ n ∧ n < 1000000000000000000 := by
  cases d <;> simp only [rising] at h <;> first | cases h | skip
  rename_i ds
  rw [Bool.and_eq_true] at h
  obtain ⟨ns, rfl, hn⟩ := nums_of h.1
  have h2 := h.2
  rw [ints_id] at h2
  exact ⟨ns, rfl, h2, hn⟩
theorem any_in (a : Int) : ∀ ns : List Int, ((ns.map D.int).any fun c => c.eqv (.int a)) = decide (a ∈ ns)
  | [] => by simp
  | n :: ns => by
    rw [List.map_cons, List.any_cons, any_in a ns, eqv_int]
    by_cases h : n = a
    · simp [h]
    · have h' : ¬ a = n := fun z => h z.symm
      simp [h, h']
theorem all_fl (ns : List Int) : (ns.map D.int).all D.fl = true := by
  rw [List.all_map]
  exact List.all_eq_true.mpr fun _ _ => rfl
theorem isQ_len {ds : List D} (h : ds.length ≠ 2) : isQ (.tup ds) = false := by
  unfold isQ
  split
  · rename_i e; cases e; simp at h
  · rfl
theorem isQ_big {i : Int} {b : D} (h : ¬ (1 ≤ i ∧ i ≤ 8)) : isQ (.tup [.int i, b]) = false := by
  unfold isQ
  split
  · rename_i e
    cases e
    have : (decide (1 ≤ i) && decide (i ≤ 8)) = false := by
      rw [Bool.and_eq_false_iff, decide_eq_false_iff_not, decide_eq_false_iff_not]; omega
    rw [this]; rfl
  · rfl
theorem p_query (ε : Nat → Str → Prop) (ds : List D) (m : Nat) (Q : Nat → D → Prop) (hl : ds.length = 1) (h : S_query ds m Q ε) : r_is_query S_num S_rising ε { nx := fun m _ => Q m .non, rt := Q } m (params ["value", "many", "atoms", "attribute", "atom"] ds) := by
  obtain ⟨w, n, d, rfl, hg, q⟩ := h
  have ht := good_typed hg
  cases d with
  | tup ds =>
    match ds, hg, q with
    | [], hg, q => simp [r_is_query]; exact q
    | [a], hg, q => rw [isQ_len (by simp)] at q; simp [r_is_query]; exact q
    | a :: b :: c :: r, hg, q =>
      rw [isQ_len (by simp)] at q
      simp [r_is_query]
      rw [if_neg (by omega)]
      exact q
    | [a, b], hg, q =>
      cases n with
      | zero => exact hg.elim
      | succ n =>
        have ga := hg.2 a List.mem_cons_self
        have gb := hg.2 b (List.mem_cons_of_mem _ List.mem_cons_self)
        simp [r_is_query, atI, ixN]
        refine ⟨a, 1, rfl, good_typed ga, ?_⟩
        cases a <;> simp [isNum] <;> try exact q
        rename_i i
        by_cases h1 : 1 ≤ i ∧ i < 1000000000000000000
        · rw [if_pos h1]
          by_cases h8 : 8 < i
          · rw [isQ_big (by omega)] at q
            rw [if_pos h8]; exact q
          · rw [if_neg h8]
            have tb := good_typed gb
            cases b <;> simp [D.typed] at tb ⊢ <;> try exact q
            rename_i as
            have e0 : isQ (.tup [.int i, .tup as]) = ((decide (1 ≤ as.length) && decide (as.length ≤ 8)) && as.all (atomOk i) && (List.range i.toNat).all fun a => as.any (hasA a)) := by
              have e1 : (decide (1 ≤ i) && decide (i ≤ 8)) = true := by rw [Bool.and_eq_true, decide_eq_true_iff, decide_eq_true_iff]; omega
              show (decide (1 ≤ i) && decide (i ≤ 8) && (decide (1 ≤ as.length) && decide (as.length ≤ 8)) && as.all (atomOk i) && (List.range i.toNat).all fun a => as.any (hasA a)) = _
              rw [e1, Bool.true_and]
            rw [e0] at q
            by_cases l1 : 1 ≤ as.length
            · rw [if_pos (by omega)]
              by_cases l2 : as.length ≤ 8
              · rw [if_pos (by omega)]
                have e2 : (decide (1 ≤ as.length) && decide (as.length ≤ 8)) = true := by rw [Bool.and_eq_true, decide_eq_true_iff, decide_eq_true_iff]; omega
                rw [e2, Bool.true_and] at q
                cases n with
                | zero => exact gb.elim
                | succ n =>
                  refine lc_bl (atomOk i) (fun d hd K hk => ?_) ?_
                  · have gd := gb.2 d hd
                    simp
                    refine ⟨w, n, d, rfl, gd, ?_⟩
                    unfold atomOk at hk
                    cases hr : rising d with
                    | false => rw [hr] at hk; simpa using hk
                    | true =>
                      obtain ⟨ns, rfl, ha, hn⟩ := rising_nums hr
                      rw [hr] at hk
                      simp only [nums, ints_id, Bool.true_and] at hk
                      have es : (D.tup (ns.map D.int)).eqv (.tup []) = decide (ns = []) := eqv_tupi ns []
                      simp [shp_tupi, es]
                      by_cases hne : ns = []
                      · subst hne
                        simpa using hk
                      · rw [if_neg hne]
                        have hne2 : ns.map D.int ≠ [] := fun z => hne (List.map_eq_nil_iff.mp z)
                        refine ⟨_, atI_last hne2, ?_⟩
                        rw [List.getLast_map]
                        rw [List.getLast?_eq_some_getLast hne] at hk
                        exact hk
                  · refine ⟨_, bls_id _, ?_⟩
                    cases ha : as.all (atomOk i) with
                    | false =>
                      rw [if_pos (by
                        rw [List.all_eq_false] at ha
                        obtain ⟨x, hx, h0⟩ := ha
                        exact List.mem_map.mpr ⟨x, hx, by simpa using h0⟩)]
                      rw [ha] at q
                      exact q
                    | true =>
                      rw [if_neg (by
                        intro hm
                        obtain ⟨x, hx, h0⟩ := List.mem_map.mp hm
                        have := List.all_eq_true.mp ha x hx
                        rw [this] at h0; cases h0)]
                      rw [ha, Bool.true_and] at q
                      refine ⟨by omega, by omega, ?_⟩
                      refine lc_bl (fun d => match d with | .int a => as.any (hasA a) | _ => false) (fun d hd K hk => ?_) ?_
                      · obtain ⟨a, _, rfl⟩ := List.mem_map.mp hd
                        simp
                        refine lc_bl (hasA ((0 : Int) + (a : Int))) (fun d hd K hk2 => ?_) ?_
                        · have hr := List.all_eq_true.mp ha d hd
                          unfold atomOk at hr
                          rw [Bool.and_eq_true] at hr
                          obtain ⟨ns, rfl, _, _⟩ := rising_nums hr.1
                          simp only [hasA, nums, ints_id] at hk2
                          have e3 := any_in ((0 : Int) + (a : Int)) ns
                          rw [List.any_map] at e3
                          rw [← e3] at hk2
                          simpa [all_fl] using hk2
                        · refine ⟨_, bls_id _, ?_⟩
                          have e4 : (as.map (hasA ((0 : Int) + (a : Int)))).any id = as.any (hasA ((0 : Int) + (a : Int))) := by rw [List.any_map]; rfl
                          rw [e4]; exact hk
                      · refine ⟨_, bls_id _, ?_⟩
                        have e5 : ((ups 0 i.toNat).map fun d => match d with | .int a => as.any (hasA a) | _ => false).all id = (List.range i.toNat).all fun a => as.any (hasA a) := by
                          unfold ups
                          rw [List.map_map, List.all_map]
                          simp
                          rfl
                        rw [e5]; exact q
              · rw [if_neg (by omega)]
                have e2 : (decide (1 ≤ as.length) && decide (as.length ≤ 8)) = false := by rw [Bool.and_eq_false_iff, decide_eq_false_iff_not, decide_eq_false_iff_not]; omega
                rw [e2] at q; exact q
            · rw [if_neg (by omega)]
              have e2 : (decide (1 ≤ as.length) && decide (as.length ≤ 8)) = false := by rw [Bool.and_eq_false_iff, decide_eq_false_iff_not, decide_eq_false_iff_not]; omega
              rw [e2] at q; exact q
        · rw [isQ_big (by omega)] at q
          rw [if_neg h1]; exact q
  | _ => simp [D.typed] at ht <;> (simp [r_is_query]; exact q)
/-! ### the law's own reading -/
theorem up_ends : ∀ {ns : List Int} (h : ns ≠ []), ns.Pairwise (· < ·) → ∀ n ∈ ns, ns.head h ≤ n ∧ n ≤ ns.getLast h
  | [], h, _, _, _ => absurd rfl h
  | [a], _, _, n, hn => by simp at hn; subst hn; simp
  | a :: b :: ns, _, hp, n, hn => by
    have h2 := List.pairwise_cons.mp hp
    have ih := up_ends (ns := b :: ns) (by simp) h2.2
    have hb := h2.1 b List.mem_cons_self
    rcases List.mem_cons.mp hn with rfl | hn
    · have := (ih b List.mem_cons_self).2
      simp only [List.head_cons, List.getLast_cons_cons]
      exact ⟨Int.le_refl _, by omega⟩
    · have := ih n hn
      have h3 := h2.1 n hn
      simp only [List.head_cons, List.getLast_cons_cons]
      exact ⟨by omega, this.2⟩
theorem atomOk_ints {ns : List Int} {i : Int} (hne : ns ≠ []) (hi : i ≤ 8) : atomOk i (.tup (ns.map D.int)) = true ↔ ns = setI ns ∧ 0 ≤ ns.head hne ∧ ns.getLast hne < i := by
  have e : atomOk i (.tup (ns.map D.int)) = (((ns.map D.int).all (isNum 0) && asc ns) && decide (ns.getLast hne < i)) := by
    unfold atomOk rising nums
    simp only [ints_id, List.getLast?_eq_some_getLast hne]
  rw [e, Bool.and_eq_true, Bool.and_eq_true, decide_eq_true_iff]
  unfold asc
  rw [decide_eq_true_iff]
  constructor
  · rintro ⟨⟨h1, h2⟩, h3⟩
    refine ⟨(setI_self h2).symm, ?_, h3⟩
    have := List.all_eq_true.mp h1 (.int (ns.head hne)) (List.mem_map.mpr ⟨_, List.head_mem hne, rfl⟩)
    simp [isNum] at this
    exact this.1
  · rintro ⟨h1, h2, h3⟩
    have hp : ns.Pairwise (· < ·) := by rw [h1]; exact setI_up ns
    refine ⟨⟨List.all_eq_true.mpr fun d hd => ?_, hp⟩, h3⟩
    obtain ⟨n, hn, rfl⟩ := List.mem_map.mp hd
    have := up_ends hne hp n hn
    simp [isNum]
    omega
theorem whole_of : ∀ {ds : List D}, ds.filter (fun d => !isWhole d) = [] → ∃ ns : List Int, ds = ns.map D.int
  | [], _ => ⟨[], rfl⟩
  | d :: ds, h => by
    rw [List.filter_cons] at h
    split at h
    · cases h
    · rename_i hd
      obtain ⟨ns, rfl⟩ := whole_of h
      cases d <;> simp [isWhole] at hd
      exact ⟨_ :: ns, rfl⟩
theorem fm_odd : ∀ ds : List D, ds.filterMap (fun d => if isWhole d then none else some (D.int 1)) = ((ds.filter fun d => !isWhole d).map fun _ => (1 : Int)).map D.int
  | [] => rfl
  | d :: ds => by
    rw [List.filterMap_cons, List.filter_cons]
    cases h : isWhole d <;> simp [fm_odd ds]
theorem rising_whole {ds : List D} (h : rising (.tup ds) = true) : ds.filter (fun d => !isWhole d) = [] := by
  obtain ⟨ns, e, _⟩ := rising_nums h
  cases e
  rw [List.filter_eq_nil_iff]
  intro d hd
  obtain ⟨n, _, rfl⟩ := List.mem_map.mp hd
  simp [isWhole]
theorem ints_nodup (n : Nat) : ((List.range n).map fun a : Nat => (a : Int)).Nodup := by
  have h : (List.range n).Pairwise (· < ·) := List.pairwise_lt_range
  exact List.pairwise_map.mpr (h.imp fun h e => by omega)
theorem cover {fs : List Int} {i : Int} (h1 : 1 ≤ i) (hb : ∀ a ∈ fs, 0 ≤ a ∧ a < i) : (((setI fs).length : Nat) : Int) = i ↔ ((List.range i.toNat).all fun a => decide ((a : Int) ∈ fs)) = true := by
  have e : (setI fs).length = (((List.range i.toNat).map fun a : Nat => (a : Int)).filter fun a => decide (a ∈ fs)).length := by
    refine nodup_len (lt_nodup (setI_up fs)) ((ints_nodup _).filter _) fun a => ?_
    rw [setI_mem, List.mem_filter, decide_eq_true_iff]
    constructor
    · intro h
      have := hb a h
      exact ⟨List.mem_map.mpr ⟨a.toNat, List.mem_range.mpr (by omega), by omega⟩, h⟩
    · exact fun h => h.2
  have e2 : ((List.range i.toNat).map fun a : Nat => (a : Int)).length = i.toNat := by rw [List.length_map, List.length_range]
  have e3 : (((setI fs).length : Nat) : Int) = i ↔ (((List.range i.toNat).map fun a : Nat => (a : Int)).filter fun a => decide (a ∈ fs)).length = ((List.range i.toNat).map fun a : Nat => (a : Int)).length := by
    rw [e, e2]; omega
  rw [e3, List.length_filter_eq_length_iff, List.all_eq_true]
  constructor
  · intro h a ha
    exact h _ (List.mem_map.mpr ⟨a, ha, rfl⟩)
  · intro h a ha
    obtain ⟨b, hb, rfl⟩ := List.mem_map.mp ha
    exact h b hb
end WK03

namespace WK03
open PySem L2 DL
/-! ### refusals -/
def S_need : Spd := fun ds m Q ε => ∃ w n d, ds = [d] ∧ good w n d ∧ (isQ d = true → Q m .non) ∧ (isQ d = false → ε m "BadQuery")
theorem p_need (ε : Nat → Str → Prop) (ds : List D) (m : Nat) (Q : Nat → D → Prop) (hl : ds.length = 1) (h : S_need ds m Q ε) : r_need_query S_query ε { nx := fun m _ => Q m .non, rt := Q } m (params ["query"] ds) := by
  obtain ⟨w, n, d, rfl, hg, h1, h2⟩ := h
  simp [r_need_query]
  refine ⟨w, n, d, rfl, hg, ?_⟩
  cases e : isQ d with
  | true => simpa using h1 e
  | false => simpa using h2 e
end WK03

namespace WK03
open PySem L2 DL
theorem good_ints {w n : Nat} {ns : List Int} (h : ns.length ≤ w) : good w (n + 1) (.tup (ns.map D.int)) := ⟨by rw [List.length_map]; exact h, fun d hd => by
  obtain ⟨i, _, rfl⟩ := List.mem_map.mp hd
  cases n <;> trivial⟩
theorem perm_ints {ys : List D} {ns : List Int} (h : ys.Perm (ns.map D.int)) : ∃ ms : List Int, ys = ms.map D.int ∧ ms.Perm ns := by
  have all : ∀ d ∈ ys, ∃ i : Int, d = .int i := fun d hd => by
    obtain ⟨i, _, e⟩ := List.mem_map.mp (h.mem_iff.mp hd)
    exact ⟨i, e.symm⟩
  have key : ∀ (l : List D), (∀ d ∈ l, ∃ i : Int, d = .int i) → ∃ ms : List Int, l = ms.map D.int := by
    intro l
    induction l with
    | nil => intro _; exact ⟨[], rfl⟩
    | cons d l ih =>
      intro hl
      obtain ⟨i, rfl⟩ := hl d List.mem_cons_self
      obtain ⟨ms, rfl⟩ := ih fun d hd => hl d (List.mem_cons_of_mem _ hd)
      exact ⟨i :: ms, rfl⟩
  obtain ⟨ms, rfl⟩ := key ys all
  refine ⟨ms, rfl, ?_⟩
  have := h.map (fun d : D => match d with | .int i => i | _ => 0)
  rw [List.map_map, List.map_map] at this
  have e : ((fun d : D => match d with | .int i => i | _ => 0) ∘ D.int) = id := rfl
  rw [e, List.map_id, List.map_id] at this
  exact this
theorem ups_ints (n : Nat) : upsD 0 (n : Int) = ((List.range n).map fun a : Nat => (a : Int)).map D.int := by
  unfold upsD
  rw [List.map_map]
  simp
theorem shq_int (i : Int) : (D.int i).shq = true := rfl
/-- an atom that is drawn: ascending numbers below many, one to three of them -/
def S_some : Spd := fun ds m Q _ => ∃ n : Nat, ds = [.rng, .int n] ∧ 1 ≤ n ∧ n ≤ 1000 ∧ m + n + 2 < CAP ∧ ∀ m' (ns : List Int), m' ≤ m + n + 1 → ns.Pairwise (· < ·) → ns ≠ [] → ns.length ≤ 3 → (∀ a ∈ ns, 0 ≤ a ∧ a < n) → Q m' (.tup (ns.map D.int))
theorem p_some (ε : Nat → Str → Prop) (ds : List D) (m : Nat) (Q : Nat → D → Prop) (hl : ds.length = 2) (h : S_some ds m Q ε) : r__law_cj_some S_mixed S_draw ε { nx := fun m _ => Q m .non, rt := Q } m (params ["state", "many"] ds) := by
  obtain ⟨n, rfl, h1, h2, hm, q⟩ := h
  have hc : CAP = 1099511627776 := rfl
  unfold r__law_cj_some
  simp
  refine ⟨⟨by omega, by omega, by omega, by omega, by omega⟩, upsD 0 n, .inl rfl, ?_, ?_, ?_, ?_⟩
  · rw [ups_ints]
    intro x hx
    obtain ⟨i, _, rfl⟩ := List.mem_map.mp hx
    rfl
  · rw [upsD_len]; omega
  · rw [upsD_len]; omega
  · rw [upsD_len, ups_ints]
    intro m1 ys hm1 hp
    obtain ⟨ms, rfl, hp2⟩ := perm_ints hp
    refine ⟨_, rfl, by split <;> omega, by split <;> omega, by omega, fun m2 r hm2 hr0 hr1 => ?_⟩
    have hr3 : 1 + r ≤ 3 ∧ 1 + r ≤ n := by split at hr1 <;> omega
    simp
    rw [cut_to _ (by omega), ← List.map_take]
    refine ⟨_, ints_id _, ?_⟩
    have hlen := hp2.length_eq
    rw [List.length_map, List.length_range] at hlen
    have nd : ms.Nodup := hp2.symm.nodup (ints_nodup n)
    have ndt : (ms.take (1 + r).toNat).Nodup := nd.sublist (List.take_sublist _ _)
    have hs : (srt (ms.take (1 + r).toNat)).Nodup := (srt_perm _).symm.nodup ndt
    have hl : (srt (ms.take (1 + r).toNat)).length = (1 + r).toNat := by
      rw [srt_len, List.length_take, hlen]; omega
    refine q _ _ (by omega) ?_ (fun z => ?_) (by rw [hl]; omega) fun a ha => ?_
    · have up := srt_up (ms.take (1 + r).toNat)
      rw [List.Nodup] at hs
      exact (up.and hs).imp fun ⟨h1, h2⟩ => by omega
    · rw [z] at hl
      simp at hl
      omega
    · have h3 := List.mem_of_mem_take ((srt_perm _).mem_iff.mp ha)
      obtain ⟨b, hb, rfl⟩ := List.mem_map.mp (hp2.mem_iff.mp h3)
      have := List.mem_range.mp hb
      omega
end WK03

namespace WK03
open PySem L2 DL
def odds : List D := [.non, .int 0, .int (-1), .bl true, .str "1", .tup [], .lst [], .emp, .tup [.int 1], .tup [.tup [.int 0]], .tup [.int 2, .tup [.tup [.int 0]]], .tup [.int 0, .tup []], .int 1000000000000000000]
theorem odds_good : ∀ d ∈ odds, good 3 3 d := by
  intro d hd
  simp only [odds, List.mem_cons, List.not_mem_nil, or_false] at hd
  rcases hd with rfl | rfl | rfl | rfl | rfl | rfl | rfl | rfl | rfl | rfl | rfl | rfl | rfl <;> simp [good]
def S_odd : Spd := fun ds m Q _ => ds = [.rng] ∧ m < CAP ∧ ∀ m' x, m' ≤ m + 1 → good 3 3 x → Q m' x
theorem p_odd (ε : Nat → Str → Prop) (ds : List D) (m : Nat) (Q : Nat → D → Prop) (hl : ds.length = 1) (h : S_odd ds m Q ε) : r__law_cj_odd S_pick ε { nx := fun m _ => Q m .non, rt := Q } m (params ["state"] ds) := by
  obtain ⟨rfl, hm, q⟩ := h
  exact ⟨rfl, odds, .inl rfl, by simp [odds], by simp [odds], hm, fun m' x hm' hx => q m' x hm' (odds_good x hx)⟩
end WK03

namespace WK03
open PySem L2 DL
def fIn (a : Int) : D → Option D
  | .tup es => if es.any (fun c => c.eqv (.int a)) then some (D.int 1) else none
  | _ => none
theorem fm_in (a : Int) : ∀ os : List (List Int), (os.map fun ns => D.tup (ns.map D.int)).filterMap (fIn a) = ((os.filter fun ns => decide (a ∈ ns)).map fun _ => (1 : Int)).map D.int
  | [] => rfl
  | ns :: os => by
    have e : fIn a (.tup (ns.map D.int)) = if decide (a ∈ ns) = true then some (D.int 1) else none := by
      simp only [fIn, any_in]
    rw [List.map_cons, List.filter_cons]
    by_cases h : a ∈ ns
    · rw [List.filterMap_cons_some (by rw [e, if_pos (by simpa using h)]), fm_in a os, if_pos (by simpa using h)]
      rfl
    · rw [List.filterMap_cons_none (by rw [e, if_neg (by simpa using h)]), fm_in a os, if_neg (by simpa using h)]
def fLack (os : List (List Int)) : D → Option D
  | .int a => if (os.filter fun ns => decide (a ∈ ns)).isEmpty then some (D.int a) else none
  | _ => none
theorem fm_lack (os : List (List Int)) : ∀ ks : List Int, (ks.map D.int).filterMap (fLack os) = (ks.filter fun a => (os.filter fun ns => decide (a ∈ ns)).isEmpty).map D.int
  | [] => rfl
  | a :: ks => by
    rw [List.map_cons, List.filter_cons]
    by_cases h : (os.filter fun ns => decide (a ∈ ns)).isEmpty = true
    · rw [List.filterMap_cons_some (by show (if _ then _ else _) = _; rw [if_pos h]), fm_lack os ks, if_pos h]
      rfl
    · rw [List.filterMap_cons_none (by show (if _ then _ else _) = _; rw [if_neg h]), fm_lack os ks, if_neg h]
theorem ups0_ints (n : Nat) : ups 0 n = ((List.range n).map fun a : Nat => (a : Int)).map D.int := by
  unfold ups
  rw [List.map_map]
  simp
abbrev qD (many : Int) (os : List (List Int)) : D := .tup [.int many, .tup (os.map rowD)]
/-- a query of small numbers -/
structure Qok (many : Int) (os : List (List Int)) : Prop where
  m1 : 1 ≤ many
  m8 : many ≤ 8
  l1 : 1 ≤ os.length
  l6 : os.length ≤ 6
  up : ∀ ns ∈ os, ns.Pairwise (· < ·)
  ne : ∀ ns ∈ os, ns ≠ []
  l4 : ∀ ns ∈ os, ns.length ≤ 4
  bd : ∀ ns ∈ os, ∀ a ∈ ns, 0 ≤ a ∧ a < many
  cov : ∀ a, 0 ≤ a → a < many → ∃ ns ∈ os, a ∈ ns
def qokB (many : Int) (os : List (List Int)) : Bool := decide (1 ≤ many) && decide (many ≤ 8) && decide (1 ≤ os.length) && decide (os.length ≤ 6) && (os.all fun ns => decide (ns.Pairwise (· < ·)) && !ns.isEmpty && decide (ns.length ≤ 4) && ns.all fun a => decide (0 ≤ a) && decide (a < many)) &&
  (List.range many.toNat).all fun a => os.any fun ns => decide ((a : Int) ∈ ns)
theorem qok_of {many : Int} {os : List (List Int)} (h : qokB many os = true) : Qok many os := by
  unfold qokB at h
  simp only [Bool.and_eq_true, decide_eq_true_iff, List.all_eq_true, List.any_eq_true, Bool.not_eq_true'] at h
  obtain ⟨⟨⟨⟨⟨a1, a2⟩, a3⟩, a4⟩, a5⟩, a6⟩ := h
  refine ⟨a1, a2, a3, a4, fun ns hn => (a5 ns hn).1.1.1, fun ns hn z => ?_, fun ns hn => (a5 ns hn).1.2, fun ns hn => (a5 ns hn).2, fun a h0 h1 => ?_⟩
  · have := (a5 ns hn).1.1.2
    rw [z] at this; cases this
  · obtain ⟨ns, hn, e⟩ := a6 a.toNat (List.mem_range.mpr (by omega))
    refine ⟨ns, hn, ?_⟩
    rw [show a = ((a.toNat : Nat) : Int) by omega]
    exact e
theorem Qok.isQ {many : Int} {os : List (List Int)} (h : Qok many os) : isQ (qD many os) = true := by
  unfold WK03.isQ
  simp only [Bool.and_eq_true, decide_eq_true_iff, List.all_eq_true, List.length_map]
  have hm := h.m8
  refine ⟨⟨⟨⟨h.m1, h.m8⟩, h.l1, by have := h.l6; omega⟩, fun d hd => ?_⟩, fun a ha => ?_⟩
  · obtain ⟨ns, hn, rfl⟩ := List.mem_map.mp hd
    unfold atomOk rising nums
    simp only [ints_id, Bool.and_eq_true, List.all_eq_true]
    refine ⟨⟨fun d hd => ?_, decide_eq_true (h.up ns hn)⟩, ?_⟩
    · obtain ⟨a, ha, rfl⟩ := List.mem_map.mp hd
      have := h.bd ns hn a ha
      unfold isNum
      simp only [Bool.and_eq_true, decide_eq_true_iff]
      omega
    · rw [List.getLast?_eq_some_getLast (h.ne ns hn)]
      exact decide_eq_true (h.bd ns hn _ (List.getLast_mem _)).2
  · have ha := List.mem_range.mp ha
    obtain ⟨ns, hn, hm⟩ := h.cov a (by omega) (by omega)
    rw [List.any_eq_true]
    refine ⟨rowD ns, List.mem_map.mpr ⟨ns, hn, rfl⟩, ?_⟩
    unfold hasA nums
    simp only [ints_id]
    exact decide_eq_true hm
theorem Qok.good {many : Int} {os : List (List Int)} (h : Qok many os) : good 6 3 (qD many os) := ⟨by simp, fun d hd => by
  simp only [List.mem_cons, List.not_mem_nil, or_false] at hd
  rcases hd with rfl | rfl
  · trivial
  · exact ⟨by rw [List.length_map]; exact h.l6, fun d hd => by
      obtain ⟨ns, hn, rfl⟩ := List.mem_map.mp hd
      exact good_ints (by have := h.l4 ns hn; omega)⟩⟩
/-- a query that is drawn: at most six atoms of at most four numbers each -/
def S_draw_q : Spd := fun ds m Q _ => ds = [.rng] ∧ m + 200 < CAP ∧ ∀ m' (many : Int) (os : List (List Int)), m' ≤ m + 100 → many ≤ 4 → Qok many os → Q m' (qD many os)
theorem p_cjq (ε : Nat → Str → Prop) (ds : List D) (m : Nat) (Q : Nat → D → Prop) (hl : ds.length = 1) (h : S_draw_q ds m Q ε) : r__law_cj_query S_draw S_pick S_some ε { nx := fun m _ => Q m .non, rt := Q } m (params ["state", "known", "many", "atoms_here", "turn", "lacking", "one", "atom"] ds) := by
  obtain ⟨rfl, hm, q⟩ := h
  have hc : CAP = 1099511627776 := rfl
  unfold r__law_cj_query
  simp
  refine ⟨by rw [sizeLine_eq]; omega, by rw [sizeLine_eq]; omega, 2, rfl, by omega, by omega, by omega, fun m1 r hm1 h0 h1 => ?_⟩
  simp
  split
  · refine ⟨_, .inl rfl, by simp, by simp, by omega, fun m' x hm' hx => ?_⟩
    simp only [List.mem_cons, List.not_mem_nil, or_false] at hx
    rcases hx with rfl | rfl | rfl | rfl | rfl | rfl | rfl | rfl | rfl | rfl
    · exact q _ 3 [[0, 1], [0, 2], [1, 2]] (by omega) (by decide) (qok_of (by decide +kernel))
    · exact q _ 2 [[0], [0, 1], [1]] (by omega) (by decide) (qok_of (by decide +kernel))
    · exact q _ 4 [[0, 1], [1, 2], [2, 3], [0, 3]] (by omega) (by decide) (qok_of (by decide +kernel))
    · exact q _ 3 [[0, 1], [1, 2]] (by omega) (by decide) (qok_of (by decide +kernel))
    · exact q _ 4 [[0, 1], [0, 2], [0, 3]] (by omega) (by decide) (qok_of (by decide +kernel))
    · exact q _ 1 [[0]] (by omega) (by decide) (qok_of (by decide +kernel))
    · exact q _ 2 [[0], [1]] (by omega) (by decide) (qok_of (by decide +kernel))
    · exact q _ 4 [[0, 1, 2], [1, 2, 3], [0, 3]] (by omega) (by decide) (qok_of (by decide +kernel))
    · exact q _ 3 [[0, 1, 2], [0, 1], [2]] (by omega) (by decide) (qok_of (by decide +kernel))
    · exact q _ 2 [[0, 1], [0, 1]] (by omega) (by decide) (qok_of (by decide +kernel))
  · refine ⟨4, rfl, by omega, by omega, by omega, fun m2 a hm2 ha0 ha1 => ?_⟩
    refine ⟨4, rfl, by omega, by omega, by omega, fun m3 b hm3 hb0 hb1 => ?_⟩
    obtain ⟨n, hn⟩ : ∃ n : Nat, 1 + a = (n : Int) := ⟨(1 + a).toNat, by omega⟩
    simp only [hn]
    refine ⟨by omega, by omega, ?_⟩
    refine loop_inv (fun ds mm δ => ∃ (os : List (List Int)) (x kn : DL.Slot), mm ≤ m3 + 6 * os.length ∧ os.length + ds.length = (1 + b).toNat ∧ (∀ ns ∈ os, ns.length ≤ 3 ∧ ns.Pairwise (· < ·) ∧ ns ≠ [] ∧ ∀ a ∈ ns, 0 ≤ a ∧ a < (n : Int)) ∧ δ = [.val .rng, kn, .val (.int n), .own (os.map fun ns => D.tup (ns.map D.int)), x, .no, .no, .no]) _ _ _ ⟨[], .no, _, by omega, by rw [ups_length]; simp, by simp, rfl⟩ ?_ ?_
    · rintro d ds mm δ k ⟨os, x, kn, h1, h2, h3, rfl⟩ hk
      simp only [List.length_cons] at h2
      simp
      refine ⟨n, rfl, by omega, by omega, by omega, fun m4 ns hm4 hu hne hl3 hb => ⟨by rw [sizeLine_eq]; omega, hk _ _ ⟨os ++ [ns], .val d, kn, by rw [List.length_append]; simp; omega, by rw [List.length_append]; simp; omega, ?_, by simp⟩⟩⟩
      intro z hz
      rcases List.mem_append.mp hz with hz | hz
      · exact h3 z hz
      · simp at hz; subst hz; exact ⟨hl3, hu, hne, hb⟩
    · rintro mm δ ⟨os, x, kn, h1, h2, h3, rfl⟩
      simp at h2
      simp
      refine ⟨by omega, ?_⟩
      refine lc_map (fLack os) _ _ (fun d hd K hK => ?_) ?_
      · obtain ⟨a, _, rfl⟩ := List.mem_map.mp hd
        simp
        refine lc_map (fIn a) _ _ (fun z hz K2 hK2 => ?_) ?_
        · obtain ⟨ns, hns, rfl⟩ := List.mem_map.mp hz
          simp [all_fl]
          simp [fIn] at hK2
          split
          · rename_i h; rw [if_pos h] at hK2; exact hK2
          · rename_i h; rw [if_neg h] at hK2; exact hK2
        · rw [List.nil_append, fm_in]
          refine ⟨shp_lsti _, ?_⟩
          rw [eqv_nil]
          simp [fLack] at hK ⊢
          split
          · rename_i h; rw [if_pos h] at hK; exact hK
          · rename_i h; rw [if_neg h] at hK; exact hK
      · rw [List.nil_append, ups0_ints, fm_lack]
        have hl4 : ((((List.range n).map fun a : Nat => (a : Int)).filter fun a => (os.filter fun ns => decide (a ∈ ns)).isEmpty)).length ≤ 4 := by
          refine Nat.le_trans (List.length_filter_le _ _) ?_
          rw [List.length_map, List.length_range]; omega
        have hlow : ∀ a ∈ ((List.range n).map fun a : Nat => (a : Int)), 0 ≤ a ∧ a < (n : Int) := fun a ha => by
          obtain ⟨b, hb, rfl⟩ := List.mem_map.mp ha
          have := List.mem_range.mp hb
          omega
        have hup : (((List.range n).map fun a : Nat => (a : Int)).filter fun a => (os.filter fun ns => decide (a ∈ ns)).isEmpty).Pairwise (· < ·) := by
          refine List.Pairwise.filter _ ?_
          rw [List.pairwise_map]
          exact List.pairwise_lt_range.imp fun h => by omega
        have hcov : ∀ a : Int, 0 ≤ a → a < (n : Int) → (∃ ns ∈ os, a ∈ ns) ∨ a ∈ (((List.range n).map fun a : Nat => (a : Int)).filter fun a => (os.filter fun ns => decide (a ∈ ns)).isEmpty) := fun a h0 h1 => by
          by_cases hh : (os.filter fun ns => decide (a ∈ ns)).isEmpty = true
          · exact .inr (List.mem_filter.mpr ⟨List.mem_map.mpr ⟨a.toNat, List.mem_range.mpr (by omega), by omega⟩, hh⟩)
          · rw [List.isEmpty_iff] at hh
            obtain ⟨ns, hns⟩ := List.exists_mem_of_ne_nil _ hh
            obtain ⟨z1, z2⟩ := List.mem_filter.mp hns
            exact .inl ⟨ns, z1, by simpa using z2⟩
        have hfil : ∀ a ∈ (((List.range n).map fun a : Nat => (a : Int)).filter fun a => (os.filter fun ns => decide (a ∈ ns)).isEmpty), 0 ≤ a ∧ a < (n : Int) := fun a ha => hlow a (List.mem_filter.mp ha).1
        generalize hlk : (((List.range n).map fun a : Nat => (a : Int)).filter fun a => (os.filter fun ns => decide (a ∈ ns)).isEmpty) = lack at hl4 hup hcov hfil ⊢
        refine ⟨shp_lsti _, ?_⟩
        rw [eqv_nil]
        have hL : 1000 ≤ sizeLine := by rw [sizeLine_eq]; omega
        by_cases he : lack = []
        · subst he
          simp
          refine ⟨by omega, by omega, q _ _ os (by omega) (by omega) ⟨by omega, by omega, by omega, by omega, fun ns hn => (h3 ns hn).2.1, fun ns hn => (h3 ns hn).2.2.1, fun ns hn => by have := (h3 ns hn).1; omega, fun ns hn => (h3 ns hn).2.2.2, fun a h0 h1 => ?_⟩⟩
          rcases hcov a h0 h1 with h | h
          · exact h
          · cases h
        · have hi : (lack.map D.int).isEmpty = false := by
            cases lack with
            | nil => exact absurd rfl he
            | cons a b => rfl
          rw [hi]
          simp
          refine ⟨by omega, by omega, by omega, ?_⟩
          have e := q mm n (os ++ [lack]) (by omega) (by omega) ⟨by omega, by omega, by rw [List.length_append]; simp, by rw [List.length_append]; simp; omega, fun ns hn => ?_, fun ns hn => ?_, fun ns hn => ?_, fun ns hn => ?_, fun a h0 h1 => ?_⟩
          · rw [qD, List.map_append] at e
            exact e
          · rcases List.mem_append.mp hn with h | h
            · exact (h3 ns h).2.1
            · rw [List.mem_singleton.mp h]; exact hup
          · rcases List.mem_append.mp hn with h | h
            · exact (h3 ns h).2.2.1
            · rw [List.mem_singleton.mp h]; exact he
          · rcases List.mem_append.mp hn with h | h
            · have := (h3 ns h).1; omega
            · rw [List.mem_singleton.mp h]; exact hl4
          · rcases List.mem_append.mp hn with h | h
            · exact (h3 ns h).2.2.2
            · rw [List.mem_singleton.mp h]; exact hfil
          · rcases hcov a h0 h1 with ⟨ns, z1, z2⟩ | h
            · exact ⟨ns, List.mem_append_left _ z1, z2⟩
            · exact ⟨lack, List.mem_append_right _ (List.mem_singleton.mpr rfl), h⟩
end WK03

namespace WK03
open PySem L2 DL
/-- a bent value: item is of depth below k -/
def S_bent : Nat → Spd
  | 0 => fun _ _ _ _ => False
  | k + 1 => fun ds m Q _ => ∃ w d, ds = [.rng, d] ∧ 3 ≤ w ∧ w ≤ 40 ∧ good w k d ∧ m + 10 * (k + 2) < CAP ∧ ∀ m' x, m' ≤ m + 6 * (k + 1) → good (w + 1) (k + 3) x → Q m' x
/-- .. of depth below k, whatever it is -/
def S_bentU (k : Nat) : Spd := fun ds m Q ε => ∃ j, j ≤ k ∧ S_bent j ds m Q ε
theorem no_bent : ∀ ds m Q ε, ¬ S_bentU 0 ds m Q ε := by
  rintro ds m Q ε ⟨j, hj, h⟩
  cases j with
  | zero => exact h
  | succ j => omega
theorem p_bent1 (S : Spd) (k : Nat) (hS : ∀ ds m Q ε, S_bent k ds m Q ε → S ds m Q ε) (ε : Nat → Str → Prop) (ds : List D) (m : Nat) (Q : Nat → D → Prop) (hl : ds.length = 2) (h : S_bent (k + 1) ds m Q ε) : r__law_cj_bent S_draw S_odd S S_whole S_pick ε { nx := fun m _ => Q m .non, rt := Q } m (params ["state", "item", "at", "way"] ds) := by
  obtain ⟨w, d, rfl, hw3, hw, hg, hm, q⟩ := h
  have hc : CAP = 1099511627776 := rfl
  have ht := good_typed hg
  have odd : ∀ m1, m1 ≤ m + 2 → S_odd [.rng] m1 Q ε := fun m1 h1 => ⟨rfl, by omega, fun m' x hm' hx => q m' x (by omega) (good_up (by omega) (by omega) hx)⟩
  unfold r__law_cj_bent
  cases d with
  | tup es =>
    cases k with
    | zero => exact hg.elim
    | succ k =>
      simp
      split
      · exact odd _ (by omega)
      · rename_i hne
        have hpos : 0 < es.length := List.length_pos_iff.mpr hne
        have hle := hg.1
        refine ⟨9, rfl, by omega, by omega, by omega, fun m1 r hm1 h0 h1 => ?_⟩
        simp
        split
        · exact odd _ (by omega)
        · refine ⟨es.length, rfl, by omega, by omega, by omega, fun m2 i hm2 hi0 hi1 => ?_⟩
          refine ⟨8, rfl, by omega, by omega, by omega, fun m3 wy hm3 hy0 hy1 => ?_⟩
          have hL : 1000 ≤ sizeLine := by rw [sizeLine_eq]; omega
          have mem : ∀ (xs : List D), (∀ x ∈ xs, x ∈ es) → ∀ x ∈ xs, good (w + 1) (k + 3) x := fun xs h x hx => good_up (by omega) (by omega) (hg.2 x (h x hx))
          have c1 : cutD es none (some i) = es.take i.toNat := cut_to es hi0
          have c2 : cutD es (some (i + 1)) none = es.drop (i + 1).toNat := cut_from es (by omega)
          have c3 : cutD es (some i) none = es.drop i.toNat := cut_from es hi0
          have c4 := cut_mid es hi0 (show 0 ≤ i + 1 by omega)
          have t1 : (es.take i.toNat).length ≤ i.toNat := by simp; omega
          have t2 : (es.drop (i + 1).toNat).length = es.length - (i.toNat + 1) := by simp; omega
          have t3 : (es.drop i.toNat).length = es.length - i.toNat := by simp
          obtain ⟨d, hd, hde⟩ := atI_nat hi0 hi1
          simp [c1, c2, c3, c4, hd]
          have gd : good w k d := hg.2 d hde
          have fin : ∀ (m' : Nat) (xs : List D), m' ≤ m + 6 * (k + 1 + 1) → xs.length ≤ w + 1 → (∀ x ∈ xs, good (w + 1) (k + 3) x) → Q m' (.tup xs) := fun m' xs hm' hx h => q m' _ hm' ⟨hx, h⟩
          have into : ∀ (m' : Nat) (x : D), m' ≤ m + 6 * (k + 1 + 1) → good (w + 1) (k + 3) x → Q m' (.tup (es.take i.toNat ++ x :: es.drop (i + 1).toNat)) := fun m' x hm' hx =>
            fin m' _ hm' (by rw [List.length_append, List.length_cons]; omega) fun y hy => by
              rcases List.mem_append.mp hy with h | h
              · exact mem _ (fun x hx => List.mem_of_mem_take hx) _ h
              · rcases List.mem_cons.mp h with h | h
                · exact h ▸ hx
                · exact mem _ (fun x hx => List.mem_of_mem_drop hx) _ h
          have gall : ∀ x ∈ es, good (w + 1) (k + 3) x := mem es fun _ h => h
          have last : ∀ m', m' ≤ m + 6 * (k + 1 + 1) → if wy = 7 then Q m' (D.tup es.reverse) else Q m' (D.lst es) := fun m' hm' => by
            split
            · exact fin m' _ hm' (by rw [List.length_reverse]; omega) fun x hx => gall x (List.mem_reverse.mp hx)
            · exact q m' _ hm' ⟨by omega, gall⟩
          split
          · exact hS _ _ _ _ ⟨w, d, rfl, hw3, hw, gd, by omega, fun m' x hm' hx => ⟨by omega, by omega, by omega, into m' x (by omega) hx⟩⟩
          split
          · refine ⟨by omega, fin _ _ (by omega) (by rw [List.length_append]; omega) fun x hx => ?_⟩
            rcases List.mem_append.mp hx with h | h
            · exact gall _ (List.mem_of_mem_take h)
            · exact gall _ (List.mem_of_mem_drop h)
          split
          · refine ⟨by omega, by omega, fin _ _ (by omega) (by simp only [List.length_append, List.length_take, List.length_drop]; omega) fun x hx => ?_⟩
            rcases List.mem_append.mp hx with h | h
            · exact gall _ (List.mem_of_mem_take h)
            rcases List.mem_append.mp h with h | h
            · exact gall _ (List.mem_of_mem_drop (List.mem_of_mem_take h))
            · exact gall _ (List.mem_of_mem_drop h)
          split
          · refine ⟨d, rfl, good_typed gd, ?_⟩
            cases d with
            | int v =>
              simp [isWhole]
              refine ⟨_, .inl rfl, by simp, by simp, by omega, fun m' x hm' hx => ?_⟩
              simp at hx
              rcases hx with rfl | rfl <;> exact ⟨by omega, by omega, by omega, into m' _ (by omega) trivial⟩
            | _ => simpa [isWhole] using last m3 (by omega)
          · exact last m3 (by omega)
  | _ => simp [D.typed] at ht <;> (simp; exact odd _ (by omega))
theorem p_bent (k : Nat) (ε : Nat → Str → Prop) (ds : List D) (m : Nat) (Q : Nat → D → Prop) (hl : ds.length = 2) (h : S_bentU (k + 1) ds m Q ε) : r__law_cj_bent S_draw S_odd (S_bentU k) S_whole S_pick ε { nx := fun m _ => Q m .non, rt := Q } m (params ["state", "item", "at", "way"] ds) := by
  obtain ⟨j, hj, h⟩ := h
  cases j with
  | zero => exact h.elim
  | succ j => exact p_bent1 (S_bentU k) j (fun ds m Q ε h => ⟨j, by omega, h⟩) ε ds m Q hl h
end WK03

namespace WK03
open PySem L2 DL
/-! ### rows, tables, stores -/
def isRow (w : Nat) : D → Bool
  | .tup ds => decide (ds.length = w) && ds.all (isNum 0)
  | _ => false
def isTab (w : Nat) : D → Bool
  | .tup ds => ds.all (isRow w) && (match D.rows ds with | some rs => decide (rowUp rs) | none => false)
  | _ => false
def isSto (os : List (List Int)) : D → Bool
  | .tup ts => decide (ts.length = os.length) && (os.zip ts).all fun p => isTab p.1.length p.2
  | _ => false
def S_row : Spd := fun ds m Q _ => ∃ w n d, ∃ k : Nat, ds = [d, .int k] ∧ good w n d ∧ Q m (.bl (isRow k d))
def S_tab : Spd := fun ds m Q _ => ∃ w n d, ∃ k : Nat, ds = [d, .int k] ∧ good w n d ∧ Q m (.bl (isTab k d))
def S_sto : Spd := fun ds m Q _ => ∃ w n many os v, ds = [qD many os, v] ∧ Qok many os ∧ good w n v ∧ Q m (.bl (isSto os v))
def S_needS : Spd := fun ds m Q ε => ∃ w n many os v, ds = [qD many os, v] ∧ Qok many os ∧ good w n v ∧ (isSto os v = true → Q m .non) ∧ (isSto os v = false → ε m "BadStore")
theorem p_row (ε : Nat → Str → Prop) (ds : List D) (m : Nat) (Q : Nat → D → Prop) (hl : ds.length = 2) (h : S_row ds m Q ε) : r_is_row S_num ε { nx := fun m _ => Q m .non, rt := Q } m (params ["value", "wide", "item"] ds) := by
  obtain ⟨w, n, d, k, rfl, hg, q⟩ := h
  have ht := good_typed hg
  simp [r_is_row]
  cases d <;> simp [D.typed, isRow] at ht q ⊢ <;> try assumption
  rename_i ds
  cases n with
  | zero => exact hg.elim
  | succ n =>
    by_cases hk : ds.length = k
    · rw [if_pos (by omega)]
      refine lc_bl (isNum 0) (fun d hd K hk => ?_) ?_
      · simp
        exact ⟨d, 0, rfl, good_typed (hg.2 d hd), hk⟩
      · refine ⟨_, bls_id _, ?_⟩
        simpa [hk] using q
    · rw [if_neg (by omega)]
      simpa [hk] using q
theorem row_of {k : Nat} {d : D} (h : isRow k d = true) : ∃ ns : List Int, d = rowD ns ∧ ns.length = k ∧ ∀ n ∈ ns, 0 ≤ n ∧ n < 1000000000000000000 := by
  cases d <;> simp only [isRow] at h <;> first | cases h | skip
  rw [Bool.and_eq_true, decide_eq_true_iff] at h
  obtain ⟨ns, rfl, hn⟩ := nums_of h.2
  exact ⟨ns, rfl, by rw [← h.1, List.length_map], hn⟩
theorem rows_ok {k : Nat} : ∀ {ds : List D}, ds.all (isRow k) = true → ∃ rs : List (List Int), ds = rs.map rowD ∧ ∀ r ∈ rs, r.length = k ∧ ∀ n ∈ r, 0 ≤ n ∧ n < 1000000000000000000
  | [], _ => ⟨[], rfl, fun _ h => by cases h⟩
  | d :: ds, h => by
    rw [List.all_cons, Bool.and_eq_true] at h
    obtain ⟨r, rfl, h1⟩ := row_of h.1
    obtain ⟨rs, rfl, h2⟩ := rows_ok h.2
    exact ⟨r :: rs, rfl, fun x hx => by
      rcases List.mem_cons.mp hx with rfl | hx
      · exact h1
      · exact h2 x hx⟩
theorem tab_of {k : Nat} {d : D} (h : isTab k d = true) : ∃ rs : List (List Int), d = .tup (rs.map rowD) ∧ rowUp rs ∧ ∀ r ∈ rs, r.length = k ∧ ∀ n ∈ r, 0 ≤ n ∧ n < 1000000000000000000 := by
  cases d <;> simp only [isTab] at h <;> first | cases h | skip
  rw [Bool.and_eq_true] at h
  obtain ⟨rs, rfl, h1⟩ := rows_ok h.1
  rw [rows_of] at h
  exact ⟨rs, rfl, of_decide_eq_true h.2, h1⟩
theorem rowUp_zip : ∀ rs : List (List Int), ((rs.zip (rs.drop 1)).all fun p => HT.lexLt p.1 p.2) = decide (rowUp rs)
  | [] => rfl
  | [r] => by simp [rowUp]
  | r :: r' :: rs => by
    have ih := rowUp_zip (r' :: rs)
    simp only [List.drop_succ_cons, List.drop_zero, List.zip_cons_cons, List.all_cons] at ih ⊢
    rw [ih, Bool.eq_iff_iff]
    simp only [Bool.and_eq_true, decide_eq_true_iff, rowUp, List.pairwise_cons]
    constructor
    · rintro ⟨h1, h2, h3⟩
      refine ⟨fun a ha => ?_, h2, h3⟩
      rcases List.mem_cons.mp ha with rfl | ha
      · exact h1
      · exact lex_tr h1 (h2 a ha)
    · rintro ⟨h1, h2, h3⟩
      exact ⟨h1 r' List.mem_cons_self, h2, h3⟩
theorem p_tab (ε : Nat → Str → Prop) (ds : List D) (m : Nat) (Q : Nat → D → Prop) (hl : ds.length = 2) (h : S_tab ds m Q ε) : r_is_table S_row ε { nx := fun m _ => Q m .non, rt := Q } m (params ["value", "wide", "one", "other", "row"] ds) := by
  obtain ⟨w, n, d, k, rfl, hg, q⟩ := h
  have ht := good_typed hg
  simp [r_is_table]
  cases d <;> simp [D.typed, isTab] at ht q ⊢ <;> try assumption
  rename_i ds
  cases n with
  | zero => exact hg.elim
  | succ n =>
    refine lc_bl (isRow k) (fun d hd K hk => ?_) ?_
    · simp
      exact ⟨w, n, d, k, rfl, hg.2 d hd, hk⟩
    · refine ⟨_, bls_id _, ?_⟩
      cases ha : ds.all (isRow k) with
      | false =>
        rw [if_pos (by
          rw [List.all_eq_false] at ha
          obtain ⟨x, hx, h0⟩ := ha
          exact List.mem_map.mpr ⟨x, hx, by simpa using h0⟩)]
        rw [ha] at q
        exact q
      | true =>
        rw [if_neg (by
          intro hm
          obtain ⟨x, hx, h0⟩ := List.mem_map.mp hm
          have := List.all_eq_true.mp ha x hx
          rw [this] at h0; cases h0)]
        obtain ⟨rs, rfl, hn⟩ := rows_ok ha
        rw [ha, rows_of] at q
        simp at q
        refine lc_bl (fun d => match d with | .tpw [.tup a, .tup b] => (match D.ints a, D.ints b with | some x, some y => HT.lexLt x y | _, _ => false) | _ => false) (fun d hd K hk => ?_) ?_
        · obtain ⟨p, hp, rfl⟩ := List.mem_map.mp hd
          obtain ⟨a, b⟩ := p
          have h1 := (List.of_mem_zip hp).1
          have h2 := List.mem_of_mem_tail (List.of_mem_zip hp).2
          obtain ⟨i, _, rfl⟩ := List.mem_map.mp h1
          obtain ⟨j, _, rfl⟩ := List.mem_map.mp h2
          simp at hk
          simp
          exact hk
        · refine ⟨_, bls_id _, ?_⟩
          have e : ((zipD (rs.map rowD) (rs.map rowD).tail).map fun d => match d with | .tpw [.tup a, .tup b] => (match D.ints a, D.ints b with | some x, some y => HT.lexLt x y | _, _ => false) | _ => false).all id = decide (rowUp rs) := by
            rw [← rowUp_zip rs]
            unfold zipD
            rw [← List.map_tail, ← List.drop_one]
            simp only [List.zip_map, List.map_map, List.all_map]
            congr 1
            funext p
            simp
          rw [e]
          exact q
end WK03

namespace WK03
open PySem L2 DL
theorem need_ok {many : Int} {os : List (List Int)} (h : Qok many os) {m : Nat} {K : Nat → D → Prop} {ε : Nat → Str → Prop} (q : K m .non) : S_need [qD many os] m K ε :=
  ⟨6, 3, _, rfl, h.good, fun _ => q, fun e => by rw [h.isQ] at e; cases e⟩
theorem q_at1 (many : Int) (os : List (List Int)) : atI [D.int many, .tup (os.map rowD)] 1 = some (.tup (os.map rowD)) := by simp [atI, ixN]
theorem q_at0 (many : Int) (os : List (List Int)) : atI [D.int many, .tup (os.map rowD)] 0 = some (.int many) := by simp [atI, ixN]
/-- what zip gives of the atoms and a store's tables -/
theorem zip_all {os : List (List Int)} {ts : List D} (f : Nat → D → Bool) : ((zipD (os.map rowD) ts).map fun d => match d with | .tpw [.tup a, t] => f a.length t | _ => false).all id = (os.zip ts).all fun p => f p.1.length p.2 := by
  unfold zipD
  rw [List.zip_map_left, List.map_map, List.map_map, List.all_map]
  congr 1
  funext p
  simp
theorem p_sto (ε : Nat → Str → Prop) (ds : List D) (m : Nat) (Q : Nat → D → Prop) (hl : ds.length = 2) (h : S_sto ds m Q ε) : r_is_store S_need S_tab ε { nx := fun m _ => Q m .non, rt := Q } m (params ["query", "value", "atom", "table"] ds) := by
  obtain ⟨w, n, many, os, v, rfl, hq, hg, q⟩ := h
  have ht := good_typed hg
  unfold r_is_store
  refine x_seq fun B1 n1 r1 _ _ => ?_
  simp
  refine need_ok hq ?_
  rw [n1]
  cases v <;> simp [D.typed, isSto, r1, q_at1] at ht q ⊢ <;> try assumption
  rename_i ts
  cases n with
  | zero => exact hg.elim
  | succ n =>
    by_cases hk : ts.length = os.length
    · rw [if_pos (by omega)]
      refine lc_bl (fun d => match d with | .tpw [.tup a, t] => isTab a.length t | _ => false) (fun d hd K hk => ?_) ?_
      · obtain ⟨p, hp, rfl⟩ := List.mem_map.mp hd
        obtain ⟨a, b⟩ := p
        obtain ⟨ns, hns, rfl⟩ := List.mem_map.mp (List.of_mem_zip hp).1
        have hb := (List.of_mem_zip hp).2
        simp at hk
        simp
        exact ⟨w, n, b, ns.length, rfl, hg.2 b hb, hk⟩
      · refine ⟨_, bls_id _, ?_⟩
        rw [zip_all isTab]
        simpa [hk] using q
    · rw [if_neg (by omega)]
      simpa [hk] using q
theorem p_needS (ε : Nat → Str → Prop) (ds : List D) (m : Nat) (Q : Nat → D → Prop) (hl : ds.length = 2) (h : S_needS ds m Q ε) : r_need_store S_sto ε { nx := fun m _ => Q m .non, rt := Q } m (params ["query", "store"] ds) := by
  obtain ⟨w, n, many, os, v, rfl, hq, hg, h1, h2⟩ := h
  simp [r_need_store]
  refine ⟨w, n, many, os, v, rfl, hq, hg, ?_⟩
  cases e : isSto os v with
  | true => simpa using h1 e
  | false => simpa using h2 e
/-! ### sizes, answers -/
def szD : D → D
  | .tup ds => .int ds.length
  | _ => .non
def szsD : D → List D
  | .tup ts => ts.map szD
  | _ => []
def S_sizes : Spd := fun ds m Q ε => ∃ w n many os v, ds = [qD many os, v] ∧ Qok many os ∧ w ≤ 1000 ∧ good w n v ∧ (isSto os v = true → Q m (.tup (szsD v))) ∧ (isSto os v = false → ε m "BadStore")
def S_work : Spd := fun ds m Q ε => ∃ w n many os v, ds = [qD many os, v] ∧ Qok many os ∧ w ≤ 1000 ∧ good w n v ∧ isSto os v = false ∧ ε m "BadStore"
def St_work (f : Str) : Option Spd := if f ∈ (["answers", "sizes"] : List Str) then some S_work else none
theorem work_sizes (ds : List D) (m : Nat) (Q : Nat → D → Prop) (ε : Nat → Str → Prop) (h : S_work ds m Q ε) : S_sizes ds m Q ε := by
  obtain ⟨w, n, many, os, v, rfl, hq, hw, hg, h1, h2⟩ := h
  exact ⟨w, n, many, os, v, rfl, hq, hw, hg, fun e => (by rw [h1] at e; cases e), fun _ => h2⟩
theorem needS_ok {many : Int} {os : List (List Int)} {v : D} {w n : Nat} (h : Qok many os) (hg : good w n v) {m : Nat} {K : Nat → D → Prop} {ε : Nat → Str → Prop} (q : isSto os v = true → K m .non) (e : isSto os v = false → ε m "BadStore") : S_needS [qD many os, v] m K ε :=
  ⟨w, n, many, os, v, rfl, h, hg, q, e⟩
/-- the tables of a store -/
theorem sto_of {os : List (List Int)} {v : D} (h : isSto os v = true) : ∃ tbs : List (List (List Int)), v = .tup (tbs.map fun rs => .tup (rs.map rowD)) ∧ tbs.length = os.length ∧ ∀ p ∈ os.zip tbs, rowUp p.2 ∧ ∀ r ∈ p.2, r.length = p.1.length ∧ ∀ n ∈ r, 0 ≤ n ∧ n < 1000000000000000000 := by
  cases v <;> simp only [isSto] at h <;> first | cases h | skip
  rename_i ts
  rw [Bool.and_eq_true, decide_eq_true_iff] at h
  obtain ⟨hl, ha⟩ := h
  have key : ∀ (os : List (List Int)) (ts : List D), ts.length = os.length → ((os.zip ts).all fun p => isTab p.1.length p.2) = true → ∃ tbs : List (List (List Int)), ts = tbs.map (fun rs => D.tup (rs.map rowD)) ∧ tbs.length = os.length ∧ ∀ p ∈ os.zip tbs, rowUp p.2 ∧ ∀ r ∈ p.2, r.length = p.1.length ∧ ∀ n ∈ r, 0 ≤ n ∧ n < 1000000000000000000 := by
    intro os
    induction os with
    | nil => intro ts hl _; exact ⟨[], List.eq_nil_of_length_eq_zero hl, rfl, fun p hp => by simp at hp⟩
    | cons o os ih =>
      intro ts hl ha
      cases ts with
      | nil => simp at hl
      | cons t ts =>
        rw [List.zip_cons_cons, List.all_cons, Bool.and_eq_true] at ha
        obtain ⟨rs, rfl, h1, h2⟩ := tab_of ha.1
        obtain ⟨tbs, rfl, h3, h4⟩ := ih ts (by simpa using hl) ha.2
        refine ⟨rs :: tbs, rfl, by simpa using h3, fun p hp => ?_⟩
        rw [List.zip_cons_cons] at hp
        rcases List.mem_cons.mp hp with rfl | hp
        · exact ⟨h1, h2⟩
        · exact h4 p hp
  obtain ⟨tbs, rfl, h⟩ := key os ts hl ha
  exact ⟨tbs, rfl, h⟩
/-! ### need_attribute -/
def isAt (many : Int) (d : D) : Bool := isNum 0 d && match d with | .int i => decide (i < many) | _ => false
def S_needA : Spd := fun ds m Q ε => ∃ many os d, ds = [qD many os, d] ∧ d.typed = true ∧ (isAt many d = true → Q m .non) ∧ (isAt many d = false → ε m "BadAttribute")
end WK03

namespace WK03
open PySem L2 DL
/-! ### values_at -/
abbrev tabD (rs : List (List Int)) : D := .tup (rs.map rowD)
abbrev stD (tbs : List (List (List Int))) : D := .tup (tbs.map tabD)
abbrev pairD (p : List Int × List (List Int)) : D := .tpw [rowD p.1, tabD p.2]
theorem zip_pairs (os : List (List Int)) (tbs : List (List (List Int))) : zipD (os.map rowD) (tbs.map tabD) = (os.zip tbs).map pairD := by
  unfold zipD
  rw [List.zip_map, List.map_map]
  rfl
def colA (a : Int) (ns : List Int) (rs : List (List Int)) : List Int := rs.map fun r => r.getD (ns.idxOf a) 0
def newP (h : List Int) : Option (List Int) → List Int
  | none => h
  | some g => dedI (g.filter fun n => decide (n ∈ h))
def stepP (a : Int) (f : Option (List Int)) (p : List Int × List (List Int)) : Option (List Int) :=
  if a ∈ p.1 then some (newP (dedI (colA a p.1 p.2)) f) else f
def foldP (a : Int) (zs : List (List Int × List (List Int))) : Option (List Int) := zs.foldl (stepP a) none
def valsP (a : Int) (zs : List (List Int × List (List Int))) : List Int := match foldP a zs with | some f => srt f | none => []
def optD : Option (List Int) → D
  | none => .non
  | some f => .dci f
theorem foldP_snoc (a : Int) (zs : List (List Int × List (List Int))) (p : List Int × List (List Int)) : foldP a (zs ++ [p]) = stepP a (foldP a zs) p := by
  unfold foldP; rw [List.foldl_append]; rfl
/-- an item of each row, by its place in the atom -/
def fCol (j : Nat) : D → D
  | .tup es => (es[j]?).getD .non
  | _ => .non
theorem col_map {a : Int} {ns : List Int} (ha : a ∈ ns) : ∀ {rs : List (List Int)}, (∀ r ∈ rs, r.length = ns.length) → (rs.map rowD).map (fCol (ns.idxOf a)) = (colA a ns rs).map D.int
  | [], _ => rfl
  | r :: rs, h => by
    have hl : ns.idxOf a < r.length := by rw [h r List.mem_cons_self]; exact List.idxOf_lt_length_of_mem ha
    have ih := col_map ha (rs := rs) fun r hr => h r (List.mem_cons_of_mem _ hr)
    unfold colA at ih ⊢
    simp only [List.map_cons, ih]
    congr 1
    unfold fCol
    simp [List.getElem?_eq_getElem hl]
theorem at_col {a : Int} {ns r : List Int} (ha : a ∈ ns) (hl : r.length = ns.length) : atI (r.map D.int) ((ns.idxOf a : Nat) : Int) = some (.int (r.getD (ns.idxOf a) 0)) := by
  have hj : ns.idxOf a < (r.map D.int).length := by rw [List.length_map, hl]; exact List.idxOf_lt_length_of_mem ha
  rw [atI_eq hj]
  have hj' : ns.idxOf a < r.length := by rw [hl]; exact List.idxOf_lt_length_of_mem ha
  simp [List.getElem?_eq_getElem hj']
def fIn2 (h : List Int) : D → Option D
  | .int n => if n ∈ h then some (.int n) else none
  | _ => none
theorem fm_in2 (h : List Int) : ∀ g : List Int, (g.map D.int).filterMap (fIn2 h) = (g.filter fun n => decide (n ∈ h)).map D.int
  | [] => rfl
  | n :: g => by
    rw [List.map_cons, List.filter_cons]
    by_cases hn : n ∈ h
    · rw [List.filterMap_cons_some (by show (if _ then _ else _) = _; rw [if_pos hn]), fm_in2 h g, if_pos (decide_eq_true hn)]; rfl
    · rw [List.filterMap_cons_none (by show (if _ then _ else _) = _; rw [if_neg hn]), fm_in2 h g, if_neg (by simpa using hn)]
def valBody : TSd := (rIfS (rTest (rOp dInA (rVar 2) (rVar 4))) (rSeq (rSet 6 (rDc (.one 7) [7] (rItA (rVar 5)) rYes (rOp dIx (rVar 7) (rIdx (rVar 4) (rVar 2))))) (rSet 3 (rIf (rTest (rOp dIs (rVar 3) (rC .non))) (rVar 6) (rDc (.one 8) [8] (rItA (rVar 3)) (rTest (rOp dInA (rVar 8) (rVar 6))) (rVar 8))))) rNext)
theorem val_turn {B : EndsD} {m : Nat} {q v : D} {a : Int} {f : Option (List Int)} {x6 : DL.Slot} {ns : List Int} {rs : List (List Int)} (hr : ∀ r ∈ rs, r.length = ns.length) (hl : rs.length ≤ 60) (hf : ∀ g, f = some g → g.length ≤ 60)
    (hk : ∀ x6, B.nx m [.val q, .val v, .val (.int a), .val (optD (stepP a f (ns, rs))), .val (rowD ns), .val (tabD rs), x6, .no, .no]) :
    valBody B m [.val q, .val v, .val (.int a), .val (optD f), .val (rowD ns), .val (tabD rs), x6, .no, .no] := by
  have hL : 1000 ≤ sizeLine := by rw [sizeLine_eq]; omega
  unfold valBody
  refine x_if fun K hK1 hK2 => ?_
  simp [all_fl, any_in]
  have ei : ns.any ((fun c => c.eqv (D.int a)) ∘ D.int) = decide (a ∈ ns) := by rw [← List.any_map]; exact any_in a ns
  rw [ei]
  by_cases ha : a ∈ ns
  · rw [decide_eq_true ha, hK1]
    have e : stepP a f (ns, rs) = some (newP (dedI (colA a ns rs)) f) := by unfold stepP; rw [if_pos ha]
    rw [e] at hk
    refine x_seq fun B1 n1 _ _ _ => ?_
    refine x_set fun K1 hK => ?_
    simp
    refine lc_tt (fCol (ns.idxOf a)) (fun d hd K hk => ?_) ?_
    · obtain ⟨r, hr', rfl⟩ := List.mem_map.mp hd
      have e2 : fCol (ns.idxOf a) (rowD r) = .int (r.getD (ns.idxOf a) 0) := by
        have := at_col ha (hr r hr')
        have hj' : ns.idxOf a < r.length := by rw [hr r hr']; exact List.idxOf_lt_length_of_mem ha
        unfold fCol
        simp [List.getElem?_eq_getElem hj']
      rw [e2] at hk
      simp
      exact ⟨ha, _, at_col ha (hr r hr'), hk⟩
    · rw [col_map ha hr, ints_back, hK, n1]
      refine x_set fun K2 hK2 => ?_
      cases f with
      | none =>
        simp [optD]
        rw [hK2]
        exact hk _
      | some g =>
        have hg := hf g rfl
        simp [optD]
        refine ⟨by omega, ?_⟩
        refine lc_map (fIn2 (dedI (colA a ns rs))) _ _ (fun d hd K hk => ?_) ?_
        · obtain ⟨n, _, rfl⟩ := List.mem_map.mp hd
          simp [fIn2] at hk ⊢
          by_cases hn : n ∈ dedI (colA a ns rs)
          · rw [if_pos hn] at hk ⊢; exact hk
          · rw [if_neg hn] at hk ⊢; exact hk
        · rw [List.nil_append, fm_in2, ints_back, hK2]
          exact hk _
  · rw [decide_eq_false ha, hK2]
    have e : stepP a f (ns, rs) = f := by unfold stepP; rw [if_neg ha]
    rw [e] at hk
    exact hk _
theorem stepP_len {a : Int} {f : Option (List Int)} {p : List Int × List (List Int)} (hl : p.2.length ≤ 60) (hf : ∀ g, f = some g → g.length ≤ 60) : ∀ g, stepP a f p = some g → g.length ≤ 60 := by
  intro g e
  unfold stepP at e
  split at e
  · cases e
    cases f with
    | none =>
      have := dedI_len (colA a p.1 p.2)
      unfold colA at this ⊢
      rw [List.length_map] at this
      exact Nat.le_trans this hl
    | some h =>
      have h1 := dedI_len (h.filter fun n => decide (n ∈ dedI (colA a p.1 p.2)))
      have h2 := List.length_filter_le (fun n => decide (n ∈ dedI (colA a p.1 p.2))) h
      have h3 := hf h rfl
      exact Nat.le_trans h1 (Nat.le_trans h2 h3)
  · exact hf g e
theorem vals_loop {B : EndsD} {m : Nat} {q v : D} {a : Int} : ∀ (qs ps : List (List Int × List (List Int))) (x4 x5 x6 : DL.Slot), (∀ p ∈ qs, p.2.length ≤ 60 ∧ ∀ r ∈ p.2, r.length = p.1.length) → (∀ g, foldP a ps = some g → g.length ≤ 60) →
    (∀ x4 x5 x6, (∀ g, foldP a (ps ++ qs) = some g → g.length ≤ 60) → B.nx m [.val q, .val v, .val (.int a), .val (optD (foldP a (ps ++ qs))), x4, x5, x6, .no, .no]) →
    rLoop (.many [4, 5]) valBody B (qs.map pairD) m [.val q, .val v, .val (.int a), .val (optD (foldP a ps)), x4, x5, x6, .no, .no]
  | [], ps, x4, x5, x6, _, hf, hk => by rw [List.append_nil] at hk; exact hk x4 x5 x6 hf
  | (ns, rs) :: qs, ps, x4, x5, x6, h, hf, hk => by
    have h0 := h (ns, rs) List.mem_cons_self
    refine ⟨rfl, ?_⟩
    show valBody _ m [.val q, .val v, .val (.int a), .val (optD (foldP a ps)), .val (rowD ns), .val (tabD rs), x6, .no, .no]
    refine val_turn h0.2 h0.1 hf fun x6 => ?_
    rw [← foldP_snoc]
    refine vals_loop qs (ps ++ [(ns, rs)]) _ _ _ (fun p hp => h p (List.mem_cons_of_mem _ hp)) ?_ fun x4 x5 x6 hf' => ?_
    · rw [foldP_snoc]
      exact stepP_len h0.1 hf
    · rw [List.append_assoc] at hf' ⊢
      exact hk x4 x5 x6 hf'
def S_vals : Spd := fun ds m Q ε => ∃ w n many os v d, ds = [qD many os, v, d] ∧ Qok many os ∧ w ≤ 60 ∧ good w n v ∧ d.typed = true ∧ (isSto os v = false → ε m "BadStore") ∧ (isSto os v = true → isAt many d = false → ε m "BadAttribute") ∧
  ∀ tbs a, v = stD tbs → d = .int a → isSto os v = true → isAt many d = true → Q m (.tup ((valsP a (os.zip tbs)).map .int))
theorem foldP_some {a : Int} : ∀ (zs : List (List Int × List (List Int))) (f : Option (List Int)), (f.isSome = true ∨ ∃ p ∈ zs, a ∈ p.1) → (zs.foldl (stepP a) f).isSome = true
  | [], f, h => by
    rcases h with h | ⟨p, hp, _⟩
    · exact h
    · cases hp
  | z :: zs, f, h => by
    rw [List.foldl_cons]
    refine foldP_some zs _ ?_
    by_cases ha : a ∈ z.1
    · left; unfold stepP; rw [if_pos ha]; rfl
    · have e : stepP a f z = f := by unfold stepP; rw [if_neg ha]
      rw [e]
      rcases h with h | ⟨p, hp, h⟩
      · exact .inl h
      · rcases List.mem_cons.mp hp with rfl | hp
        · exact absurd h ha
        · exact .inr ⟨p, hp, h⟩
theorem zip_has {os : List (List Int)} {tbs : List (List (List Int))} (hl : tbs.length = os.length) {ns : List Int} (h : ns ∈ os) : ∃ p ∈ os.zip tbs, p.1 = ns := by
  obtain ⟨i, hi, e⟩ := List.getElem_of_mem h
  have hj : i < (os.zip tbs).length := by rw [List.length_zip]; omega
  exact ⟨(os.zip tbs)[i], List.getElem_mem hj, by rw [List.getElem_zip]; exact e⟩
end WK03

namespace WK03
open PySem L2 DL
/-! ### rows under == -/
theorem py_rows : ∀ rs : List (List Int), D.pyL (rs.map rowD) = rs.map fun r => PyData.tuple (r.map .int)
  | [] => rfl
  | r :: rs => by
    show (rowD r).py :: D.pyL (rs.map rowD) = _
    rw [py_rows rs, show (rowD r).py = PyData.tuple (D.pyL (r.map .int)) from rfl, py_ints]
    rfl
theorem eqvs_rows : ∀ rs qs : List (List Int), PyData.eqvAll (rs.map fun r => PyData.tuple (r.map .int)) (qs.map fun r => PyData.tuple (r.map .int)) = decide (rs = qs)
  | [], [] => by simp [PyData.eqvAll]
  | [], q :: qs => by simp [PyData.eqvAll]
  | r :: rs, [] => by simp [PyData.eqvAll]
  | r :: rs, q :: qs => by
    simp only [List.map_cons, PyData.eqvAll, eqvs_rows rs qs, PyData.eqv, eqvs_ints, List.cons.injEq]
    by_cases h : r = q <;> simp [h]
theorem eqv_rows (rs qs : List (List Int)) : (D.lst (rs.map rowD)).eqv (.lst (qs.map rowD)) = decide (rs = qs) := by
  unfold D.eqv D.py
  rw [py_rows, py_rows]
  unfold PyData.eqv
  exact eqvs_rows rs qs
theorem shq_row (r : List Int) : (rowD r).shq = true := by
  unfold D.shq
  rw [show (rowD r).py = PyData.tuple (D.pyL (r.map .int)) from rfl, py_ints, Bool.and_eq_true, decide_eq_true_iff]
  refine ⟨ints_lay r, ?_⟩
  show PyData.depthAll (r.map .int) + 1 ≤ 63
  rw [ints_depth]; decide
theorem shp_rows (rs : List (List Int)) : (D.lst (rs.map rowD)).shp = true := shp_lst fun x hx => by
  obtain ⟨r, _, rfl⟩ := List.mem_map.mp hx
  exact shq_row r
/-! ### the law's own reading of stores -/
def fBad (d : D) : Option D := if isNum 0 d then none else some (.int 1)
theorem fm_bad : ∀ ds : List D, ds.filterMap fBad = ((ds.filter fun d => !isNum 0 d).map fun _ => (1 : Int)).map D.int
  | [] => rfl
  | d :: ds => by
    rw [List.filter_cons]
    cases e : isNum 0 d with
    | true => rw [List.filterMap_cons_none (by unfold fBad; rw [e]; rfl), fm_bad ds]; simp
    | false => rw [List.filterMap_cons_some (b := .int 1) (by unfold fBad; rw [e]; rfl), fm_bad ds]; simp
theorem isRow_tup (k : Nat) (ds : List D) : isRow k (.tup ds) = (decide (ds.length = k) && ds.all (isNum 0)) := rfl
def rowBody : TSd := (rSeq (rIfS (rOr (rNot (rTru (rCall dIsi (rCons (rVar 4) (rCons (rC (.ty "tuple")) rNil))))) (rTest (rOp dNe (rCall dLenA (rCons (rVar 4) rNil)) (rCall dLenA (rCons (rVar 2) rNil))))) (rRet (rC (.bl false))) rNext) (rIfS (rTest (rOp dNe (rL (rLc (.one 5) [5] (rIt (rVar 4)) (rOr (rNot (rTru (rFn 1 S_whole (fun _ _ => False) (rCons (rVar 5) rNil)))) (rOr (rTest (rOp dLt (rVar 5) (rC (.int 0)))) (rTest (rOp dGe (rVar 5) (rC (.int 1000000000000000000)))))) (rC (.int 1)))) (rLst rNil))) (rRet (rC (.bl false))) rNext))
theorem isTab_tup (k : Nat) (ds : List D) : isTab k (.tup ds) = (ds.all (isRow k) && (match D.rows ds with | some rs => decide (rowUp rs) | none => false)) := rfl
def tabBody : TSd := (rSeq (rIfS (rNot (rTru (rCall dIsi (rCons (rVar 3) (rCons (rC (.ty "tuple")) rNil))))) (rRet (rC (.bl false))) rNext) (rSeq (rFor (.one 4) (rIt (rVar 3)) rowBody) (rIfS (rTest (rOp dNe (rCall dList (rCons (rVar 3) rNil)) (rSortSet (rVar 3)))) (rRet (rC (.bl false))) rNext)))
def S_ks : Spd := fun ds m Q _ => ∃ w n many os v, ds = [qD many os, v] ∧ Qok many os ∧ w ≤ 60 ∧ good w n v ∧ Q m (.bl (isSto os v))
end WK03

namespace WK03
open PySem L2 DL
/-- a comprehension each of whose items draws once -/
theorem lc_each {τ : Tgt} {te : TD} {δ : DL.Env} {Q : Nat → List D → Prop} (P : D → Prop) {M : Nat} : ∀ (ds acc : List D) (m : Nat), m + ds.length ≤ M → (∀ d ∈ ds, ∀ (m : Nat) (K : Nat → D → Prop), m < M → (∀ m' y, m' ≤ m + 1 → P y → K m' y) → gD τ d δ fun δ2 => te m δ2 K) →
    (∀ m' ys, m' ≤ m + ds.length → ys.length = ds.length → (∀ y ∈ ys, P y) → Q m' (acc ++ ys)) → rLcGo τ rYes te ds acc m δ Q
  | [], acc, m, _, _, q => by
    have := q m [] (by simp) rfl (fun y hy => by cases hy)
    rw [List.append_nil] at this
    exact this
  | d :: ds, acc, m, hm, h, q => by
    simp only [List.length_cons] at hm q
    unfold rLcGo
    simp only [rYes, if_true]
    refine h d List.mem_cons_self m _ (by omega) fun m' y hm' hy => ?_
    refine lc_each P ds (acc ++ [y]) m' (by omega) (fun c hc => h c (List.mem_cons_of_mem _ hc)) fun m2 ys h2 hl hp => ?_
    rw [List.append_assoc]
    refine q m2 (y :: ys) (by omega) (by rw [List.length_cons, hl]) fun z hz => ?_
    rcases List.mem_cons.mp hz with rfl | hz
    · exact hy
    · exact hp z hz
theorem ints_ex {p : Int → Prop} : ∀ {ys : List D}, (∀ y ∈ ys, ∃ a, y = .int a ∧ p a) → ∃ ns : List Int, ys = ns.map .int ∧ ∀ a ∈ ns, p a
  | [], _ => ⟨[], rfl, fun _ h => by cases h⟩
  | y :: ys, h => by
    obtain ⟨a, rfl, ha⟩ := h y List.mem_cons_self
    obtain ⟨ns, rfl, hn⟩ := ints_ex fun z hz => h z (List.mem_cons_of_mem _ hz)
    exact ⟨a :: ns, rfl, fun b hb => by
      rcases List.mem_cons.mp hb with rfl | hb
      · exact ha
      · exact hn b hb⟩
/-- a drawn table, a drawn store -/
structure Tab1 (most top w : Nat) (rs : List (List Int)) : Prop where
  up : rowUp rs
  few : rs.length ≤ most
  row : ∀ r ∈ rs, r.length = w ∧ ∀ a ∈ r, 0 ≤ a ∧ a < (top : Int) + 7
structure Tok (most top : Nat) (os : List (List Int)) (tbs : List (List (List Int))) : Prop where
  len : tbs.length = os.length
  tab : ∀ p ∈ os.zip tbs, Tab1 most top p.1.length p.2
def cjRow : TSd := rApp 7 (rCall dTuple (rCons (rL (rLc (.one 9) [9] (rIt (rVar 6)) rYes (rOp dAdd (rFn 2 S_draw (fun _ _ => False) (rCons (rVar 0) (rCons (rVar 3) rNil))) (rVar 4)))) rNil))
def cjTab (ε : Nat → Str → Prop) : TSd := (rSeq (rOwn 7 (rLs rNil)) (rSeq (rFor (.one 8) (rRng1 (rCons (rFn 2 S_draw ε (rCons (rVar 0) (rCons (rOp dAdd (rVar 2) (rC (.int 1))) rNil))) rNil)) cjRow) (rFrz 7 (rApp 5 (rCall dTuple (rCons (rSortSet (rVar 7)) rNil))))))
theorem cj_rows {B : EndsD} {q : D} {most top : Nat} {lift : Int} {fs : List D} {ns : List Int} {M : Nat} (hM : M < CAP) (ht : 1 ≤ top ∧ top ≤ 1000) (hlift : 0 ≤ lift ∧ lift ≤ 7) (hn : ns.length ≤ 4) : ∀ (ds : List D) (m : Nat) (rs : List (List Int)) (x8 : DL.Slot), m + 4 * ds.length ≤ M → rs.length + ds.length ≤ 60 → (∀ r ∈ rs, r.length = ns.length ∧ ∀ a ∈ r, 0 ≤ a ∧ a < (top : Int) + 7) →
    (∀ m' (rs' : List (List Int)) x8, m' ≤ m + 4 * ds.length → rs'.length = rs.length + ds.length → (∀ r ∈ rs', r.length = ns.length ∧ ∀ a ∈ r, 0 ≤ a ∧ a < (top : Int) + 7) → B.nx m' [.val .rng, .val q, .val (.int most), .val (.int top), .val (.int lift), .own fs, .val (rowD ns), .own (rs'.map rowD), x8, .no]) →
    rLoop (.one 8) cjRow B ds m [.val .rng, .val q, .val (.int most), .val (.int top), .val (.int lift), .own fs, .val (rowD ns), .own (rs.map rowD), x8, .no]
  | [], m, rs, x8, _, hl, hr, hk => hk m rs x8 (by simp) (by simp) hr
  | d :: ds, m, rs, x8, hm, hl, hr, hk => by
    simp only [List.length_cons] at hm hl hk
    have hL : 1000 ≤ sizeLine := by rw [sizeLine_eq]; omega
    show cjRow _ m [.val .rng, .val q, .val (.int most), .val (.int top), .val (.int lift), .own fs, .val (rowD ns), .own (rs.map rowD), .val d, .no]
    unfold cjRow
    simp
    refine lc_each (fun y => ∃ a, y = .int a ∧ 0 ≤ a ∧ a < (top : Int) + 7) (M := M) _ _ _ (by rw [List.length_map]; omega) (fun d hd m1 K hm1 hK => ?_) fun m1 ys hm1 hy hp => ?_
    · simp
      refine ⟨(top : Int), rfl, by omega, by omega, by omega, fun m' r hm' h0 h1 => ?_⟩
      exact hK _ _ hm' ⟨_, rfl, by omega, by omega⟩
    · obtain ⟨r, rfl, hp2⟩ := ints_ex hp
      rw [List.length_map, List.length_map] at hy
      rw [List.length_map] at hm1
      refine ⟨by omega, ?_⟩
      have e : rs.map rowD ++ [rowD r] = (rs ++ [r]).map rowD := by rw [List.map_append]; rfl
      rw [List.nil_append, e]
      refine cj_rows hM ht hlift hn ds m1 (rs ++ [r]) _ (by omega) (by rw [List.length_append]; simp; omega) (fun z hz => ?_) fun m' rs' x8 h1 h2 h3 => hk m' rs' x8 (by omega) (by rw [List.length_append] at h2; simp at h2; omega) h3
      rcases List.mem_append.mp hz with hz | hz
      · exact hr z hz
      · rw [List.mem_singleton.mp hz]
        exact ⟨hy, hp2⟩
theorem cj_tab {B : EndsD} {ε : Nat → Str → Prop} {q : D} {most top : Nat} {lift : Int} {fs : List D} {ns : List Int} {m : Nat} {x7 x8 : DL.Slot} (hM : m + 4 * most + 10 < CAP) (hmost : most ≤ 60) (ht : 1 ≤ top ∧ top ≤ 1000) (hlift : 0 ≤ lift ∧ lift ≤ 7) (hn : ns.length ≤ 4) (hne : ns ≠ []) (hfs : fs.length ≤ 100)
    (hk : ∀ m' rs x7 x8, m' ≤ m + 4 * most + 1 → Tab1 most top ns.length rs → B.nx m' [.val .rng, .val q, .val (.int most), .val (.int top), .val (.int lift), .own (fs ++ [tabD rs]), .val (rowD ns), x7, x8, .no]) :
    cjTab ε B m [.val .rng, .val q, .val (.int most), .val (.int top), .val (.int lift), .own fs, .val (rowD ns), x7, x8, .no] := by
  have hL : 1000 ≤ sizeLine := by rw [sizeLine_eq]; omega
  have hc : CAP = 1099511627776 := rfl
  unfold cjTab
  refine x_seq fun B1 n1 r1 _ _ => ?_
  simp
  rw [n1]; clear n1 r1
  refine x_seq fun B2 n2 r2 _ _ => ?_
  refine x_for fun K hK => ?_
  simp
  refine ⟨((most : Int) + 1), rfl, by omega, by omega, by omega, fun m1 r hm1 h0 h1 => ?_⟩
  simp
  refine ⟨by omega, by omega, ?_⟩
  rw [hK]; clear hK
  have hlen : (ups 0 r.toNat).length ≤ most := by rw [ups_length]; omega
  refine cj_rows (M := m1 + 4 * most) (by omega) ht hlift hn (ups 0 r.toNat) m1 [] _ (by omega) (by simp; omega) (fun r hr => by cases hr) fun m2 rs x8 hm2 hrl hr => ?_
  rw [n2]; clear n2 r2
  refine x_frz rfl ?_
  simp only [List.set_cons_succ, List.set_cons_zero]
  simp only [List.length_nil, Nat.zero_add] at hrl
  have hpos : 1 ≤ ns.length := List.length_pos_iff.mpr hne
  simp
  refine ⟨rs, rows_of rs, by omega, ns.length, hpos, ⟨(top : Int) + 7, fun r hr' => ⟨(hr r hr').1, (hr r hr').2⟩⟩, by omega, ?_⟩
  refine hk _ _ _ _ (by omega) ⟨setR_up rs, ?_, fun r hr' => hr r ((setR_mem r rs).mp hr')⟩
  have hle : (setR rs).length ≤ rs.length := by
    have key : ∀ (k : List Int) (ms : List (List Int)), (insR k ms).length ≤ ms.length + 1 := by
      intro k ms
      induction ms with
      | nil => simp [insR]
      | cons m ms ih =>
        unfold insR
        split
        · simp
        · split
          · simp
          · simp; omega
    have : ∀ ms : List (List Int), (setR ms).length ≤ ms.length := by
      intro ms
      induction ms with
      | nil => simp [setR]
      | cons n ns ih =>
        unfold setR
        have := key n (setR ns)
        simp only [List.length_cons]
        omega
    exact this rs
  omega
theorem cj_store {B : EndsD} {ε : Nat → Str → Prop} {q : D} {most top : Nat} {lift : Int} (hmost : most ≤ 60) (ht : 1 ≤ top ∧ top ≤ 1000) (hlift : 0 ≤ lift ∧ lift ≤ 7) : ∀ (qs ps : List (List Int)) (tbs : List (List (List Int))) (m : Nat) (x6 x7 x8 : DL.Slot), m + (4 * most + 1) * qs.length + 300 < CAP → (∀ ns ∈ qs, ns ≠ [] ∧ ns.length ≤ 4) → ps.length + qs.length ≤ 100 → Tok most top ps tbs →
    (∀ m' tbs x6 x7 x8, m' ≤ m + (4 * most + 1) * qs.length → Tok most top (ps ++ qs) tbs → B.nx m' [.val .rng, .val q, .val (.int most), .val (.int top), .val (.int lift), .own (tbs.map tabD), x6, x7, x8, .no]) →
    rLoop (.one 6) (cjTab ε) B (qs.map rowD) m [.val .rng, .val q, .val (.int most), .val (.int top), .val (.int lift), .own (tbs.map tabD), x6, x7, x8, .no]
  | [], ps, tbs, m, x6, x7, x8, _, _, _, ok, hk => hk m tbs x6 x7 x8 (by simp) (by rw [List.append_nil]; exact ok)
  | ns :: qs, ps, tbs, m, x6, x7, x8, hm, hn, hl, ok, hk => by
    have h0 := hn ns List.mem_cons_self
    simp only [List.length_cons] at hm hl hk
    have hmul : (4 * most + 1) * (qs.length + 1) = (4 * most + 1) * qs.length + (4 * most + 1) := Nat.mul_succ _ _
    show cjTab ε _ m [.val .rng, .val q, .val (.int most), .val (.int top), .val (.int lift), .own (tbs.map tabD), .val (rowD ns), x7, x8, .no]
    have hlt := ok.len
    refine cj_tab (by omega) hmost ht hlift h0.2 h0.1 (by rw [List.length_map]; omega) fun m' rs x7 x8 hm' ht1 => ?_
    have e : tbs.map tabD ++ [tabD rs] = (tbs ++ [rs]).map tabD := by rw [List.map_append]; rfl
    rw [e]
    refine cj_store hmost ht hlift qs (ps ++ [ns]) (tbs ++ [rs]) m' _ _ _ (by omega) (fun z hz => hn z (List.mem_cons_of_mem _ hz)) (by rw [List.length_append]; simp; omega) ⟨by rw [List.length_append, List.length_append, hlt]; rfl, fun p hp => ?_⟩ fun m2 tbs x6 x7 x8 h2 ok2 => hk m2 tbs x6 x7 x8 (by omega) (by rw [List.append_assoc] at ok2; exact ok2)
    rw [List.zip_append hlt.symm] at hp
    rcases List.mem_append.mp hp with hp | hp
    · exact ok.tab p hp
    · simp at hp
      subst hp
      exact ht1
def S_cjs : Spd := fun ds m Q _ => ∃ many os, ∃ most top : Nat, ds = [.rng, qD many os, .int most, .int top] ∧ Qok many os ∧ most ≤ 60 ∧ 1 ≤ top ∧ top ≤ 1000 ∧ m + 3000 < CAP ∧ ∀ m' tbs, m' ≤ m + 2000 → Tok most top os tbs → Q m' (stD tbs)
theorem p_cjs (ε : Nat → Str → Prop) (ds : List D) (m : Nat) (Q : Nat → D → Prop) (hl : ds.length = 4) (h : S_cjs ds m Q ε) : r__law_cj_store S_pick S_draw ε { nx := fun m _ => Q m .non, rt := Q } m (params ["state", "query_here", "most", "top", "lift", "found", "atom", "rows_here", "turn", "at"] ds) := by
  obtain ⟨many, os, most, top, rfl, hq, hmost, ht1, ht2, hm, q⟩ := h
  have hc : CAP = 1099511627776 := rfl
  have hL : 1000 ≤ sizeLine := by rw [sizeLine_eq]; omega
  have e : r__law_cj_store S_pick S_draw ε = (rSeq (rSet 4 (rFn 2 S_pick ε (rCons (rVar 0) (rCons (rC (.lst [(.int 0), (.int 0), (.int 0), (.int 7)])) rNil)))) (rSeq (rOwn 5 (rLs rNil)) (rSeq (rFor (.one 6) (rIt (rOp dIx (rVar 1) (rC (.int 1)))) (cjTab ε)) (rFrz 5 (rRet (rCall dTuple (rCons (rVar 5) rNil))))))) := rfl
  rw [e]; clear e
  refine x_seq fun B1 n1 r1 _ _ => ?_
  simp
  refine ⟨_, .inl rfl, by simp, by simp, by omega, fun m1 x hm1 hx => ?_⟩
  rw [n1]; clear n1
  obtain ⟨lift, rfl, hlift⟩ : ∃ lift : Int, x = .int lift ∧ 0 ≤ lift ∧ lift ≤ 7 := by
    simp at hx
    rcases hx with rfl | rfl
    · exact ⟨0, rfl, by omega, by omega⟩
    · exact ⟨7, rfl, by omega, by omega⟩
  refine x_seq fun B2 n2 r2 _ _ => ?_
  simp
  rw [n2]; clear n2
  refine x_seq fun B3 n3 r3 _ _ => ?_
  refine x_for fun K hK => ?_
  simp [q_at1]
  rw [hK]; clear hK
  have h6 := hq.l6
  have hmul : (4 * most + 1) * os.length ≤ 241 * 6 := Nat.mul_le_mul (by omega) h6
  refine cj_store (tbs := []) hmost ⟨ht1, ht2⟩ hlift os [] m1 _ _ _ (by omega) (fun ns hn => ⟨hq.ne ns hn, hq.l4 ns hn⟩) (by simp; omega) ⟨rfl, fun p hp => by simp at hp⟩ fun m2 tbs x6 x7 x8 hm2 ok => ?_
  rw [n3]; clear n3
  refine x_frz rfl ?_
  simp only [List.set_cons_succ, List.set_cons_zero]
  simp
  exact q _ _ (by omega) ok
end WK03

namespace WK03
open PySem L2 DL
/-! ### a drawn store is a store -/
theorem isTab_tok {most top w : Nat} {rs : List (List Int)} (ht : top ≤ 1000) (h : Tab1 most top w rs) : isTab w (tabD rs) = true := by
  rw [isTab_tup, rows_of]
  simp only [Bool.and_eq_true, decide_eq_true_iff]
  refine ⟨List.all_eq_true.mpr fun d hd => ?_, h.up⟩
  obtain ⟨r, hr, rfl⟩ := List.mem_map.mp hd
  have := h.row r hr
  rw [isRow_tup, Bool.and_eq_true, decide_eq_true_iff]
  refine ⟨by rw [List.length_map]; exact this.1, List.all_eq_true.mpr fun d hd => ?_⟩
  obtain ⟨a, ha, rfl⟩ := List.mem_map.mp hd
  have := this.2 a ha
  unfold isNum
  simp only [Bool.and_eq_true, decide_eq_true_iff]
  omega
theorem Tok.sto {most top : Nat} {os : List (List Int)} {tbs : List (List (List Int))} (ht : top ≤ 1000) (h : Tok most top os tbs) : isSto os (stD tbs) = true := by
  show (decide ((tbs.map tabD).length = os.length) && (os.zip (tbs.map tabD)).all fun p => isTab p.1.length p.2) = true
  rw [Bool.and_eq_true, decide_eq_true_iff]
  refine ⟨by rw [List.length_map]; exact h.len, ?_⟩
  rw [List.zip_map_right, List.all_map, List.all_eq_true]
  intro p hp
  exact isTab_tok ht (h.tab p hp)
theorem Tok.good {most top : Nat} {os : List (List Int)} {tbs : List (List (List Int))} {w : Nat} (hm : most ≤ w) (ho : os.length ≤ w) (hw : ∀ ns ∈ os, ns.length ≤ w) (h : Tok most top os tbs) : good w 3 (stD tbs) := by
  refine ⟨by rw [List.length_map, h.len]; exact ho, fun d hd => ?_⟩
  obtain ⟨rs, hrs, rfl⟩ := List.mem_map.mp hd
  obtain ⟨i, hi, e⟩ := List.getElem_of_mem hrs
  have hj : i < (os.zip tbs).length := by rw [List.length_zip, h.len]; have := h.len; omega
  have hp := h.tab _ (List.getElem_mem hj)
  rw [List.getElem_zip] at hp
  simp only [e] at hp
  refine ⟨by rw [List.length_map]; exact Nat.le_trans hp.few hm, fun d hd => ?_⟩
  obtain ⟨r, hr, rfl⟩ := List.mem_map.mp hd
  exact good_ints (by rw [(hp.row r hr).1]; exact hw _ (List.getElem_mem _))
end WK03

namespace WK03
open PySem L2 DL
/-! ### lot_of: the beginnings of the rows of each table -/
def begR (ks : List (List Int)) (js : List Nat) (r : List Int) : List (List Int) := js.foldl (fun ks j => addR ks (r.take (j + 1))) ks
def begL (w : Nat) (rs : List (List Int)) (ks : List (List Int)) : List (List Int) := rs.foldl (fun ks r => begR ks (List.range w) r) ks
def begs (w : Nat) (rs : List (List Int)) : List (List Int) := begL w rs []
theorem addR_len (ks : List (List Int)) (r : List Int) : (addR ks r).length ≤ ks.length + 1 := by
  unfold addR; split
  · omega
  · simp
theorem addR_mem {ks : List (List Int)} {r x : List Int} : x ∈ addR ks r ↔ x ∈ ks ∨ x = r := by
  unfold addR; split
  · rename_i h
    constructor
    · exact .inl
    · rintro (h' | rfl)
      · exact h'
      · exact h
  · simp
theorem begR_mem (r x : List Int) : ∀ (js : List Nat) (ks : List (List Int)), x ∈ begR ks js r ↔ x ∈ ks ∨ ∃ j ∈ js, x = r.take (j + 1)
  | [], ks => by simp [begR]
  | j :: js, ks => by
    show x ∈ begR (addR ks (r.take (j + 1))) js r ↔ _
    rw [begR_mem r x js, addR_mem, or_assoc]
    simp only [List.mem_cons, exists_eq_or_imp]
theorem begR_len (r : List Int) : ∀ (js : List Nat) (ks : List (List Int)), (begR ks js r).length ≤ ks.length + js.length
  | [], ks => by simp [begR]
  | j :: js, ks => by
    show (begR (addR ks (r.take (j + 1))) js r).length ≤ _
    have h1 := begR_len r js (addR ks (r.take (j + 1)))
    have h2 := addR_len ks (r.take (j + 1))
    simp only [List.length_cons]
    omega
theorem begL_mem (w : Nat) (x : List Int) : ∀ (rs ks : List (List Int)), x ∈ begL w rs ks ↔ x ∈ ks ∨ ∃ r ∈ rs, ∃ j, j < w ∧ x = r.take (j + 1)
  | [], ks => by simp [begL]
  | r :: rs, ks => by
    show x ∈ begL w rs (begR ks (List.range w) r) ↔ _
    rw [begL_mem w x rs, begR_mem, or_assoc]
    simp only [List.mem_range, List.mem_cons, exists_eq_or_imp]
theorem begs_mem (w : Nat) (x : List Int) (rs : List (List Int)) : x ∈ begs w rs ↔ ∃ r ∈ rs, ∃ j, j < w ∧ x = r.take (j + 1) := by
  unfold begs
  rw [begL_mem]
  simp
theorem take_ints (r : List Int) (j : Nat) : D.ints ((r.map D.int).take (j + 1)) = some (r.take (j + 1)) := by
  rw [← List.map_take]; exact ints_of _
def lotKey : TD := rSl (rVar 6) rNoPart (rPart (rOp dAdd (rVar 7) (rC (.int 1))))
theorem lot_in {q v : D} {fs : List D} {t : D} {ns : List Int} {m : Nat} {r : List Int} {Q : Nat → DL.Env → List (List Int) → Prop} : ∀ (js : List Nat) (ks : List (List Int)) (x7 : DL.Slot), (∀ j ∈ js, j < 100) → ks.length + js.length ≤ 1000 →
    (∀ x7, Q m [.val q, .val v, .own fs, .val (rowD ns), .val t, .no, .val (rowD r), x7] (begR ks js r)) →
    rRowIn (.one 7) lotKey (js.map fun j => D.int ((j : Nat) : Int)) ks m [.val q, .val v, .own fs, .val (rowD ns), .val t, .no, .val (rowD r), x7] Q
  | [], ks, x7, _, _, hk => hk x7
  | j :: js, ks, x7, hj, hl, hk => by
    have hL : 1000 ≤ sizeLine := by rw [sizeLine_eq]; omega
    simp only [List.length_cons] at hl
    have h0 := hj j List.mem_cons_self
    have hs := addR_len ks (r.take (j + 1))
    have c1 : cutD (r.map D.int) none (some ((j : Int) + 1)) = (r.take (j + 1)).map D.int := by
      rw [cut_to _ (by omega), List.map_take]; rfl
    unfold rRowIn lotKey
    simp
    refine ⟨r.take (j + 1), ?_, by omega, ?_⟩
    · rw [c1]; exact ints_of _
    · exact lot_in js (addR ks (r.take (j + 1))) _ (fun i hi => hj i (List.mem_cons_of_mem _ hi)) (by omega) hk
theorem lot_rows {q v : D} {fs : List D} {t : D} {ns : List Int} {m : Nat} {Q : Nat → DL.Env → List (List Int) → Prop} (hn : ns.length ≤ 8) : ∀ (rs ks : List (List Int)) (x6 x7 : DL.Slot), ks.length + 8 * rs.length ≤ 1000 →
    (∀ x6 x7, Q m [.val q, .val v, .own fs, .val (rowD ns), .val t, .no, x6, x7] (begL ns.length rs ks)) →
    rRowGo (.one 6) (.one 7) (rRng1 (rCons (rCall dLenA (rCons (rVar 3) rNil)) rNil)) lotKey (rs.map rowD) ks m [.val q, .val v, .own fs, .val (rowD ns), .val t, .no, x6, x7] Q
  | [], ks, x6, x7, _, hk => hk x6 x7
  | r :: rs, ks, x6, x7, hl, hk => by
    simp only [List.length_cons] at hl
    have hs := begR_len r (List.range ns.length) ks
    rw [List.length_range] at hs
    have e : ups 0 ns.length = (List.range ns.length).map fun j => D.int ((j : Nat) : Int) := by
      unfold ups
      exact List.map_congr_left fun j _ => by rw [Int.zero_add]
    unfold rRowGo
    simp
    refine ⟨by omega, ?_⟩
    rw [e]
    refine lot_in (List.range ns.length) ks _ (fun j hj => by have := List.mem_range.mp hj; omega) (by rw [List.length_range]; omega) fun x7 => ?_
    exact lot_rows hn rs (begR ks (List.range ns.length) r) _ _ (by omega) hk
def lotsP (zs : List (List Int × List (List Int))) : List D := zs.map fun p => .dcs (begs p.1.length p.2)
def lotBody : TSd := rRows 5 (.one 6) (rIt (rVar 4)) (.one 7) (rRng1 (rCons (rCall dLenA (rCons (rVar 3) rNil)) rNil)) lotKey (rApp 2 (rVar 5))
theorem lots_loop {B : EndsD} {m : Nat} {q v : D} : ∀ (qs : List (List Int × List (List Int))) (fs : List D) (x3 x4 x5 x6 x7 : DL.Slot), (∀ p ∈ qs, p.1.length ≤ 8 ∧ p.2.length ≤ 60) → fs.length + qs.length ≤ 100 →
    (∀ x3 x4 x5 x6 x7, B.nx m [.val q, .val v, .own (fs ++ lotsP qs), x3, x4, x5, x6, x7]) →
    rLoop (.many [3, 4]) lotBody B (qs.map pairD) m [.val q, .val v, .own fs, x3, x4, x5, x6, x7]
  | [], fs, x3, x4, x5, x6, x7, _, _, hk => by
    have := hk x3 x4 x5 x6 x7
    rw [show lotsP [] = [] from rfl, List.append_nil] at this
    exact this
  | (ns, rs) :: qs, fs, x3, x4, x5, x6, x7, hq, hl, hk => by
    have h0 := hq _ List.mem_cons_self
    simp only [List.length_cons] at hl h0
    have hL : 1000 ≤ sizeLine := by rw [sizeLine_eq]; omega
    refine ⟨rfl, ?_⟩
    show lotBody _ m [.val q, .val v, .own fs, .val (rowD ns), .val (tabD rs), x5, x6, x7]
    unfold lotBody
    simp
    refine lot_rows h0.1 rs [] _ _ (by simp; omega) fun x6 x7 => ?_
    simp
    refine ⟨by omega, ?_⟩
    refine lots_loop qs (fs ++ [.dcs (begs ns.length rs)]) _ _ _ _ _ (fun p hp => hq p (List.mem_cons_of_mem _ hp)) (by rw [List.length_append]; simp; omega) fun x3 x4 x5 x6 x7 => ?_
    have := hk x3 x4 x5 x6 x7
    rw [List.append_assoc]
    exact this
/-- what all tables of a store keep to -/
def StOk (os : List (List Int)) (tbs : List (List (List Int))) : Prop := tbs.length = os.length ∧ ∀ p ∈ os.zip tbs, p.2.length ≤ 60 ∧ rowUp p.2 ∧ ∀ r ∈ p.2, r.length = p.1.length ∧ ∀ a ∈ r, 0 ≤ a ∧ a < 1000000000000000000
def S_lot : Spd := fun ds m Q _ => ∃ many os tbs, ds = [qD many os, stD tbs] ∧ Qok many os ∧ StOk os tbs ∧ Q m (.lst (lotsP (os.zip tbs)))
theorem p_lot (ε : Nat → Str → Prop) (ds : List D) (m : Nat) (Q : Nat → D → Prop) (hl : ds.length = 2) (h : S_lot ds m Q ε) : r_lot_of ε { nx := fun m _ => Q m .non, rt := Q } m (params ["query", "store", "found", "atom", "table", "lot", "row", "many"] ds) := by
  obtain ⟨many, os, tbs, rfl, hq, hs, q⟩ := h
  have e : r_lot_of ε = (rSeq (rOwn 2 (rLs rNil)) (rSeq (rFor (.many [3, 4]) (rZip (rCons (rOp dIx (rVar 0) (rC (.int 1))) (rCons (rVar 1) rNil))) lotBody) (rFrz 2 (rRet (rVar 2))))) := rfl
  rw [e]; clear e
  refine x_seq fun B1 n1 r1 _ _ => ?_
  simp
  rw [n1]; clear n1
  refine x_seq fun B2 n2 r2 _ _ => ?_
  refine x_for fun K hK => ?_
  simp [q_at1]
  rw [hK]; clear hK
  rw [zip_pairs]
  refine lots_loop (os.zip tbs) [] _ _ _ _ _ (fun p hp => ⟨?_, (hs.2 p hp).1⟩) ?_ fun x3 x4 x5 x6 x7 => ?_
  · have := hq.l4 _ (List.of_mem_zip hp).1; omega
  · have := hq.l6
    rw [List.length_zip]; simp; omega
  rw [n2]; clear n2
  refine x_frz rfl ?_
  simp

  exact q
end WK03

namespace WK03
open PySem L2 DL
/-! ### candidates -/
def canBody : TSd := (rIfS (rTest (rOp dInA (rVar 3) (rVar 5))) (rSeq (rSet 7 (rDc (.one 8) [8] (rItA (rVar 6)) rYes (rOp dIx (rVar 8) (rIdx (rVar 5) (rVar 3))))) (rSet 4 (rIf (rTest (rOp dIs (rVar 4) (rC .non))) (rVar 7) (rDc (.one 9) [9] (rItA (rVar 4)) (rTest (rOp dInA (rVar 9) (rVar 7))) (rVar 9))))) rNext)
theorem can_turn {B : EndsD} {m : Nat} {q v : D} {fs : List D} {a : Int} {f : Option (List Int)} {x6 : DL.Slot} {ns : List Int} {rs : List (List Int)} (hr : ∀ r ∈ rs, r.length = ns.length) (hl : rs.length ≤ 60) (hf : ∀ g, f = some g → g.length ≤ 60)
    (hk : ∀ x6, B.nx m [.val q, .val v, .own fs, .val (.int a), .val (optD (stepP a f (ns, rs))), .val (rowD ns), .val (tabD rs), x6, .no, .no]) :
    canBody B m [.val q, .val v, .own fs, .val (.int a), .val (optD f), .val (rowD ns), .val (tabD rs), x6, .no, .no] := by
  have hL : 1000 ≤ sizeLine := by rw [sizeLine_eq]; omega
  unfold canBody
  refine x_if fun K hK1 hK2 => ?_
  simp [all_fl, any_in]
  have ei : ns.any ((fun c => c.eqv (D.int a)) ∘ D.int) = decide (a ∈ ns) := by rw [← List.any_map]; exact any_in a ns
  rw [ei]
  by_cases ha : a ∈ ns
  · rw [decide_eq_true ha, hK1]
    have e : stepP a f (ns, rs) = some (newP (dedI (colA a ns rs)) f) := by unfold stepP; rw [if_pos ha]
    rw [e] at hk
    refine x_seq fun B1 n1 _ _ _ => ?_
    refine x_set fun K1 hK => ?_
    simp
    refine lc_tt (fCol (ns.idxOf a)) (fun d hd K hk => ?_) ?_
    · obtain ⟨r, hr', rfl⟩ := List.mem_map.mp hd
      have e2 : fCol (ns.idxOf a) (rowD r) = .int (r.getD (ns.idxOf a) 0) := by
        have := at_col ha (hr r hr')
        have hj' : ns.idxOf a < r.length := by rw [hr r hr']; exact List.idxOf_lt_length_of_mem ha
        unfold fCol
        simp [List.getElem?_eq_getElem hj']
      rw [e2] at hk
      simp
      exact ⟨ha, _, at_col ha (hr r hr'), hk⟩
    · rw [col_map ha hr, ints_back, hK, n1]
      refine x_set fun K2 hK2 => ?_
      cases f with
      | none =>
        simp [optD]
        rw [hK2]
        exact hk _
      | some g =>
        have hg := hf g rfl
        simp [optD]
        refine ⟨by omega, ?_⟩
        refine lc_map (fIn2 (dedI (colA a ns rs))) _ _ (fun d hd K hk => ?_) ?_
        · obtain ⟨n, _, rfl⟩ := List.mem_map.mp hd
          simp [fIn2] at hk ⊢
          by_cases hn : n ∈ dedI (colA a ns rs)
          · rw [if_pos hn] at hk ⊢; exact hk
          · rw [if_neg hn] at hk ⊢; exact hk
        · rw [List.nil_append, fm_in2, ints_back, hK2]
          exact hk _
  · rw [decide_eq_false ha, hK2]
    have e : stepP a f (ns, rs) = f := by unfold stepP; rw [if_neg ha]
    rw [e] at hk
    exact hk _
theorem cans_loop {B : EndsD} {m : Nat} {q v : D} {fs : List D} {a : Int} : ∀ (qs ps : List (List Int × List (List Int))) (x4 x5 x6 : DL.Slot), (∀ p ∈ qs, p.2.length ≤ 60 ∧ ∀ r ∈ p.2, r.length = p.1.length) → (∀ g, foldP a ps = some g → g.length ≤ 60) →
    (∀ x4 x5 x6, (∀ g, foldP a (ps ++ qs) = some g → g.length ≤ 60) → B.nx m [.val q, .val v, .own fs, .val (.int a), .val (optD (foldP a (ps ++ qs))), x4, x5, x6, .no, .no]) →
    rLoop (.many [5, 6]) canBody B (qs.map pairD) m [.val q, .val v, .own fs, .val (.int a), .val (optD (foldP a ps)), x4, x5, x6, .no, .no]
  | [], ps, x4, x5, x6, _, hf, hk => by rw [List.append_nil] at hk; exact hk x4 x5 x6 hf
  | (ns, rs) :: qs, ps, x4, x5, x6, h, hf, hk => by
    have h0 := h (ns, rs) List.mem_cons_self
    refine ⟨rfl, ?_⟩
    show canBody _ m [.val q, .val v, .own fs, .val (.int a), .val (optD (foldP a ps)), .val (rowD ns), .val (tabD rs), x6, .no, .no]
    refine can_turn h0.2 h0.1 hf fun x6 => ?_
    rw [← foldP_snoc]
    refine cans_loop qs (ps ++ [(ns, rs)]) _ _ _ (fun p hp => h p (List.mem_cons_of_mem _ hp)) ?_ fun x4 x5 x6 hf' => ?_
    · rw [foldP_snoc]
      exact stepP_len h0.1 hf
    · rw [List.append_assoc] at hf' ⊢
      exact hk x4 x5 x6 hf'
def canTurn : TSd := (rSeq (rSet 4 (rC .non)) (rSeq (rFor (.many [5, 6]) (rZip (rCons (rOp dIx (rVar 0) (rC (.int 1))) (rCons (rVar 1) rNil))) canBody) (rApp 2 (rCall dSortedA (rCons (rVar 4) rNil)))))
def canL (zs : List (List Int × List (List Int))) (js : List Nat) : List D := js.map fun j : Nat => D.lst ((valsP ((j : Nat) : Int) zs).map D.int)
theorem can_at {B : EndsD} {m : Nat} {many : Int} {os : List (List Int)} {tbs : List (List (List Int))} {fs : List D} {j : Nat} {x4 x5 x6 x7 : DL.Slot} (hq : Qok many os) (hs : StOk os tbs) (hj : (j : Int) < many) (hfs : fs.length ≤ 100)
    (hk : ∀ x4 x5 x6 x7, B.nx m [.val (qD many os), .val (stD tbs), .own (fs ++ [.lst ((valsP (j : Int) (os.zip tbs)).map .int)]), .val (.int (j : Int)), x4, x5, x6, x7, .no, .no]) :
    canTurn B m [.val (qD many os), .val (stD tbs), .own fs, .val (.int (j : Int)), x4, x5, x6, x7, .no, .no] := by
  have hL : 1000 ≤ sizeLine := by rw [sizeLine_eq]; omega
  unfold canTurn
  refine x_seq fun B4 n4 r4 _ _ => ?_
  simp
  rw [n4]; clear n4
  refine x_seq fun B5 n5 r5 _ _ => ?_
  refine x_for fun K hK => ?_
  simp [q_at1]
  rw [hK]; clear hK
  show rLoop (.many [5, 6]) canBody B5 (zipD (os.map rowD) (tbs.map tabD)) m _
  rw [zip_pairs]
  refine cans_loop (os.zip tbs) [] _ _ _ (fun p hp' => ⟨(hs.2 p hp').1, fun r hr => ((hs.2 p hp').2.2 r hr).1⟩) (fun g e => by cases e) fun x4 x5 x6 hf => ?_
  rw [List.nil_append] at hf ⊢
  rw [n5]; clear n5
  have hs' : (foldP (j : Int) (os.zip tbs)).isSome = true := by
    refine foldP_some _ _ (.inr ?_)
    obtain ⟨ns, hns, ha⟩ := hq.cov (j : Int) (by omega) hj
    obtain ⟨p, hp1, hp2⟩ := zip_has hs.1 hns
    exact ⟨p, hp1, by rw [hp2]; exact ha⟩
  cases ef : foldP (j : Int) (os.zip tbs) with
  | none => rw [ef] at hs'; cases hs'
  | some g =>
    have := hf g ef
    have q := hk (.val (.dci g)) x4 x5 x6
    unfold valsP at q
    rw [ef] at q
    simp [optD]
    refine ⟨by omega, by omega, ?_⟩
    exact q
theorem cans_ok {B : EndsD} {m : Nat} {many : Int} {os : List (List Int)} {tbs : List (List (List Int))} (hq : Qok many os) (hs : StOk os tbs) : ∀ (js : List Nat) (fs : List D) (x3 x4 x5 x6 x7 : DL.Slot), (∀ j ∈ js, (j : Int) < many) → fs.length + js.length ≤ 100 →
    (∀ x3 x4 x5 x6 x7, B.nx m [.val (qD many os), .val (stD tbs), .own (fs ++ canL (os.zip tbs) js), x3, x4, x5, x6, x7, .no, .no]) →
    rLoop (.one 3) canTurn B (js.map fun j => D.int ((j : Nat) : Int)) m [.val (qD many os), .val (stD tbs), .own fs, x3, x4, x5, x6, x7, .no, .no]
  | [], fs, x3, x4, x5, x6, x7, _, _, hk => by
    have := hk x3 x4 x5 x6 x7
    rw [show canL (os.zip tbs) [] = [] from rfl, List.append_nil] at this
    exact this
  | j :: js, fs, x3, x4, x5, x6, x7, hj, hl, hk => by
    simp only [List.length_cons] at hl
    show canTurn _ m [.val (qD many os), .val (stD tbs), .own fs, .val (.int (j : Int)), x4, x5, x6, x7, .no, .no]
    refine can_at hq hs (hj j List.mem_cons_self) (by omega) fun x4 x5 x6 x7 => ?_
    refine cans_ok hq hs js _ _ _ _ _ _ (fun i hi => hj i (List.mem_cons_of_mem _ hi)) (by rw [List.length_append]; simp; omega) fun x3 x4 x5 x6 x7 => ?_
    have := hk x3 x4 x5 x6 x7
    rw [List.append_assoc]
    exact this
def S_can : Spd := fun ds m Q _ => ∃ many os tbs, ds = [qD many os, stD tbs] ∧ Qok many os ∧ StOk os tbs ∧ Q m (.lst (canL (os.zip tbs) (List.range many.toNat)))
theorem ups_nat (n : Nat) : ups 0 n = (List.range n).map fun j => D.int ((j : Nat) : Int) := by
  unfold ups
  exact List.map_congr_left fun j _ => by rw [Int.zero_add]
theorem p_can (ε : Nat → Str → Prop) (ds : List D) (m : Nat) (Q : Nat → D → Prop) (hl : ds.length = 2) (h : S_can ds m Q ε) : r_candidates ε { nx := fun m _ => Q m .non, rt := Q } m (params ["query", "store", "found", "attribute", "here", "atom", "table", "own", "row", "number"] ds) := by
  obtain ⟨many, os, tbs, rfl, hq, hs, q⟩ := h
  have h1 := hq.m1
  have h8 := hq.m8
  have e : r_candidates ε = (rSeq (rOwn 2 (rLs rNil)) (rSeq (rFor (.one 3) (rRng1 (rCons (rOp dIx (rVar 0) (rC (.int 0))) rNil)) canTurn) (rFrz 2 (rRet (rVar 2))))) := rfl
  rw [e]; clear e
  refine x_seq fun B1 n1 r1 _ _ => ?_
  simp
  rw [n1]; clear n1
  refine x_seq fun B2 n2 r2 _ _ => ?_
  refine x_for fun K hK => ?_
  simp [q_at0]
  refine ⟨by omega, by omega, ?_⟩
  rw [hK, ups_nat]; clear hK
  refine cans_ok hq hs (List.range many.toNat) [] _ _ _ _ _ (fun j hj => by have := List.mem_range.mp hj; omega) (by rw [List.length_range]; simp; omega) fun x3 x4 x5 x6 x7 => ?_
  rw [n2]; clear n2
  refine x_frz rfl ?_
  simp
  exact q
end WK03

namespace WK03
open PySem L2 DL
/-! ### part_of and fits -/
def partP (t at' : List Int) : List Int := at'.map fun a => t.getD a.toNat 0
theorem at_row {t : List Int} {a : Int} (h0 : 0 ≤ a) (h1 : a < (t.length : Nat)) : atI (t.map D.int) a = some (.int (t.getD a.toNat 0)) := by
  obtain ⟨j, rfl⟩ := Int.eq_ofNat_of_zero_le h0
  have hj : j < t.length := by omega
  have hj' : j < (t.map D.int).length := by rw [List.length_map]; exact hj
  rw [atI_eq hj']
  simp [List.getElem?_eq_getElem hj]
def fPart (t : List Int) : D → D
  | .int a => .int (t.getD a.toNat 0)
  | d => d
def S_part : Spd := fun ds m Q _ => ∃ t at' : List Int, ds = [rowD t, rowD at'] ∧ at'.length ≤ 100 ∧ (∀ a ∈ at', 0 ≤ a ∧ a < (t.length : Nat)) ∧ Q m (rowD (partP t at'))
theorem p_part (ε : Nat → Str → Prop) (ds : List D) (m : Nat) (Q : Nat → D → Prop) (hl : ds.length = 2) (h : S_part ds m Q ε) : r_part_of ε { nx := fun m _ => Q m .non, rt := Q } m (params ["answer", "atom", "attribute"] ds) := by
  obtain ⟨t, at', rfl, hl', hb, q⟩ := h
  have hL : 1000 ≤ sizeLine := by rw [sizeLine_eq]; omega
  unfold r_part_of
  refine x_ret ?_
  simp
  refine lc_tt (fPart t) (fun d hd K hk => ?_) ?_
  · obtain ⟨a, ha, rfl⟩ := List.mem_map.mp hd
    simp
    exact ⟨_, at_row (hb a ha).1 (hb a ha).2, hk⟩
  · rw [show (at'.map D.int).map (fPart t) = (partP t at').map D.int by unfold partP; rw [List.map_map, List.map_map]; rfl]
    exact q
theorem take_le {l : Int} : ∀ {ns : List Int}, ns.Pairwise (· < ·) → l ∈ ns → ∀ a ∈ ns.take (ns.idxOf l + 1), a ≤ l ∧ a ∈ ns
  | [], _, h, _, _ => by cases h
  | x :: xs, hp, h, a, ha => by
    by_cases e : x = l
    · subst e
      simp at ha
      subst ha
      exact ⟨Int.le_refl _, List.mem_cons_self⟩
    · have hl : l ∈ xs := by rcases List.mem_cons.mp h with h | h; exact absurd h.symm e; exact h
      have eb : (x == l) = false := beq_eq_false_iff_ne.mpr e
      rw [List.idxOf_cons, eb, cond_false, List.take_succ_cons] at ha
      rcases List.mem_cons.mp ha with rfl | ha
      · exact ⟨Int.le_of_lt (List.rel_of_pairwise_cons hp hl), List.mem_cons_self⟩
      · have := take_le (List.Pairwise.of_cons hp) hl a ha
        exact ⟨this.1, List.mem_cons_of_mem _ this.2⟩
def fitOk (t : List Int) (last : Int) (p : List Int × List (List Int)) : Bool := !decide (last ∈ p.1) || decide (partP t (p.1.take (p.1.idxOf last + 1)) ∈ begs p.1.length p.2)
def lotPair (p : List Int × List (List Int)) : D := .tpw [rowD p.1, .dcs (begs p.1.length p.2)]
def fitBody (ε : Nat → Str → Prop) : TSd := (rIfS (rAnd (rTest (rOp dIn (rVar 3) (rVar 4))) (rTest (rOp dNinB (rFn 2 S_part ε (rCons (rVar 2) (rCons (rSl (rVar 4) rNoPart (rPart (rOp dAdd (rIdx (rVar 4) (rVar 3)) (rC (.int 1))))) rNil))) (rVar 5)))) (rRet (rC (.bl false))) rNext)
theorem fit_turn {B : EndsD} {ε : Nat → Str → Prop} {m : Nat} {q ls : D} {t : List Int} {last : Int} {p : List Int × List (List Int)} (hp : p.1.Pairwise (· < ·)) (h0 : ∀ a ∈ p.1, 0 ≤ a) (hl : last < (t.length : Nat)) (hw : p.1.length ≤ 8)
    (hk : fitOk t last p = true → B.nx m [.val q, .val ls, .val (rowD t), .val (.int last), .val (rowD p.1), .val (.dcs (begs p.1.length p.2))]) (hr : fitOk t last p = false → B.rt m (.bl false)) :
    fitBody ε B m [.val q, .val ls, .val (rowD t), .val (.int last), .val (rowD p.1), .val (.dcs (begs p.1.length p.2))] := by
  have hL : 1000 ≤ sizeLine := by rw [sizeLine_eq]; omega
  unfold fitBody
  refine x_if fun K hK1 hK2 => ?_
  simp [all_fl, any_in]
  by_cases ha : last ∈ p.1
  · rw [if_pos ha]
    have c1 : cutD (p.1.map D.int) none (some ((p.1.idxOf last : Int) + 1)) = (p.1.take (p.1.idxOf last + 1)).map D.int := by
      rw [cut_to _ (by omega), List.map_take]; rfl
    have hlt : (p.1.take (p.1.idxOf last + 1)).length ≤ 100 := by rw [List.length_take]; omega
    refine ⟨ha, t, p.1.take (p.1.idxOf last + 1), by rw [c1], hlt, fun a h => ?_, ?_⟩
    · have := take_le hp ha a h
      exact ⟨h0 a this.2, by omega⟩
    · refine ⟨partP t (p.1.take (p.1.idxOf last + 1)), ints_of _, ?_⟩
      by_cases hb : partP t (p.1.take (p.1.idxOf last + 1)) ∈ begs p.1.length p.2
      · rw [decide_eq_true hb]
        show K m false
        rw [hK2]
        exact hk (by unfold fitOk; rw [decide_eq_true hb, Bool.or_true])
      · rw [decide_eq_false hb]
        show K m true
        rw [hK1]
        exact hr (by unfold fitOk; rw [decide_eq_false hb, decide_eq_true ha]; rfl)
  · rw [if_neg ha, hK2]
    exact hk (by unfold fitOk; rw [decide_eq_false ha]; rfl)
theorem fits_loop {B : EndsD} {ε : Nat → Str → Prop} {m : Nat} {q ls : D} {t : List Int} {last : Int} (hl : last < (t.length : Nat)) : ∀ (qs : List (List Int × List (List Int))) (x4 x5 : DL.Slot), (∀ p ∈ qs, p.1.Pairwise (· < ·) ∧ (∀ a ∈ p.1, 0 ≤ a) ∧ p.1.length ≤ 8) →
    (qs.all (fitOk t last) = true → ∀ x4 x5, B.nx m [.val q, .val ls, .val (rowD t), .val (.int last), x4, x5]) → (qs.all (fitOk t last) = false → B.rt m (.bl false)) →
    rLoop (.many [4, 5]) (fitBody ε) B (qs.map lotPair) m [.val q, .val ls, .val (rowD t), .val (.int last), x4, x5]
  | [], x4, x5, _, hk, _ => hk rfl x4 x5
  | p :: qs, x4, x5, h, hk, hr => by
    have h0 := h p List.mem_cons_self
    rw [List.all_cons] at hk hr
    refine ⟨rfl, ?_⟩
    show fitBody ε _ m [.val q, .val ls, .val (rowD t), .val (.int last), .val (rowD p.1), .val (.dcs (begs p.1.length p.2))]
    refine fit_turn h0.1 h0.2.1 hl h0.2.2 (fun e => ?_) fun e => hr (by rw [e]; rfl)
    refine fits_loop hl qs _ _ (fun p hp => h p (List.mem_cons_of_mem _ hp)) (fun e2 => hk (by rw [e, e2]; rfl)) fun e2 => hr (by rw [e2, Bool.and_false])
theorem zip_lots : ∀ (os : List (List Int)) (tbs : List (List (List Int))), tbs.length = os.length → zipD (os.map rowD) (lotsP (os.zip tbs)) = (os.zip tbs).map lotPair
  | [], [], _ => rfl
  | [], _ :: _, h => by cases h
  | _ :: _, [], h => by cases h
  | ns :: os, rs :: tbs, h => by
    have := zip_lots os tbs (by simpa using h)
    unfold zipD lotsP at this ⊢
    simp only [List.zip_cons_cons, List.map_cons]
    rw [this]
    rfl
def fitsP (zs : List (List Int × List (List Int))) (t : List Int) : Bool := zs.all (fitOk t ((t.length : Int) - 1))
def S_fits : Spd := fun ds m Q _ => ∃ many os tbs t, ds = [qD many os, .lst (lotsP (os.zip tbs)), rowD t] ∧ Qok many os ∧ StOk os tbs ∧ t.length ≤ 100 ∧ Q m (.bl (fitsP (os.zip tbs) t))
theorem p_fits (ε : Nat → Str → Prop) (ds : List D) (m : Nat) (Q : Nat → D → Prop) (hl : ds.length = 3) (h : S_fits ds m Q ε) : r_fits S_part ε { nx := fun m _ => Q m .non, rt := Q } m (params ["query", "lots", "known", "last", "atom", "lot"] ds) := by
  obtain ⟨many, os, tbs, t, rfl, hq, hs, ht, q⟩ := h
  have e : r_fits S_part ε = (rSeq (rSet 3 (rOp dSub (rCall dLenA (rCons (rVar 2) rNil)) (rC (.int 1)))) (rSeq (rFor (.many [4, 5]) (rZipM (rCons (rOp dIx (rVar 0) (rC (.int 1))) (rCons (rVar 1) rNil))) (rIfS (rAnd (rTest (rOp dIn (rVar 3) (rVar 4))) (rTest (rOp dNinB (rFn 2 S_part ε (rCons (rVar 2) (rCons (rSl (rVar 4) rNoPart (rPart (rOp dAdd (rIdx (rVar 4) (rVar 3)) (rC (.int 1))))) rNil))) (rVar 5)))) (rRet (rC (.bl false))) rNext)) (rRet (rC (.bl true))))) := rfl
  rw [e]; clear e
  refine x_seq fun B1 n1 r1 _ _ => ?_
  simp
  rw [n1]; clear n1
  refine x_seq fun B2 n2 r2 _ _ => ?_
  refine x_for fun K hK => ?_
  simp [q_at1]
  rw [hK]; clear hK
  rw [zip_lots os tbs hs.1]
  refine fits_loop (t := t) (last := (t.length : Int) - 1) (by omega) (os.zip tbs) _ _ (fun p hp => ?_) (fun e x4 x5 => ?_) fun e => ?_
  · have hm := (List.of_mem_zip hp).1
    exact ⟨hq.up _ hm, fun a ha => (hq.bd _ hm a ha).1, by have := hq.l4 _ hm; omega⟩
  · rw [n2]; clear n2
    simp
    have e' : fitsP (os.zip tbs) t = true := e
    rw [e'] at q
    exact q
  · rw [r2]
    have e' : fitsP (os.zip tbs) t = false := e
    rw [e'] at q
    exact q
end WK03

namespace WK03
open PySem L2 DL
/-! ### answers: one attribute -/
def ext1 (ns t : List Int) : List (List Int) := ns.map fun n => t ++ [n]
def extP (ns : List Int) (T : List (List Int)) : List (List Int) := T.flatMap (ext1 ns)
def extT : TD := rOp dAdd (rVar 6) (rTup (rCons (rVar 7) rNil))
theorem in_ok {q v ls nu ln : D} {a : Int} {t : List Int} {m : Nat} {Q : Nat → List D → Prop} (ht : t.length ≤ 100) : ∀ (ns : List Int) (acc : List D), acc.length + ns.length ≤ sizeLine → Q m (acc ++ (ext1 ns t).map rowD) →
    rLcIn (.one 7) rYes extT (ns.map D.int) acc m [.val q, .val v, .val ls, .val nu, .val ln, .val (.int a), .val (rowD t), .no] Q
  | [], acc, _, hk => by
    have := hk
    rw [show ext1 [] t = [] from rfl, List.map_nil, List.append_nil] at this
    exact this
  | n :: ns, acc, hl, hk => by
    simp only [List.length_cons] at hl
    have hL : 1000 ≤ sizeLine := by rw [sizeLine_eq]; omega
    have e : t.map D.int ++ [D.int n] = (t ++ [n]).map D.int := by rw [List.map_append]; rfl
    unfold rLcIn extT
    simp
    refine ⟨by omega, by omega, by omega, ?_⟩
    rw [e]
    refine in_ok ht ns (acc ++ [rowD (t ++ [n])]) (by rw [List.length_append]; simp; omega) ?_
    rw [List.append_assoc]
    exact hk
theorem go_ok {q v ls ln : D} {ws : List D} {a : Int} {ns : List Int} {m : Nat} {Q : Nat → List D → Prop} (hw : atI ws a = some (.lst (ns.map D.int))) : ∀ (T : List (List Int)) (acc : List D), (∀ t ∈ T, t.length ≤ 100) → acc.length + T.length * ns.length ≤ sizeLine → Q m (acc ++ (extP ns T).map rowD) →
    rLc2Go (.one 6) rYes (.one 7) [7] (rIt (rOp dIx (rVar 3) (rVar 5))) rYes extT (T.map rowD) acc m [.val q, .val v, .val ls, .val (.lst ws), .val ln, .val (.int a), .no, .no] Q
  | [], acc, _, _, hk => by
    have := hk
    rw [show extP ns [] = [] from rfl, List.map_nil, List.append_nil] at this
    exact this
  | t :: T, acc, ht, hl, hk => by
    simp only [List.length_cons, Nat.succ_mul] at hl
    unfold rLc2Go
    simp
    rw [hw]
    simp
    refine in_ok (ht t List.mem_cons_self) ns acc (by omega) ?_
    refine go_ok hw T (acc ++ (ext1 ns t).map rowD) (fun s hs => ht s (List.mem_cons_of_mem _ hs)) ?_ ?_
    · rw [List.length_append, List.length_map]
      unfold ext1
      rw [List.length_map]
      omega
    · rw [List.append_assoc, ← List.map_append]
      exact hk
def ansTurn : TSd := (rSeq (rSet 4 (rL (rLc2 (.one 6) [6, 7] (rIt (rVar 4)) rYes (.one 7) [7] (rIt (rOp dIx (rVar 3) (rVar 5))) rYes extT))) (rSet 4 (rL (rLc (.one 6) [6] (rIt (rVar 4)) (rTru (rFn 3 S_fits (fun _ _ => False) (rCons (rVar 0) (rCons (rVar 2) (rCons (rVar 6) rNil))))) (rVar 6)))))
def fitD (zs : List (List Int × List (List Int))) : D → Option D
  | .tup ds => match D.ints ds with | some t => if fitsP zs t = true then some (.tup ds) else none | none => none
  | _ => none
theorem fitD_row (zs : List (List Int × List (List Int))) (t : List Int) : fitD zs (rowD t) = if fitsP zs t = true then some (rowD t) else none := by
  show (match D.ints (t.map D.int) with | some t' => if fitsP zs t' = true then some (D.tup (t.map D.int)) else none | none => none) = _
  rw [DL.ints_of]
theorem fm_fit (zs : List (List Int × List (List Int))) : ∀ T : List (List Int), (T.map rowD).filterMap (fitD zs) = (T.filter (fitsP zs)).map rowD
  | [] => rfl
  | t :: T => by
    have e := fitD_row zs t
    rw [List.map_cons, List.filter_cons]
    by_cases h : fitsP zs t = true
    · rw [List.filterMap_cons_some (by rw [e, if_pos h]), fm_fit zs T, if_pos h]; rfl
    · rw [List.filterMap_cons_none (by rw [e, if_neg h]), fm_fit zs T, if_neg h]
def stepA (zs : List (List Int × List (List Int))) (T : List (List Int)) (j : Nat) : List (List Int) := (extP (valsP ((j : Nat) : Int) zs) T).filter (fitsP zs)
theorem ans_turn {B : EndsD} {m : Nat} {many : Int} {os : List (List Int)} {tbs : List (List (List Int))} {ws : List D} {j : Nat} {T : List (List Int)} (hq : Qok many os) (hs : StOk os tbs)
    (hw : atI ws ((j : Nat) : Int) = some (.lst ((valsP ((j : Nat) : Int) (os.zip tbs)).map D.int))) (ht : ∀ t ∈ T, t.length ≤ 90) (hl : T.length * (valsP ((j : Nat) : Int) (os.zip tbs)).length ≤ sizeLine)
    (hk : B.nx m [.val (qD many os), .val (stD tbs), .val (.lst (lotsP (os.zip tbs))), .val (.lst ws), .val (.lst ((stepA (os.zip tbs) T j).map rowD)), .val (.int ((j : Nat) : Int)), .no, .no]) :
    ansTurn B m [.val (qD many os), .val (stD tbs), .val (.lst (lotsP (os.zip tbs))), .val (.lst ws), .val (.lst (T.map rowD)), .val (.int ((j : Nat) : Int)), .no, .no] := by
  unfold ansTurn
  refine x_seq fun B1 n1 r1 _ _ => ?_
  refine x_set fun K hK => ?_
  simp
  refine go_ok hw T [] (fun t h => Nat.le_trans (ht t h) (by omega)) (by simp; exact hl) ?_
  rw [List.nil_append, hK, n1]; clear hK n1 r1
  refine x_set fun K hK => ?_
  simp
  refine lc_map (fitD (os.zip tbs)) _ _ (fun d hd K2 hk2 => ?_) ?_
  · obtain ⟨t, ht', rfl⟩ := List.mem_map.mp hd
    have hlt : t.length ≤ 100 := by
      obtain ⟨s, hs1, hs2⟩ := List.mem_flatMap.mp ht'
      obtain ⟨n, _, rfl⟩ := List.mem_map.mp hs2
      have := ht s hs1
      rw [List.length_append]
      simp
      omega
    have e := fitD_row (os.zip tbs) t
    rw [e] at hk2
    simp
    refine ⟨many, os, tbs, t, rfl, hq, hs, hlt, ?_⟩
    by_cases h : fitsP (os.zip tbs) t = true
    · rw [if_pos h] at hk2
      rw [h]
      exact hk2
    · rw [if_neg h] at hk2
      rw [Bool.not_eq_true] at h
      rw [h]
      exact hk2
  · rw [List.nil_append, fm_fit, hK]
    exact hk
end WK03

namespace WK03
open PySem L2 DL
/-! ### answers -/
theorem srt_len : ∀ ns : List Int, (srt ns).length = ns.length := fun ns => (srt_perm ns).length_eq
theorem foldP_len {a : Int} {c : Nat} : ∀ (zs : List (List Int × List (List Int))) (f : Option (List Int)), (∀ p ∈ zs, p.2.length ≤ c) → (∀ g, f = some g → g.length ≤ c) → ∀ g, zs.foldl (stepP a) f = some g → g.length ≤ c
  | [], f, _, hf, g, e => hf g e
  | p :: zs, f, h, hf, g, e => by
    refine foldP_len zs (stepP a f p) (fun p hp => h p (List.mem_cons_of_mem _ hp)) (fun g e => ?_) g e
    have hl := h p List.mem_cons_self
    unfold stepP at e
    split at e
    · cases e
      cases f with
      | none =>
        have := dedI_len (colA a p.1 p.2)
        unfold colA at this ⊢
        rw [List.length_map] at this
        exact Nat.le_trans this hl
      | some h =>
        have h1 := dedI_len (h.filter fun n => decide (n ∈ dedI (colA a p.1 p.2)))
        have h2 := List.length_filter_le (fun n => decide (n ∈ dedI (colA a p.1 p.2))) h
        have h3 := hf h rfl
        exact Nat.le_trans h1 (Nat.le_trans h2 h3)
    · exact hf g e
theorem valsP_len {a : Int} {c : Nat} {zs : List (List Int × List (List Int))} (h : ∀ p ∈ zs, p.2.length ≤ c) : (valsP a zs).length ≤ c := by
  unfold valsP
  cases e : foldP a zs with
  | none => exact Nat.zero_le _
  | some f =>
    show (srt f).length ≤ c
    rw [srt_len]
    exact foldP_len zs none h (fun g e => by cases e) f e
theorem extP_len (ns : List Int) : ∀ T : List (List Int), (extP ns T).length = T.length * ns.length
  | [] => by simp [extP]
  | t :: T => by
    show (ext1 ns t ++ extP ns T).length = _
    rw [List.length_append, extP_len ns T, List.length_cons, Nat.succ_mul]
    unfold ext1
    rw [List.length_map]
    omega
theorem stepA_len {zs : List (List Int × List (List Int))} {c : Nat} (h : ∀ p ∈ zs, p.2.length ≤ c) (T : List (List Int)) (j : Nat) : (stepA zs T j).length ≤ T.length * c := by
  unfold stepA
  refine Nat.le_trans (List.length_filter_le _ _) ?_
  rw [extP_len]
  exact Nat.mul_le_mul_left _ (valsP_len h)
theorem stepA_row {zs : List (List Int × List (List Int))} {T : List (List Int)} {j k : Nat} (h : ∀ t ∈ T, t.length ≤ k) : ∀ t ∈ stepA zs T j, t.length ≤ k + 1 := by
  intro t ht
  obtain ⟨s, hs1, hs2⟩ := List.mem_flatMap.mp (List.mem_filter.mp ht).1
  obtain ⟨n, _, rfl⟩ := List.mem_map.mp hs2
  have := h s hs1
  rw [List.length_append]
  simp
  omega
theorem can_get {zs : List (List Int × List (List Int))} {k j : Nat} (h : j < k) : atI (canL zs (List.range k)) ((j : Nat) : Int) = some (.lst ((valsP ((j : Nat) : Int) zs).map D.int)) := by
  have hl : j < (canL zs (List.range k)).length := by unfold canL; rw [List.length_map, List.length_range]; exact h
  rw [atI_eq hl]
  congr 1
  show (List.map (fun j : Nat => D.lst (List.map D.int (valsP ((j : Nat) : Int) zs))) (List.range k))[j]'(by rw [List.length_map, List.length_range]; exact h) = _
  rw [List.getElem_map, List.getElem_range]
theorem ans_loop {B : EndsD} {m : Nat} {many : Int} {os : List (List Int)} {tbs : List (List (List Int))} {c : Nat} (hq : Qok many os) (hs : StOk os tbs) (hc : 1 ≤ c) (hb : ∀ p ∈ os.zip tbs, p.2.length ≤ c) : ∀ (js : List Nat) (T : List (List Int)) (k : Nat) (x5 : DL.Slot), (∀ j ∈ js, j < many.toNat) → T.length * c ^ js.length ≤ sizeLine → (∀ t ∈ T, t.length ≤ k) → k + js.length ≤ 80 →
    (∀ x5, B.nx m [.val (qD many os), .val (stD tbs), .val (.lst (lotsP (os.zip tbs))), .val (.lst (canL (os.zip tbs) (List.range many.toNat))), .val (.lst ((js.foldl (stepA (os.zip tbs)) T).map rowD)), x5, .no, .no]) →
    rLoop (.one 5) ansTurn B (js.map fun j => D.int ((j : Nat) : Int)) m [.val (qD many os), .val (stD tbs), .val (.lst (lotsP (os.zip tbs))), .val (.lst (canL (os.zip tbs) (List.range many.toNat))), .val (.lst (T.map rowD)), x5, .no, .no]
  | [], T, k, x5, _, _, _, _, hk => hk x5
  | j :: js, T, k, x5, hj, hl, ht, hk1, hk => by
    simp only [List.length_cons, Nat.pow_succ] at hl hk1
    have hv := valsP_len (a := ((j : Nat) : Int)) hb
    have hp : 1 ≤ c ^ js.length := Nat.one_le_pow _ _ hc
    have h1 : T.length * c ≤ sizeLine := by
      refine Nat.le_trans ?_ hl
      rw [Nat.mul_comm (c ^ js.length) c, ← Nat.mul_assoc]
      exact Nat.le_mul_of_pos_right _ hp
    show ansTurn _ m [.val (qD many os), .val (stD tbs), .val (.lst (lotsP (os.zip tbs))), .val (.lst (canL (os.zip tbs) (List.range many.toNat))), .val (.lst (T.map rowD)), .val (.int ((j : Nat) : Int)), .no, .no]
    refine ans_turn hq hs (can_get (hj j List.mem_cons_self)) (fun t h => Nat.le_trans (ht t h) (by omega)) (Nat.le_trans (Nat.mul_le_mul_left _ hv) h1) ?_
    refine ans_loop hq hs hc hb js (stepA (os.zip tbs) T j) (k + 1) _ (fun i hi => hj i (List.mem_cons_of_mem _ hi)) ?_ (stepA_row ht) (by omega) hk
    refine Nat.le_trans (Nat.mul_le_mul_right _ (stepA_len hb T j)) ?_
    rw [Nat.mul_assoc, Nat.mul_comm c]
    exact hl
def ansL (zs : List (List Int × List (List Int))) (k : Nat) : List (List Int) := (List.range k).foldl (stepA zs) [[]]
def S_ans : Spd := fun ds m Q ε => ∃ w n many os v, ds = [qD many os, v] ∧ Qok many os ∧ w ≤ 60 ∧ good w n v ∧ (isSto os v = false → ε m "BadStore") ∧
  ∀ tbs, v = stD tbs → isSto os v = true → StOk os tbs → ∃ c, 1 ≤ c ∧ (∀ p ∈ os.zip tbs, p.2.length ≤ c) ∧ c ^ many.toNat ≤ sizeLine ∧ Q m (tabD (ansL (os.zip tbs) many.toNat))
theorem sto_ok {os : List (List Int)} {v : D} {w n : Nat} (es : isSto os v = true) (hw : w ≤ 60) (hg : good w n v) : ∃ tbs, v = stD tbs ∧ StOk os tbs := by
  obtain ⟨tbs, rfl, htl, hp⟩ := sto_of es
  refine ⟨tbs, rfl, htl, fun p hp' => ⟨?_, (hp p hp').1, (hp p hp').2⟩⟩
  cases n with
  | zero => exact hg.elim
  | succ n =>
    have g := hg.2 _ (List.mem_map.mpr ⟨p.2, (List.of_mem_zip hp').2, rfl⟩)
    cases n with
    | zero => exact g.elim
    | succ n =>
      have := g.1
      rw [List.length_map] at this
      omega
theorem p_ans (ε : Nat → Str → Prop) (ds : List D) (m : Nat) (Q : Nat → D → Prop) (hl : ds.length = 2) (h : S_ans ds m Q ε) : r_answers S_need S_needS S_lot S_can S_fits ε { nx := fun m _ => Q m .non, rt := Q } m (params ["query", "store", "lots", "numbers", "line", "attribute", "known", "number"] ds) := by
  obtain ⟨w, n, many, os, v, rfl, hq, hw, hg, h1, h2⟩ := h
  have hm8 := hq.m8
  have hm1 := hq.m1
  have e : r_answers S_need S_needS S_lot S_can S_fits ε = (rSeq (rDrop (rFn 1 S_need ε (rCons (rVar 0) rNil))) (rSeq (rDrop (rFn 2 S_needS ε (rCons (rVar 0) (rCons (rVar 1) rNil)))) (rSeq (rPar [2, 3] (pVal (rFn 2 S_lot ε (rCons (rVar 0) (rCons (rVar 1) rNil))) (pVal (rFn 2 S_can ε (rCons (rVar 0) (rCons (rVar 1) rNil))) pNil))) (rSeq (rSet 4 (rC (.lst [(.tup [])]))) (rSeq (rFor (.one 5) (rRng1 (rCons (rOp dIx (rVar 0) (rC (.int 0))) rNil)) ansTurn) (rRet (rCall dTuple (rCons (rVar 4) rNil)))))))) := rfl
  rw [e]; clear e
  refine x_seq fun B1 n1 r1 _ _ => ?_
  simp
  refine need_ok hq ?_
  rw [n1]; clear n1
  refine x_seq fun B2 n2 r2 _ _ => ?_
  simp
  refine needS_ok hq hg (fun es => ?_) h1
  rw [n2]; clear n2
  obtain ⟨tbs, rfl, hs⟩ := sto_ok es hw hg
  obtain ⟨c, hc, hb, hz, q⟩ := h2 tbs rfl es hs
  refine x_seq fun B3 n3 r3 _ _ => ?_
  simp
  refine ⟨many, os, tbs, rfl, hq, hs, ?_⟩
  refine ⟨many, os, tbs, rfl, hq, hs, ?_⟩
  rw [n3]; clear n3
  refine x_seq fun B4 n4 r4 _ _ => ?_
  simp
  rw [n4]; clear n4
  refine x_seq fun B5 n5 r5 _ _ => ?_
  refine x_for fun K hK => ?_
  simp [q_at0]
  refine ⟨by omega, by omega, ?_⟩
  rw [hK, ups_nat]; clear hK
  refine ans_loop hq hs hc hb (List.range many.toNat) [[]] 0 _ (fun j hj => List.mem_range.mp hj) (by rw [List.length_range]; simpa using hz) (fun t ht => by rw [List.mem_singleton.mp ht]; exact Nat.le_refl _) (by rw [List.length_range]; omega) fun x5 => ?_
  rw [n5]; clear n5
  simp
  exact q
end WK03

namespace WK03
open PySem L2 DL
/-! ### the answers, plainly: a beginning that fits -/
def Gd (zs : List (List Int × List (List Int))) (j : Nat) (t : List Int) : Prop := ∀ p ∈ zs, ∀ i, i < p.1.length → p.1.getD i 0 < (j : Int) → partP t (p.1.take (i + 1)) ∈ begs p.1.length p.2
theorem lex_snoc {n n' : Int} : ∀ {t : List Int}, n < n' → HT.lexLt (t ++ [n]) (t ++ [n']) = true
  | [], h => by
    show HT.lexLt [n] [n'] = true
    rw [HT.lexLt_cons, if_neg (by omega)]
    simpa using h
  | x :: t, h => by
    show HT.lexLt (x :: (t ++ [n])) (x :: (t ++ [n'])) = true
    rw [HT.lexLt_cons, if_pos rfl]
    exact lex_snoc h
theorem lex_snoc2 {n n' : Int} : ∀ {t t' : List Int}, t.length = t'.length → HT.lexLt t t' = true → HT.lexLt (t ++ [n]) (t' ++ [n']) = true
  | [], [], _, h => by cases h
  | [], _ :: _, e, _ => by cases e
  | _ :: _, [], e, _ => by cases e
  | x :: t, y :: t', e, h => by
    show HT.lexLt (x :: (t ++ [n])) (y :: (t' ++ [n'])) = true
    rw [HT.lexLt_cons] at h ⊢
    by_cases hx : x = y
    · rw [if_pos hx] at h ⊢
      exact lex_snoc2 (by simpa using e) h
    · rw [if_neg hx] at h ⊢
      exact h
theorem ext1_up {ns t : List Int} (h : ns.Pairwise (· < ·)) : rowUp (ext1 ns t) := by
  unfold ext1 rowUp
  rw [List.pairwise_map]
  exact h.imp fun h => lex_snoc h
theorem extP_up {ns : List Int} (h : ns.Pairwise (· < ·)) {k : Nat} : ∀ {T : List (List Int)}, rowUp T → (∀ t ∈ T, t.length = k) → rowUp (extP ns T)
  | [], _, _ => List.Pairwise.nil
  | t :: T, hu, hl => by
    have hu' : (t :: T).Pairwise fun a b => HT.lexLt a b = true := hu
    show (ext1 ns t ++ extP ns T).Pairwise _
    rw [List.pairwise_append]
    refine ⟨ext1_up h, extP_up h (List.Pairwise.of_cons hu') fun s hs => hl s (List.mem_cons_of_mem _ hs), fun a ha b hb => ?_⟩
    obtain ⟨n, _, rfl⟩ := List.mem_map.mp ha
    obtain ⟨s, hs, hb⟩ := List.mem_flatMap.mp hb
    obtain ⟨n', _, rfl⟩ := List.mem_map.mp hb
    exact lex_snoc2 (by rw [hl t List.mem_cons_self, hl s (List.mem_cons_of_mem _ hs)]) (List.rel_of_pairwise_cons hu' hs)
theorem partP_ext {t at' : List Int} {n : Int} (h : ∀ a ∈ at', 0 ≤ a ∧ a < (t.length : Nat)) : partP (t ++ [n]) at' = partP t at' := by
  unfold partP
  refine List.map_congr_left fun a ha => ?_
  have := h a ha
  rw [List.getD_eq_getElem?_getD, List.getD_eq_getElem?_getD, List.getElem?_append_left (by omega)]
theorem begs_full {w : Nat} {rs : List (List Int)} {x : List Int} (hr : ∀ r ∈ rs, r.length = w) (hw : 0 < w) (hx : x.length = w) : x ∈ begs w rs ↔ x ∈ rs := by
  rw [begs_mem]
  constructor
  · rintro ⟨r, h, j, hj, rfl⟩
    have e : (r.take (j + 1)).length = w := hx
    rw [List.length_take, hr r h] at e
    rw [List.take_of_length_le (by rw [hr r h]; omega)]
    exact h
  · intro h
    refine ⟨x, h, w - 1, by omega, ?_⟩
    rw [List.take_of_length_le (by omega)]
end WK03

namespace WK03
open PySem L2 DL
/-! ### the candidates, plainly -/
def memO (n : Int) : Option (List Int) → Prop
  | none => True
  | some g => n ∈ g
theorem stepP_mem {a n : Int} {f : Option (List Int)} {p : List Int × List (List Int)} : memO n (stepP a f p) ↔ memO n f ∧ (a ∈ p.1 → n ∈ colA a p.1 p.2) := by
  unfold stepP
  by_cases h : a ∈ p.1
  · rw [if_pos h]
    cases f with
    | none =>
      show n ∈ dedI (colA a p.1 p.2) ↔ True ∧ _
      rw [dedI_mem]
      exact ⟨fun x => ⟨True.intro, fun _ => x⟩, fun x => x.2 h⟩
    | some g =>
      show n ∈ dedI (g.filter fun n => decide (n ∈ dedI (colA a p.1 p.2))) ↔ n ∈ g ∧ _
      rw [dedI_mem, List.mem_filter, decide_eq_true_iff, dedI_mem]
      exact ⟨fun x => ⟨x.1, fun _ => x.2⟩, fun x => ⟨x.1, x.2 h⟩⟩
  · rw [if_neg h]
    exact ⟨fun x => ⟨x, fun y => absurd y h⟩, fun x => x.1⟩
theorem foldP_mem {a n : Int} : ∀ (zs : List (List Int × List (List Int))) (f : Option (List Int)), memO n (zs.foldl (stepP a) f) ↔ memO n f ∧ ∀ p ∈ zs, a ∈ p.1 → n ∈ colA a p.1 p.2
  | [], f => by simp
  | p :: zs, f => by
    show memO n (zs.foldl (stepP a) (stepP a f p)) ↔ _
    rw [foldP_mem zs, stepP_mem, List.forall_mem_cons, and_assoc]
theorem valsP_mem {a n : Int} {zs : List (List Int × List (List Int))} (h : ∃ p ∈ zs, a ∈ p.1) : n ∈ valsP a zs ↔ ∀ p ∈ zs, a ∈ p.1 → n ∈ colA a p.1 p.2 := by
  have hs : (foldP a zs).isSome = true := foldP_some _ _ (.inr h)
  have hm := foldP_mem (a := a) (n := n) zs none
  change memO n (foldP a zs) ↔ _ at hm
  unfold valsP
  cases e : foldP a zs with
  | none => rw [e] at hs; cases hs
  | some g =>
    rw [e] at hm
    show n ∈ srt g ↔ _
    rw [(srt_perm g).mem_iff]
    exact hm.trans ⟨fun x => x.2, fun x => ⟨True.intro, x⟩⟩
def nodO : Option (List Int) → Prop
  | none => True
  | some g => g.Nodup
theorem foldP_nod {a : Int} : ∀ (zs : List (List Int × List (List Int))) (f : Option (List Int)), nodO f → nodO (zs.foldl (stepP a) f)
  | [], f, h => h
  | p :: zs, f, h => by
    refine foldP_nod zs _ ?_
    unfold stepP
    split
    · cases f with
      | none => exact dedI_nodup _
      | some g => exact dedI_nodup _
    · exact h
theorem valsP_up {a : Int} {zs : List (List Int × List (List Int))} : (valsP a zs).Pairwise (· < ·) := by
  have hn := foldP_nod (a := a) zs none True.intro
  change nodO (foldP a zs) at hn
  unfold valsP
  cases e : foldP a zs with
  | none => exact List.Pairwise.nil
  | some g =>
    rw [e] at hn
    show (srt g).Pairwise (· < ·)
    have h2 : (srt g).Nodup := (srt_perm g).nodup_iff.mpr hn
    exact ((srt_up g).and h2).imp fun h => by
      have h1 := h.1
      have h2 := h.2
      omega
theorem extP_mem {ns : List Int} {T : List (List Int)} {x : List Int} : x ∈ extP ns T ↔ ∃ t ∈ T, ∃ n ∈ ns, x = t ++ [n] := by
  unfold extP ext1
  simp only [List.mem_flatMap, List.mem_map, eq_comm]
theorem stepA_up {zs : List (List Int × List (List Int))} {T : List (List Int)} {j k : Nat} (h : rowUp T) (hl : ∀ t ∈ T, t.length = k) : rowUp (stepA zs T j) := by
  unfold stepA
  have := extP_up (valsP_up (a := ((j : Nat) : Int)) (zs := zs)) h hl
  exact List.Pairwise.filter _ this
end WK03

namespace WK03
open PySem L2 DL
/-! ### one attribute more, plainly -/
theorem get_mem {ns : List Int} {i : Nat} (h : i < ns.length) : ns.getD i 0 ∈ ns := by
  rw [List.getD_eq_getElem?_getD, List.getElem?_eq_getElem h]
  exact List.getElem_mem h
theorem idx_get : ∀ {ns : List Int} {i : Nat}, ns.Pairwise (· < ·) → i < ns.length → ns.idxOf (ns.getD i 0) = i
  | [], _, _, h => by cases h
  | x :: xs, 0, _, _ => by simp
  | x :: xs, i + 1, hp, h => by
    have hi : i < xs.length := by simpa using h
    have e : (x :: xs).getD (i + 1) 0 = xs.getD i 0 := by simp
    have hx := List.rel_of_pairwise_cons hp (get_mem hi)
    have eb : (x == xs.getD i 0) = false := beq_eq_false_iff_ne.mpr (by omega)
    rw [e, List.idxOf_cons, eb, cond_false, idx_get (List.Pairwise.of_cons hp) hi]
theorem get_idx {ns : List Int} {a : Int} (h : a ∈ ns) : ns.getD (ns.idxOf a) 0 = a := by
  have hl := List.idxOf_lt_length_of_mem h
  rw [List.getD_eq_getElem?_getD, List.getElem?_eq_getElem hl]
  exact List.getElem_idxOf hl
/-- what zs keeps to -/
structure Zok (many : Nat) (zs : List (List Int × List (List Int))) : Prop where
  up : ∀ p ∈ zs, p.1.Pairwise (· < ·)
  bd : ∀ p ∈ zs, ∀ a ∈ p.1, 0 ≤ a ∧ a < (many : Int)
  ne : ∀ p ∈ zs, p.1 ≠ []
  row : ∀ p ∈ zs, ∀ r ∈ p.2, r.length = p.1.length
  cov : ∀ a, 0 ≤ a → a < (many : Int) → ∃ p ∈ zs, a ∈ p.1
theorem part_take {many : Nat} {zs : List (List Int × List (List Int))} (z : Zok many zs) {p : List Int × List (List Int)} (hp : p ∈ zs) {t : List Int} {n : Int} {i : Nat} (hi : i < p.1.length) (h : p.1.getD i 0 < (t.length : Nat)) : partP (t ++ [n]) (p.1.take (i + 1)) = partP t (p.1.take (i + 1)) := by
  refine partP_ext fun a ha => ?_
  have h1 := take_le (z.up p hp) (get_mem hi) a (by rw [idx_get (z.up p hp) hi]; exact ha)
  exact ⟨(z.bd p hp a h1.2).1, by omega⟩
theorem fits_iff {zs : List (List Int × List (List Int))} {t : List Int} {n : Int} : fitsP zs (t ++ [n]) = true ↔ ∀ p ∈ zs, ((t.length : Nat) : Int) ∈ p.1 → partP (t ++ [n]) (p.1.take (p.1.idxOf ((t.length : Nat) : Int) + 1)) ∈ begs p.1.length p.2 := by
  have e : (((t ++ [n]).length : Nat) : Int) - 1 = ((t.length : Nat) : Int) := by rw [List.length_append]; simp
  unfold fitsP
  rw [e, List.all_eq_true]
  refine forall_congr' fun p => forall_congr' fun _ => ?_
  unfold fitOk
  rw [Bool.or_eq_true, Bool.not_eq_true', decide_eq_false_iff_not, decide_eq_true_iff]
  by_cases h : ((t.length : Nat) : Int) ∈ p.1
  · simp [h]
  · simp [h]
theorem Gd_step {many : Nat} {zs : List (List Int × List (List Int))} (z : Zok many zs) {t : List Int} {n : Int} : Gd zs (t.length + 1) (t ++ [n]) ↔ Gd zs t.length t ∧ fitsP zs (t ++ [n]) = true := by
  rw [fits_iff]
  constructor
  · intro g
    refine ⟨fun p hp i hi h => ?_, fun p hp h => ?_⟩
    · have := g p hp i hi (by omega)
      rw [part_take z hp hi h] at this
      exact this
    · exact g p hp _ (List.idxOf_lt_length_of_mem h) (by rw [get_idx h]; omega)
  · rintro ⟨g, f⟩ p hp i hi h
    by_cases h2 : p.1.getD i 0 < ((t.length : Nat) : Int)
    · rw [part_take z hp hi h2]
      exact g p hp i hi h2
    · have e : p.1.getD i 0 = ((t.length : Nat) : Int) := by omega
      have h3 := f p hp (by rw [← e]; exact get_mem hi)
      rw [← e, idx_get (z.up p hp) hi] at h3
      exact h3
/-- what the tables have at the attribute, once the beginning fits -/
theorem Gd_cand {many : Nat} {zs : List (List Int × List (List Int))} (z : Zok many zs) {t : List Int} {n : Int} (ht : t.length < many) (g : fitsP zs (t ++ [n]) = true) : n ∈ valsP ((t.length : Nat) : Int) zs := by
  rw [valsP_mem (z.cov _ (by omega) (by omega))]
  intro p hp h
  have h1 := fits_iff.mp g p hp h
  obtain ⟨r, hr, j, hj, e⟩ := (begs_mem _ _ _).mp h1
  have hi := List.idxOf_lt_length_of_mem h
  have hrl := z.row p hp r hr
  have el : (partP (t ++ [n]) (p.1.take (p.1.idxOf ((t.length : Nat) : Int) + 1))).length = (r.take (j + 1)).length := by rw [e]
  unfold partP at el
  rw [List.length_map, List.length_take, List.length_take] at el
  have ej : j = p.1.idxOf ((t.length : Nat) : Int) := by omega
  subst ej
  have e2 := congrArg (fun l : List Int => l[p.1.idxOf ((t.length : Nat) : Int)]?) e
  simp only [partP, List.getElem?_map, List.getElem?_take_of_lt (Nat.lt_succ_self _)] at e2
  rw [List.getElem?_eq_getElem hi, List.getElem?_eq_getElem (by omega)] at e2
  have e3 : p.1[p.1.idxOf ((t.length : Nat) : Int)] = ((t.length : Nat) : Int) := List.getElem_idxOf hi
  rw [e3] at e2
  simp at e2
  unfold colA
  refine List.mem_map.mpr ⟨r, hr, ?_⟩
  rw [List.getD_eq_getElem?_getD, List.getElem?_eq_getElem (by omega)]
  exact e2.symm
end WK03

namespace WK03
open PySem L2 DL
/-! ### the answers, plainly -/
theorem ansL_succ (zs : List (List Int × List (List Int))) (k : Nat) : ansL zs (k + 1) = stepA zs (ansL zs k) k := by
  unfold ansL
  rw [List.range_succ, List.foldl_append]
  rfl
theorem ansL_inv {many : Nat} {zs : List (List Int × List (List Int))} (z : Zok many zs) : ∀ k, k ≤ many → rowUp (ansL zs k) ∧ ∀ t, t ∈ ansL zs k ↔ t.length = k ∧ Gd zs k t
  | 0, _ => by
    refine ⟨List.pairwise_singleton _ _, fun t => ?_⟩
    show t ∈ [[]] ↔ _
    rw [List.mem_singleton]
    constructor
    · rintro rfl
      refine ⟨rfl, fun p hp i hi h => ?_⟩
      have := (z.bd p hp _ (get_mem hi)).1
      omega
    · rintro ⟨h, _⟩
      exact List.length_eq_zero_iff.mp h
  | k + 1, hk => by
    obtain ⟨h1, h2⟩ := ansL_inv z k (by omega)
    rw [ansL_succ]
    refine ⟨stepA_up h1 fun t ht => ((h2 t).mp ht).1, fun t => ?_⟩
    unfold stepA
    rw [List.mem_filter, extP_mem]
    constructor
    · rintro ⟨⟨s, hs, n, hn, rfl⟩, hf⟩
      obtain ⟨rfl, g⟩ := (h2 s).mp hs
      exact ⟨by rw [List.length_append]; simp, (Gd_step z).mpr ⟨g, hf⟩⟩
    · rintro ⟨hl, g⟩
      obtain ⟨s, n, rfl⟩ : ∃ s n, t = s ++ [n] := by
        refine ⟨t.dropLast, t.getLast (by intro e; rw [e] at hl; cases hl), ?_⟩
        rw [List.dropLast_concat_getLast]
      have hs : s.length = k := by rw [List.length_append] at hl; simpa using hl
      subst hs
      obtain ⟨g1, g2⟩ := (Gd_step z).mp g
      exact ⟨⟨s, (h2 s).mpr ⟨rfl, g1⟩, n, Gd_cand z (by omega) g2, rfl⟩, g2⟩
theorem Gd_full {many : Nat} {zs : List (List Int × List (List Int))} (z : Zok many zs) {t : List Int} (ht : t.length = many) : Gd zs many t ↔ ∀ p ∈ zs, partP t p.1 ∈ p.2 := by
  constructor
  · intro g p hp
    have hpos : 0 < p.1.length := List.length_pos_iff.mpr (z.ne p hp)
    have hi : p.1.length - 1 < p.1.length := by omega
    have h := g p hp _ hi (z.bd p hp _ (get_mem hi)).2
    rw [List.take_of_length_le (by omega)] at h
    exact (begs_full (z.row p hp) hpos (by unfold partP; rw [List.length_map])).mp h
  · intro g p hp i hi _
    rw [begs_mem]
    refine ⟨_, g p hp, i, hi, ?_⟩
    unfold partP
    rw [List.map_take]
theorem ansL_spec {many : Nat} {zs : List (List Int × List (List Int))} (z : Zok many zs) : rowUp (ansL zs many) ∧ ∀ t, t ∈ ansL zs many ↔ t.length = many ∧ ∀ p ∈ zs, partP t p.1 ∈ p.2 := by
  obtain ⟨h1, h2⟩ := ansL_inv z many (Nat.le_refl _)
  refine ⟨h1, fun t => (h2 t).trans ?_⟩
  constructor
  · rintro ⟨hl, g⟩
    exact ⟨hl, (Gd_full z hl).mp g⟩
  · rintro ⟨hl, g⟩
    exact ⟨hl, (Gd_full z hl).mpr g⟩
theorem zok_of {many : Int} {os : List (List Int)} {tbs : List (List (List Int))} (hq : Qok many os) (hs : StOk os tbs) : Zok many.toNat (os.zip tbs) := by
  have h1 := hq.m1
  refine ⟨fun p hp => hq.up _ (List.of_mem_zip hp).1, fun p hp a ha => ?_, fun p hp => hq.ne _ (List.of_mem_zip hp).1, fun p hp r hr => ((hs.2 p hp).2.2 r hr).1, fun a h0 h => ?_⟩
  · have := hq.bd _ (List.of_mem_zip hp).1 a ha
    omega
  · obtain ⟨ns, hns, ha⟩ := hq.cov a h0 (by omega)
    obtain ⟨p, hp1, hp2⟩ := zip_has hs.1 hns
    exact ⟨p, hp1, by rw [hp2]; exact ha⟩
end WK03

namespace WK03
open PySem L2 DL
/-! ### dicts, plainly -/
abbrev KV2 := List (Int × Int)
theorem lk_nil (a : Int) : lkI [] a = none := rfl
theorem lk_cons (p : Int × Int) (kvs : KV2) (a : Int) : lkI (p :: kvs) a = if p.1 = a then some p.2 else lkI kvs a := by
  unfold lkI
  rw [List.find?_cons]
  by_cases h : p.1 = a
  · rw [decide_eq_true h, if_pos h]; rfl
  · rw [decide_eq_false h, if_neg h]
theorem lk_app (kvs ls : KV2) (a : Int) : lkI (kvs ++ ls) a = match lkI kvs a with | some v => some v | none => lkI ls a := by
  induction kvs with
  | nil => rfl
  | cons p kvs ih =>
    rw [List.cons_append, lk_cons, lk_cons, ih]
    by_cases h : p.1 = a
    · rw [if_pos h, if_pos h]
    · rw [if_neg h, if_neg h]
theorem lk_none {kvs : KV2} {a : Int} (h : (kvs.any fun p => decide (p.1 = a)) = false) : lkI kvs a = none := by
  induction kvs with
  | nil => rfl
  | cons p kvs ih =>
    rw [List.any_cons, Bool.or_eq_false_iff, decide_eq_false_iff_not] at h
    rw [lk_cons, if_neg h.1]
    exact ih h.2
theorem lk_put (kvs : KV2) (k v a : Int) : lkI (putI kvs k v) a = if a = k then some v else lkI kvs a := by
  unfold putI
  split
  · rename_i h
    induction kvs with
    | nil => cases h
    | cons p kvs ih =>
      rw [List.map_cons, lk_cons, lk_cons]
      by_cases hp : p.1 = k
      · rw [if_pos hp]
        by_cases ha : a = k
        · rw [if_pos (by rw [hp, ha]), if_pos ha]
        · rw [if_neg (by rw [hp]; exact fun e => ha e.symm), if_neg ha, if_neg (by rw [hp]; exact fun e => ha e.symm)]
          by_cases h2 : (kvs.any fun p => decide (p.1 = k)) = true
          · rw [ih h2, if_neg ha]
          · have : kvs.map (fun p => if p.1 = k then (p.1, v) else p) = kvs := by
              refine (List.map_congr_left fun q hq => ?_).trans (List.map_id _)
              have : ¬ q.1 = k := fun e => h2 (List.any_eq_true.mpr ⟨q, hq, decide_eq_true e⟩)
              rw [if_neg this]; rfl
            rw [this]
      · rw [if_neg hp]
        have h2 : (kvs.any fun p => decide (p.1 = k)) = true := by
          rw [List.any_cons, decide_eq_false hp, Bool.false_or] at h
          exact h
        rw [ih h2]
        by_cases ha : a = k
        · subst ha; simp [hp]
        · simp [ha]
  · rename_i h
    have h' : (kvs.any fun p => decide (p.1 = k)) = false := Bool.eq_false_iff.mpr h
    rw [lk_app]
    by_cases ha : a = k
    · rw [ha, lk_none h', if_pos rfl, lk_cons, if_pos rfl]
    · rw [if_neg ha, lk_cons, if_neg (fun e => ha e.symm), lk_nil]
      cases lkI kvs a <;> rfl
theorem mer_new : ∀ (ps acc : KV2), ((acc ++ ps).map (·.1)).Nodup → merI acc ps = acc ++ ps
  | [], acc, _ => by rw [List.append_nil]; rfl
  | p :: ps, acc, h => by
    show merI (putI acc p.1 p.2) ps = _
    have hn : ¬ (acc.any fun q => decide (q.1 = p.1)) = true := by
      rw [List.any_eq_true]
      rintro ⟨q, hq, e⟩
      rw [decide_eq_true_iff] at e
      rw [List.map_append, List.nodup_append] at h
      exact h.2.2 q.1 (List.mem_map.mpr ⟨q, hq, rfl⟩) p.1 (by rw [List.map_cons]; exact List.mem_cons_self) e
    have e : putI acc p.1 p.2 = acc ++ [p] := by unfold putI; rw [if_neg hn]
    rw [e, mer_new ps (acc ++ [p]) (by rw [List.append_assoc]; exact h), List.append_assoc]
    rfl
theorem zip_keys {ns r : List Int} (h : r.length = ns.length) : (ns.zip r).map (·.1) = ns := by
  rw [List.map_fst_zip (by omega)]
theorem mer_zip {ns r : List Int} (h : r.length = ns.length) (hn : ns.Nodup) : merI [] (ns.zip r) = ns.zip r := by
  have := mer_new (ns.zip r) [] (by rw [List.nil_append, zip_keys h]; exact hn)
  rw [List.nil_append] at this
  exact this
theorem idx_ne {n a : Int} {ns : List Int} (h : n ≠ a) : (n :: ns).idxOf a = ns.idxOf a + 1 := by
  have e : (n == a) = false := by simpa using h
  unfold List.idxOf
  rw [List.findIdx_cons, e]
  rfl
theorem lk_zip : ∀ {ns r : List Int}, r.length = ns.length → ∀ a, lkI (ns.zip r) a = if a ∈ ns then some (r.getD (ns.idxOf a) 0) else none
  | [], r, _, a => rfl
  | n :: ns, [], h, a => by cases h
  | n :: ns, x :: r, h, a => by
    rw [List.zip_cons_cons, lk_cons, lk_zip (by simpa using h) a]
    by_cases e : n = a
    · subst e; simp
    · have e' : ¬ a = n := fun z => e z.symm
      rw [if_neg e]
      by_cases ha : a ∈ ns
      · rw [if_pos ha, if_pos (List.mem_cons_of_mem _ ha), idx_ne e]; rfl
      · rw [if_neg ha, if_neg (by simp [e', ha])]
theorem lk_mer : ∀ {ns r : List Int} (kn : KV2), r.length = ns.length → ns.Nodup → ∀ a, lkI (merI kn (ns.zip r)) a = if a ∈ ns then some (r.getD (ns.idxOf a) 0) else lkI kn a
  | [], r, kn, _, _, a => rfl
  | n :: ns, [], kn, h, _, a => by cases h
  | n :: ns, x :: r, kn, h, hn, a => by
    rw [List.nodup_cons] at hn
    show lkI (merI (putI kn n x) (ns.zip r)) a = _
    rw [lk_mer (putI kn n x) (by simpa using h) hn.2 a, lk_put]
    by_cases e : a = n
    · subst e
      rw [if_neg hn.1, if_pos rfl, if_pos List.mem_cons_self, List.idxOf_cons_self]; rfl
    · by_cases ha : a ∈ ns
      · rw [if_pos ha, if_pos (List.mem_cons_of_mem _ ha), idx_ne (fun z => e z.symm)]; rfl
      · rw [if_neg ha, if_neg e, if_neg (by simp [e, ha])]
/-! ### joining table by table, plainly -/
def agreeB (kn : KV2) (ps : KV2) : Bool := ps.all fun p => decide ((lkI kn p.1).getD p.2 = p.2)
def joinR (kn : KV2) (ns : List Int) : List (List Int) → List KV2
  | [] => []
  | r :: rs => (if agreeB kn (ns.zip r) = true then [merI kn (merI [] (ns.zip r))] else []) ++ joinR kn ns rs
def joinP (L : List KV2) (p : List Int × List (List Int)) : List KV2 := L.flatMap fun kn => joinR kn p.1 p.2
def joinL (zs : List (List Int × List (List Int))) : List KV2 := zs.foldl joinP [[]]
theorem joinR_mem {kn : KV2} {ns : List Int} {k : KV2} : ∀ {rs : List (List Int)}, k ∈ joinR kn ns rs ↔ ∃ r ∈ rs, agreeB kn (ns.zip r) = true ∧ k = merI kn (merI [] (ns.zip r))
  | [] => by simp [joinR]
  | r :: rs => by
    unfold joinR
    rw [List.mem_append, joinR_mem (rs := rs)]
    constructor
    · rintro (h | ⟨s, hs, h⟩)
      · split at h
        · rename_i e
          exact ⟨r, List.mem_cons_self, e, List.mem_singleton.mp h⟩
        · cases h
      · exact ⟨s, List.mem_cons_of_mem _ hs, h⟩
    · rintro ⟨s, hs, e, h⟩
      rcases List.mem_cons.mp hs with rfl | hs
      · left; rw [if_pos e]; exact List.mem_singleton.mpr h
      · right; exact ⟨s, hs, e, h⟩
theorem joinR_len (kn : KV2) (ns : List Int) : ∀ rs : List (List Int), (joinR kn ns rs).length ≤ rs.length
  | [] => Nat.le_refl _
  | r :: rs => by
    unfold joinR
    have := joinR_len kn ns rs
    rw [List.length_append, List.length_cons]
    split
    · simp; omega
    · simp; omega
theorem joinP_len {p : List Int × List (List Int)} {c : Nat} (h : p.2.length ≤ c) : ∀ L : List KV2, (joinP L p).length ≤ L.length * c
  | [] => by simp [joinP]
  | kn :: L => by
    show (joinR kn p.1 p.2 ++ joinP L p).length ≤ _
    have h1 := joinR_len kn p.1 p.2
    have h2 := joinP_len h L
    rw [List.length_append, List.length_cons, Nat.succ_mul]
    omega
end WK03

namespace WK03
open PySem L2 DL
/-! ### renamings, plainly -/
def rangeI (n : Nat) : List Int := (List.range n).map fun j : Nat => (j : Int)
theorem mem_rangeI {n : Nat} {a : Int} : a ∈ rangeI n ↔ 0 ≤ a ∧ a < (n : Int) := by
  unfold rangeI
  rw [List.mem_map]
  constructor
  · rintro ⟨j, hj, rfl⟩
    have := List.mem_range.mp hj
    omega
  · intro h
    exact ⟨a.toNat, List.mem_range.mpr (by omega), by omega⟩
theorem rangeI_up (n : Nat) : (rangeI n).Pairwise (· < ·) := by
  unfold rangeI
  rw [List.pairwise_map]
  exact List.pairwise_lt_range.imp fun h => by omega
theorem up_nodup {ns : List Int} (h : ns.Pairwise (· < ·)) : ns.Nodup := h.imp fun h e => by omega
theorem up_of {ns : List Int} (h : ns.Pairwise (· ≤ ·)) (n : ns.Nodup) : ns.Pairwise (· < ·) := (h.and n).imp fun ⟨a, b⟩ => by omega
def pA (p : List Int) (a : Int) : Int := p.getD a.toNat 0
structure IsP (many : Nat) (p : List Int) : Prop where
  perm : p.Perm (rangeI many)
theorem IsP.len {many : Nat} {p : List Int} (h : IsP many p) : p.length = many := by
  rw [h.perm.length_eq]; unfold rangeI; rw [List.length_map, List.length_range]
theorem IsP.nod {many : Nat} {p : List Int} (h : IsP many p) : p.Nodup := h.perm.nodup_iff.mpr (up_nodup (rangeI_up many))
theorem IsP.bd {many : Nat} {p : List Int} (h : IsP many p) : ∀ x ∈ p, 0 ≤ x ∧ x < (many : Int) := fun x hx => mem_rangeI.mp (h.perm.mem_iff.mp hx)
theorem IsP.has {many : Nat} {p : List Int} (h : IsP many p) {b : Int} (h0 : 0 ≤ b) (h1 : b < (many : Int)) : b ∈ p := h.perm.mem_iff.mpr (mem_rangeI.mpr ⟨h0, h1⟩)
theorem getD_mem {ns : List Int} {i : Nat} (h : i < ns.length) : ns.getD i 0 ∈ ns := by
  rw [List.getD_eq_getElem?_getD, List.getElem?_eq_getElem h]
  exact List.getElem_mem h
theorem nod_idx : ∀ {ns : List Int} {i : Nat}, ns.Nodup → i < ns.length → ns.idxOf (ns.getD i 0) = i
  | [], i, _, h => by cases h
  | n :: ns, 0, _, _ => by
    show (n :: ns).idxOf n = 0
    rw [List.idxOf_cons, beq_self_eq_true, cond_true]
  | n :: ns, i + 1, hn, h => by
    have hi : i < ns.length := by simpa using h
    obtain ⟨h1, h2⟩ := List.nodup_cons.mp hn
    show (n :: ns).idxOf (ns.getD i 0) = i + 1
    have ne : ¬ n = ns.getD i 0 := fun e => h1 (e ▸ getD_mem hi)
    rw [List.idxOf_cons, beq_eq_false_iff_ne.mpr ne, cond_false, nod_idx h2 hi]
theorem pA_mem {many : Nat} {p : List Int} (h : IsP many p) {a : Int} (h0 : 0 ≤ a) (h1 : a < (many : Int)) : pA p a ∈ p := getD_mem (by rw [h.len]; omega)
theorem pA_bd {many : Nat} {p : List Int} (h : IsP many p) {a : Int} (h0 : 0 ≤ a) (h1 : a < (many : Int)) : 0 ≤ pA p a ∧ pA p a < (many : Int) := h.bd _ (pA_mem h h0 h1)
theorem pA_idx {many : Nat} {p : List Int} (h : IsP many p) {a : Int} (h0 : 0 ≤ a) (h1 : a < (many : Int)) : p.idxOf (pA p a) = a.toNat := nod_idx h.nod (by rw [h.len]; omega)
theorem pA_inj {many : Nat} {p : List Int} (h : IsP many p) {a b : Int} (h0 : 0 ≤ a) (h1 : a < (many : Int)) (g0 : 0 ≤ b) (g1 : b < (many : Int)) (e : pA p a = pA p b) : a = b := by
  have e1 := pA_idx h h0 h1
  have e2 := pA_idx h g0 g1
  rw [e, e2] at e1
  omega
theorem idx_lt {many : Nat} {p : List Int} (h : IsP many p) {b : Int} (h0 : 0 ≤ b) (h1 : b < (many : Int)) : p.idxOf b < many := by
  have := List.idxOf_lt_length_of_mem (h.has h0 h1)
  rw [h.len] at this
  exact this
theorem pA_of_idx {many : Nat} {p : List Int} (h : IsP many p) {b : Int} (h0 : 0 ≤ b) (h1 : b < (many : Int)) : pA p ((p.idxOf b : Nat) : Int) = b := by
  unfold pA
  rw [Int.toNat_natCast]
  exact get_idx (h.has h0 h1)
/-- the places' inverse -/
def backP (many : Nat) (p : List Int) : List Int := (rangeI many).map fun j => ((p.idxOf j : Nat) : Int)
theorem pA_back {many : Nat} {p : List Int} (h : IsP many p) {b : Int} (h0 : 0 ≤ b) (h1 : b < (many : Int)) : pA (backP many p) b = ((p.idxOf b : Nat) : Int) := by
  unfold pA backP rangeI
  have hb : b.toNat < many := by omega
  rw [List.getD_eq_getElem?_getD, List.getElem?_map, List.getElem?_map, List.getElem?_range hb]
  show ((p.idxOf ((b.toNat : Nat) : Int) : Nat) : Int) = _
  rw [Int.toNat_of_nonneg h0]
theorem back_pA {many : Nat} {p : List Int} (h : IsP many p) {a : Int} (h0 : 0 ≤ a) (h1 : a < (many : Int)) : pA (backP many p) (pA p a) = a := by
  obtain ⟨b0, b1⟩ := pA_bd h h0 h1
  rw [pA_back h b0 b1, pA_idx h h0 h1]
  omega
theorem nodup_map {f : Int → Int} : ∀ {ns : List Int}, ns.Nodup → (∀ a ∈ ns, ∀ b ∈ ns, f a = f b → a = b) → (ns.map f).Nodup
  | [], _, _ => List.nodup_nil
  | n :: ns, h, hf => by
    obtain ⟨h1, h2⟩ := List.nodup_cons.mp h
    rw [List.map_cons, List.nodup_cons]
    refine ⟨fun hm => ?_, nodup_map h2 fun a ha b hb => hf a (List.mem_cons_of_mem _ ha) b (List.mem_cons_of_mem _ hb)⟩
    obtain ⟨x, hx, e⟩ := List.mem_map.mp hm
    have := hf x (List.mem_cons_of_mem _ hx) n List.mem_cons_self e
    subst this
    exact h1 hx
theorem nodup_perm {ns ms : List Int} (hn : ns.Nodup) (hm : ms.Nodup) (e : ∀ a, a ∈ ns ↔ a ∈ ms) : ns.Perm ms := (List.perm_ext_iff_of_nodup hn hm).mpr e
theorem back_isP {many : Nat} {p : List Int} (h : IsP many p) : IsP many (backP many p) := by
  refine ⟨nodup_perm (nodup_map (up_nodup (rangeI_up many)) fun a ha b hb e => ?_) (up_nodup (rangeI_up many)) fun a => ?_⟩
  · obtain ⟨a0, a1⟩ := mem_rangeI.mp ha
    obtain ⟨b0, b1⟩ := mem_rangeI.mp hb
    rw [← pA_of_idx h a0 a1, ← pA_of_idx h b0 b1, e]
  · show a ∈ (rangeI many).map (fun j => ((p.idxOf j : Nat) : Int)) ↔ _
    rw [List.mem_map]
    constructor
    · rintro ⟨x, hx, rfl⟩
      obtain ⟨x0, x1⟩ := mem_rangeI.mp hx
      exact mem_rangeI.mpr ⟨by omega, by have := idx_lt h x0 x1; omega⟩
    · intro ha
      obtain ⟨a0, a1⟩ := mem_rangeI.mp ha
      obtain ⟨b0, b1⟩ := pA_bd h a0 a1
      exact ⟨pA p a, mem_rangeI.mpr ⟨b0, b1⟩, by rw [pA_idx h a0 a1]; omega⟩
/-! one atom -/
structure AtomOk (many : Nat) (at' : List Int) : Prop where
  up : at'.Pairwise (· < ·)
  bd : ∀ a ∈ at', 0 ≤ a ∧ a < (many : Int)
def nmd (p at' : List Int) : List Int := at'.map (pA p)
def renA (p at' : List Int) : List Int := srt (nmd p at')
def renRow (p at' row : List Int) : List Int := (renA p at').map fun a => row.getD ((nmd p at').idxOf a) 0
theorem nmd_nod {many : Nat} {p at' : List Int} (h : IsP many p) (o : AtomOk many at') : (nmd p at').Nodup :=
  nodup_map (up_nodup o.up) fun a ha b hb e => pA_inj h (o.bd a ha).1 (o.bd a ha).2 (o.bd b hb).1 (o.bd b hb).2 e
theorem renA_perm (p at' : List Int) : (renA p at').Perm (nmd p at') := srt_perm _
theorem renA_nod {many : Nat} {p at' : List Int} (h : IsP many p) (o : AtomOk many at') : (renA p at').Nodup := (renA_perm p at').nodup_iff.mpr (nmd_nod h o)
theorem renA_mem {p at' : List Int} {x : Int} : x ∈ renA p at' ↔ ∃ a ∈ at', pA p a = x := by
  rw [(renA_perm p at').mem_iff]; unfold nmd; rw [List.mem_map]
theorem renA_ok {many : Nat} {p at' : List Int} (h : IsP many p) (o : AtomOk many at') : AtomOk many (renA p at') := by
  refine ⟨up_of (srt_up _) (renA_nod h o), fun x hx => ?_⟩
  obtain ⟨a, ha, rfl⟩ := renA_mem.mp hx
  exact pA_bd h (o.bd a ha).1 (o.bd a ha).2
theorem renA_len (p at' : List Int) : (renA p at').length = at'.length := by
  unfold renA nmd; rw [srt_len, List.length_map]
theorem renRow_len (p at' row : List Int) : (renRow p at' row).length = at'.length := by
  unfold renRow; rw [List.length_map, renA_len]
theorem idx_map {f : Int → Int} {a : Int} : ∀ {ns : List Int}, (∀ x ∈ ns, f x = f a → x = a) → a ∈ ns → (ns.map f).idxOf (f a) = ns.idxOf a
  | [], _, h => by cases h
  | n :: ns, hf, h => by
    rw [List.map_cons, List.idxOf_cons, List.idxOf_cons]
    by_cases e : n = a
    · subst e
      rw [beq_self_eq_true, beq_self_eq_true]; rfl
    · have e2 : ¬ f n = f a := fun z => e (hf n List.mem_cons_self z)
      rw [beq_eq_false_iff_ne.mpr e, beq_eq_false_iff_ne.mpr e2, cond_false, cond_false, idx_map (fun x hx => hf x (List.mem_cons_of_mem _ hx)) (by
        rcases List.mem_cons.mp h with z | z
        · exact absurd z.symm e
        · exact z)]
theorem nmd_idx {many : Nat} {p at' : List Int} (h : IsP many p) (o : AtomOk many at') {a : Int} (ha : a ∈ at') : (nmd p at').idxOf (pA p a) = at'.idxOf a :=
  idx_map (fun x hx e => pA_inj h (o.bd x hx).1 (o.bd x hx).2 (o.bd a ha).1 (o.bd a ha).2 e) ha
theorem map_at {f : Int → Int} {ns : List Int} {a : Int} (h : a ∈ ns) : (ns.map f).getD (ns.idxOf a) 0 = f a := by
  have hl := List.idxOf_lt_length_of_mem h
  rw [List.getD_eq_getElem?_getD, List.getElem?_map, List.getElem?_eq_getElem hl]
  show f (ns[ns.idxOf a]) = f a
  rw [List.getElem_idxOf hl]
/-- a row's number at a name -/
theorem renRow_at {many : Nat} {p at' row : List Int} (h : IsP many p) (o : AtomOk many at') {a : Int} (ha : a ∈ at') : (renRow p at' row).getD ((renA p at').idxOf (pA p a)) 0 = row.getD (at'.idxOf a) 0 := by
  unfold renRow
  rw [map_at (f := fun a => row.getD ((nmd p at').idxOf a) 0) (renA_mem.mpr ⟨a, ha, rfl⟩), nmd_idx h o ha]
theorem row_self : ∀ {ns r : List Int}, ns.Nodup → r.length = ns.length → (ns.map fun a => r.getD (ns.idxOf a) 0) = r := fun {ns r} hn hl => by
  apply List.ext_getElem?
  intro i
  rw [List.getElem?_map]
  rcases Nat.lt_or_ge i ns.length with hi | hi
  · have e : ns[i]? = some (ns.getD i 0) := by rw [List.getD_eq_getElem?_getD, List.getElem?_eq_getElem hi]; rfl
    rw [e]
    show some (r.getD (ns.idxOf (ns.getD i 0)) 0) = r[i]?
    rw [nod_idx hn hi, List.getD_eq_getElem?_getD, List.getElem?_eq_getElem (by omega)]; rfl
  · rw [List.getElem?_eq_none hi, List.getElem?_eq_none (by omega)]; rfl
theorem renRow_inj {many : Nat} {p at' r s : List Int} (h : IsP many p) (o : AtomOk many at') (hr : r.length = at'.length) (hs : s.length = at'.length) (e : renRow p at' r = renRow p at' s) : r = s := by
  rw [← row_self (up_nodup o.up) hr, ← row_self (up_nodup o.up) hs]
  refine List.map_congr_left fun a ha => ?_
  rw [← renRow_at h o ha, ← renRow_at (row := s) h o ha, e]
/-- there and back -/
theorem back_atom {many : Nat} {p at' : List Int} (h : IsP many p) (o : AtomOk many at') : renA (backP many p) (renA p at') = at' := by
  have e : (nmd p at').map (pA (backP many p)) = at' := by
    unfold nmd
    rw [List.map_map]
    refine (List.map_congr_left fun a ha => ?_).trans (List.map_id _)
    exact back_pA h (o.bd a ha).1 (o.bd a ha).2
  have pm : at'.Perm (nmd (backP many p) (renA p at')) := by
    unfold nmd
    have := (renA_perm p at').map (pA (backP many p))
    rw [e] at this
    exact this.symm
  exact (srt_of pm (o.up.imp fun h => by omega)).symm
theorem back_row {many : Nat} {p at' r : List Int} (h : IsP many p) (o : AtomOk many at') (hr : r.length = at'.length) : renRow (backP many p) (renA p at') (renRow p at' r) = r := by
  have hb := back_isP h
  have ob := renA_ok h o
  conv => rhs; rw [← row_self (up_nodup o.up) hr]
  have e : renRow (backP many p) (renA p at') (renRow p at' r) = at'.map fun a => (renRow p at' r).getD ((nmd (backP many p) (renA p at')).idxOf a) 0 := by
    show (renA (backP many p) (renA p at')).map _ = _
    rw [back_atom h o]
  rw [e]
  refine List.map_congr_left fun a ha => ?_
  have ia := nmd_idx hb ob (a := pA p a) (renA_mem.mpr ⟨a, ha, rfl⟩)
  rw [back_pA h (o.bd a ha).1 (o.bd a ha).2] at ia
  rw [ia, renRow_at h o ha]
/-! answers -/
def perT (many : Nat) (p t : List Int) : List Int := (rangeI many).map fun j => t.getD (p.idxOf j) 0
theorem perT_len (many : Nat) (p t : List Int) : (perT many p t).length = many := by
  unfold perT rangeI; rw [List.length_map, List.length_map, List.length_range]
theorem perT_at {many : Nat} {p t : List Int} {b : Int} (h0 : 0 ≤ b) (h1 : b < (many : Int)) : (perT many p t).getD b.toNat 0 = t.getD (p.idxOf b) 0 := by
  unfold perT rangeI
  have hb : b.toNat < many := by omega
  rw [List.getD_eq_getElem?_getD, List.getElem?_map, List.getElem?_map, List.getElem?_range hb]
  show t.getD (p.idxOf ((b.toNat : Nat) : Int)) 0 = _
  rw [Int.toNat_of_nonneg h0]
theorem part_per {many : Nat} {p t at' : List Int} (h : IsP many p) (o : AtomOk many at') : partP (perT many p t) (renA p at') = renRow p at' (partP t at') := by
  unfold partP renRow
  refine List.map_congr_left fun x hx => ?_
  obtain ⟨a, ha, rfl⟩ := renA_mem.mp hx
  obtain ⟨a0, a1⟩ := o.bd a ha
  obtain ⟨b0, b1⟩ := pA_bd h a0 a1
  rw [perT_at b0 b1, pA_idx h a0 a1, nmd_idx h o ha]
  exact (map_at (f := fun a => t.getD a.toNat 0) ha).symm
theorem perT_inj {many : Nat} {p s t : List Int} (h : IsP many p) (hs : s.length = many) (ht : t.length = many) (e : perT many p s = perT many p t) : s = t := by
  apply List.ext_getElem?
  intro i
  rcases Nat.lt_or_ge i many with hi | hi
  · have := pA_bd h (a := (i : Int)) (by omega) (by omega)
    have e1 := perT_at (p := p) (t := s) this.1 this.2
    have e2 := perT_at (p := p) (t := t) this.1 this.2
    rw [e, e2, pA_idx h (by omega) (by omega), Int.toNat_natCast] at e1
    rw [List.getD_eq_getElem?_getD, List.getD_eq_getElem?_getD, List.getElem?_eq_getElem (by omega), List.getElem?_eq_getElem (by omega)] at e1
    rw [List.getElem?_eq_getElem (by omega), List.getElem?_eq_getElem (by omega)]
    exact congrArg some e1.symm
  · rw [List.getElem?_eq_none (by omega), List.getElem?_eq_none (by omega)]
theorem perT_of {many : Nat} {p t : List Int} (h : IsP many p) (ht : t.length = many) : perT many p ((rangeI many).map fun j => t.getD (pA p j).toNat 0) = t := by
  apply List.ext_getElem?
  intro i
  unfold perT
  rw [List.getElem?_map]
  rcases Nat.lt_or_ge i many with hi | hi
  · have e : (rangeI many)[i]? = some (i : Int) := by unfold rangeI; rw [List.getElem?_map, List.getElem?_range hi]; rfl
    rw [e]
    have hx := idx_lt h (b := (i : Int)) (by omega) (by omega)
    have e2 : (rangeI many)[p.idxOf (i : Int)]? = some ((p.idxOf (i : Int) : Nat) : Int) := by unfold rangeI; rw [List.getElem?_map, List.getElem?_range hx]; rfl
    show some (((rangeI many).map fun j => t.getD (pA p j).toNat 0).getD (p.idxOf (i : Int)) 0) = t[i]?
    rw [List.getD_eq_getElem?_getD, List.getElem?_map, e2]
    show some (t.getD (pA p ((p.idxOf (i : Int) : Nat) : Int)).toNat 0) = _
    rw [pA_of_idx h (by omega) (by omega), Int.toNat_natCast, List.getD_eq_getElem?_getD, List.getElem?_eq_getElem (by omega)]; rfl
  · rw [List.getElem?_eq_none (by omega : t.length ≤ i), List.getElem?_eq_none (by unfold rangeI; rw [List.length_map, List.length_range]; exact hi)]; rfl
end WK03

namespace WK03
open PySem L2 DL
/-! ### renamed queries and stores -/
theorem sort_rows {rows rows' : List (List Int)} (hp : rows'.Perm rows) (hn : rows.Nodup) (hs : rows'.Pairwise fun a b => HT.lexLt b a = false) : rows' = setR rows := by
  refine setR_of ?_ fun k => hp.mem_iff
  have hn' : rows'.Nodup := hp.nodup_iff.mpr hn
  refine (hs.and hn').imp fun {a b} ⟨h1, h2⟩ => ?_
  cases e : HT.lexLt a b with
  | true => rfl
  | false => exact absurd (lex_tri e h1) h2
theorem nodup_rows {f : List Int → List Int} : ∀ {rs : List (List Int)}, rs.Nodup → (∀ a ∈ rs, ∀ b ∈ rs, f a = f b → a = b) → (rs.map f).Nodup
  | [], _, _ => List.nodup_nil
  | n :: ns, h, hf => by
    obtain ⟨h1, h2⟩ := List.nodup_cons.mp h
    rw [List.map_cons, List.nodup_cons]
    refine ⟨fun hm => ?_, nodup_rows h2 fun a ha b hb => hf a (List.mem_cons_of_mem _ ha) b (List.mem_cons_of_mem _ hb)⟩
    obtain ⟨x, hx, e⟩ := List.mem_map.mp hm
    have := hf x (List.mem_cons_of_mem _ hx) n List.mem_cons_self e
    subst this
    exact h1 hx
abbrev Tb := List Int × List (List Int)
def renT (p : List Int) (q : Tb) : List (List Int) := setR (q.2.map (renRow p q.1))
def renQ (p : List Int) (os : List (List Int)) : List (List Int) := os.map (renA p)
def renS (p : List Int) (os : List (List Int)) (tbs : List (List (List Int))) : List (List (List Int)) := (os.zip tbs).map (renT p)
theorem atom_ok {many : Int} {os : List (List Int)} (hq : Qok many os) {at' : List Int} (h : at' ∈ os) : AtomOk many.toNat at' :=
  ⟨hq.up at' h, fun a ha => by have := hq.bd at' h a ha; have := hq.m1; omega⟩
theorem renQ_ok {many : Int} {os : List (List Int)} {p : List Int} (hq : Qok many os) (hp : IsP many.toNat p) : Qok many (renQ p os) := by
  have m1 := hq.m1
  refine ⟨hq.m1, hq.m8, by unfold renQ; rw [List.length_map]; exact hq.l1, by unfold renQ; rw [List.length_map]; exact hq.l6, fun ns h => ?_, fun ns h => ?_, fun ns h => ?_, fun ns h a ha => ?_, fun a h0 h1 => ?_⟩
  · obtain ⟨at', h', rfl⟩ := List.mem_map.mp h
    exact (renA_ok hp (atom_ok hq h')).up
  · obtain ⟨at', h', rfl⟩ := List.mem_map.mp h
    intro e
    have := renA_len p at'
    rw [e] at this
    exact hq.ne at' h' (List.eq_nil_of_length_eq_zero this.symm)
  · obtain ⟨at', h', rfl⟩ := List.mem_map.mp h
    rw [renA_len]; exact hq.l4 at' h'
  · obtain ⟨at', h', rfl⟩ := List.mem_map.mp h
    have := (renA_ok hp (atom_ok hq h')).bd a ha
    omega
  · have hx := idx_lt hp (b := a) h0 (by omega)
    obtain ⟨at', h', hm⟩ := hq.cov ((p.idxOf a : Nat) : Int) (by omega) (by omega)
    exact ⟨renA p at', List.mem_map.mpr ⟨at', h', rfl⟩, renA_mem.mpr ⟨_, hm, pA_of_idx hp h0 (by omega)⟩⟩
theorem zip_ren (p : List Int) : ∀ {os : List (List Int)} {tbs : List (List (List Int))}, (renQ p os).zip (renS p os tbs) = (os.zip tbs).map fun q => (renA p q.1, renT p q)
  | [], _ => rfl
  | _ :: _, [] => rfl
  | o :: os, t :: tbs => by
    show (renA p o, renT p (o, t)) :: (renQ p os).zip (renS p os tbs) = (renA p o, renT p (o, t)) :: (os.zip tbs).map _
    rw [zip_ren p]
theorem renS_len {p : List Int} {os : List (List Int)} {tbs : List (List (List Int))} (h : tbs.length = os.length) : (renS p os tbs).length = (renQ p os).length := by
  unfold renS renQ; rw [List.length_map, List.length_map, List.length_zip]; omega
theorem setR_len (rs : List (List Int)) : (setR rs).length ≤ rs.length := by
  have key : ∀ (k : List Int) (ms : List (List Int)), (insR k ms).length ≤ ms.length + 1 := by
    intro k ms
    induction ms with
    | nil => simp [insR]
    | cons m ms ih =>
      unfold insR
      split
      · simp
      · split
        · simp
        · simp; omega
  induction rs with
  | nil => simp [setR]
  | cons n ns ih =>
    unfold setR
    have := key n (setR ns)
    simp only [List.length_cons]
    omega
theorem getD_or {ns : List Int} {i : Nat} : ns.getD i 0 = 0 ∨ ns.getD i 0 ∈ ns := by
  rcases Nat.lt_or_ge i ns.length with h | h
  · exact .inr (getD_mem h)
  · left; rw [List.getD_eq_getElem?_getD, List.getElem?_eq_none h]; rfl
theorem renS_ok {os : List (List Int)} {tbs : List (List (List Int))} {p : List Int} (hs : StOk os tbs) : StOk (renQ p os) (renS p os tbs) := by
  refine ⟨renS_len hs.1, fun q hq => ?_⟩
  rw [zip_ren] at hq
  obtain ⟨q', h', rfl⟩ := List.mem_map.mp hq
  obtain ⟨a, b, c⟩ := hs.2 q' h'
  refine ⟨?_, setR_up _, fun r hr => ?_⟩
  · have := setR_len (q'.2.map (renRow p q'.1))
    rw [List.length_map] at this
    show (renT p q').length ≤ 60
    unfold renT; omega
  · obtain ⟨s, hs', rfl⟩ := List.mem_map.mp ((setR_mem r _).mp hr)
    refine ⟨by show _ = (renA p q'.1).length; rw [renRow_len, renA_len], fun x hx => ?_⟩
    obtain ⟨y, _, rfl⟩ := List.mem_map.mp hx
    rcases getD_or (ns := s) (i := (nmd p q'.1).idxOf y) with e | e
    · rw [e]; omega
    · exact (c s hs').2 _ e
/-- the renamed store's answers -/
theorem ans_ren {many : Int} {os : List (List Int)} {tbs : List (List (List Int))} {p : List Int} (hq : Qok many os) (hs : StOk os tbs) (hp : IsP many.toNat p) :
    ansL ((renQ p os).zip (renS p os tbs)) many.toNat = setR ((ansL (os.zip tbs) many.toNat).map (perT many.toNat p)) := by
  obtain ⟨u1, m1⟩ := ansL_spec (zok_of hq hs)
  obtain ⟨u2, m2⟩ := ansL_spec (zok_of (renQ_ok hq hp) (renS_ok (p := p) hs))
  have part : ∀ q ∈ os.zip tbs, ∀ t : List Int, partP (perT many.toNat p t) (renA p q.1) ∈ renT p q ↔ partP t q.1 ∈ q.2 := fun q hqm t => by
    have ok := atom_ok hq (List.of_mem_zip hqm).1
    rw [part_per hp ok]
    unfold renT
    rw [setR_mem, List.mem_map]
    constructor
    · rintro ⟨s, h1, h2⟩
      have l1 : s.length = q.1.length := ((hs.2 q hqm).2.2 s h1).1
      have l2 : (partP t q.1).length = q.1.length := by unfold partP; rw [List.length_map]
      rw [← renRow_inj hp ok l1 l2 h2]
      exact h1
    · intro h; exact ⟨_, h, rfl⟩
  refine setR_of u2 fun t' => ?_
  rw [m2, List.mem_map]
  constructor
  · rintro ⟨hl, hparts⟩
    refine ⟨(rangeI many.toNat).map fun j => t'.getD (pA p j).toNat 0, (m1 _).mpr ⟨by unfold rangeI; rw [List.length_map, List.length_map, List.length_range], fun q hqm => ?_⟩, perT_of hp hl⟩
    rw [← part q hqm, perT_of hp hl]
    exact hparts (renA p q.1, renT p q) (by rw [zip_ren]; exact List.mem_map.mpr ⟨q, hqm, rfl⟩)
  · rintro ⟨t, ht, rfl⟩
    refine ⟨perT_len _ _ _, fun q' hq' => ?_⟩
    rw [zip_ren] at hq'
    obtain ⟨q, hqm, rfl⟩ := List.mem_map.mp hq'
    exact (part q hqm t).mpr (((m1 t).mp ht).2 q hqm)
theorem ans_nodup {many : Int} {os : List (List Int)} {tbs : List (List (List Int))} {p : List Int} (hq : Qok many os) (hs : StOk os tbs) (hp : IsP many.toNat p) : ((ansL (os.zip tbs) many.toNat).map (perT many.toNat p)).Nodup := by
  obtain ⟨u1, m1⟩ := ansL_spec (zok_of hq hs)
  exact nodup_rows (rowUp_nodup u1) fun a ha b hb e => perT_inj hp ((m1 a).mp ha).1 ((m1 b).mp hb).1 e
/-- there and back -/
theorem back_Q {many : Int} {os : List (List Int)} {p : List Int} (hq : Qok many os) (hp : IsP many.toNat p) : renQ (backP many.toNat p) (renQ p os) = os := by
  unfold renQ
  rw [List.map_map]
  refine (List.map_congr_left fun at' h => ?_).trans (List.map_id _)
  exact back_atom hp (atom_ok hq h)
theorem back_S {many : Int} {os : List (List Int)} {tbs : List (List (List Int))} {p : List Int} (hq : Qok many os) (hs : StOk os tbs) (hp : IsP many.toNat p) : renS (backP many.toNat p) (renQ p os) (renS p os tbs) = tbs := by
  have e : renS (backP many.toNat p) (renQ p os) (renS p os tbs) = (os.zip tbs).map fun q => q.2 := by
    show ((renQ p os).zip (renS p os tbs)).map _ = _
    rw [zip_ren, List.map_map]
    refine List.map_congr_left fun q hqm => ?_
    have ok := atom_ok hq (List.of_mem_zip hqm).1
    obtain ⟨_, up, rl⟩ := hs.2 q hqm
    show setR ((renT p q).map (renRow (backP many.toNat p) (renA p q.1))) = q.2
    refine (setR_of up fun r => ?_).symm
    rw [List.mem_map]
    constructor
    · intro hr
      exact ⟨renRow p q.1 r, by unfold renT; exact (setR_mem _ _).mpr (List.mem_map.mpr ⟨r, hr, rfl⟩), back_row hp ok (rl r hr).1⟩
    · rintro ⟨s, h1, rfl⟩
      unfold renT at h1
      obtain ⟨r, hr, rfl⟩ := List.mem_map.mp ((setR_mem _ _).mp h1)
      rw [back_row hp ok (rl r hr).1]
      exact hr
  rw [e]
  exact List.map_snd_zip (by rw [hs.1]; exact Nat.le_refl _)
/-! the program's own way to a row -/
theorem turn_names {ns : List Int} : (((List.range ns.length).mergeSort fun a b => decide (ns.getD a 0 ≤ ns.getD b 0)).map fun j => ns.getD j 0) = srt ns := by
  refine srt_of ?_ ?_
  · have pm := (List.mergeSort_perm (List.range ns.length) fun a b => decide (ns.getD a 0 ≤ ns.getD b 0)).map fun j => ns.getD j 0
    have e : (List.range ns.length).map (fun j => ns.getD j 0) = ns := by
      apply List.ext_getElem?
      intro i
      rw [List.getElem?_map]
      rcases Nat.lt_or_ge i ns.length with h | h
      · rw [List.getElem?_range h, List.getElem?_eq_getElem h]
        show some (ns.getD i 0) = _
        rw [List.getD_eq_getElem?_getD, List.getElem?_eq_getElem h]; rfl
      · rw [List.getElem?_eq_none (by rw [List.length_range]; exact h), List.getElem?_eq_none h]; rfl
    rw [e] at pm
    exact pm
  · have := List.pairwise_mergeSort (le := fun a b => decide (ns.getD a 0 ≤ ns.getD b 0)) (fun x y z h1 h2 => by
      rw [decide_eq_true_iff] at h1 h2 ⊢; omega) (fun x y => by
      by_cases q : ns.getD x 0 ≤ ns.getD y 0
      · rw [decide_eq_true q]; rfl
      · rw [decide_eq_false q, decide_eq_true (by omega : ns.getD y 0 ≤ ns.getD x 0)]; rfl) (List.range ns.length)
    rw [List.pairwise_map]
    exact this.imp fun h => of_decide_eq_true h
theorem turn_row {p at' row : List Int} (hn : (nmd p at').Nodup) : (((List.range (nmd p at').length).mergeSort fun a b => decide ((nmd p at').getD a 0 ≤ (nmd p at').getD b 0)).map fun j => row.getD j 0) = renRow p at' row := by
  unfold renRow renA
  rw [← turn_names (ns := nmd p at'), List.map_map]
  refine List.map_congr_left fun j hj => ?_
  have hlt : j < (nmd p at').length := List.mem_range.mp ((List.mergeSort_perm _ _).mem_iff.mp hj)
  show row.getD j 0 = row.getD ((nmd p at').idxOf ((nmd p at').getD j 0)) 0
  rw [nod_idx hn hlt]
end WK03

namespace WK03
open PySem L2 DL
/-! ### is_order -/
def isOrd (n : Nat) : D → Bool
  | .tup ds => match D.ints ds with | some ns => decide (srt ns = rangeI n) | none => false
  | _ => false
theorem isOrd_ints (n : Nat) (ns : List Int) : isOrd n (.tup (ns.map D.int)) = decide (srt ns = rangeI n) := by
  show (match D.ints (ns.map D.int) with | some ns => decide (srt ns = rangeI n) | none => false) = _
  rw [ints_id]
theorem ups_rangeI (n : Int) : upsD 0 n = (rangeI n.toNat).map D.int := by
  unfold upsD rangeI
  rw [List.map_map, Int.sub_zero]
  refine List.map_congr_left fun j _ => ?_
  show D.int (0 + ((j : Nat) : Int)) = D.int ((j : Nat) : Int)
  rw [Int.zero_add]
theorem isP_of {n : Nat} {d : D} (h : isOrd n d = true) : ∃ p : List Int, d = rowD p ∧ IsP n p := by
  cases d <;> simp only [isOrd] at h <;> first | cases h | skip
  rename_i ds
  cases e : D.ints ds with
  | none => rw [e] at h; cases h
  | some ns =>
    rw [e] at h
    have h := of_decide_eq_true h
    refine ⟨ns, ?_, ⟨?_⟩⟩
    · show D.tup ds = D.tup (ns.map D.int)
      rw [← ints_map e]
    · rw [← h]; exact (srt_perm ns).symm
theorem isOrd_ok {n : Nat} {p : List Int} (h : IsP n p) : isOrd n (rowD p) = true := by
  rw [show rowD p = D.tup (p.map D.int) from rfl, isOrd_ints]
  exact decide_eq_true (srt_of h.perm.symm ((rangeI_up n).imp fun h => by omega)).symm
theorem ord_nums {n : Nat} {ds : List D} (hn : n ≤ 8) (h : isOrd n (.tup ds) = true) : ds.all (isNum 0) = true := by
  obtain ⟨p, e, hp⟩ := isP_of h
  injection e with e
  subst e
  rw [List.all_map, List.all_eq_true]
  intro a ha
  have := hp.bd a ha
  show (decide (0 ≤ a) && decide (a < 1000000000000000000)) = true
  rw [decide_eq_true (by omega), decide_eq_true (by omega)]; rfl
def S_ord : Spd := fun ds m Q _ => ∃ w n many os d, ds = [qD many os, d] ∧ Qok many os ∧ good w n d ∧ Q m (.bl (isOrd many.toNat d))
theorem p_ord (ε : Nat → Str → Prop) (ds : List D) (m : Nat) (Q : Nat → D → Prop) (hl : ds.length = 2) (h : S_ord ds m Q ε) : r_is_order S_need S_num ε { nx := fun m _ => Q m .non, rt := Q } m (params ["query", "value", "item"] ds) := by
  obtain ⟨w, n, many, os, d, rfl, hq, hg, q⟩ := h
  have ht := good_typed hg
  have m1 := hq.m1
  have m8 := hq.m8
  unfold r_is_order
  refine x_seq fun B1 n1 r1 _ _ => ?_
  simp
  refine need_ok hq ?_
  rw [n1]; clear n1
  refine x_seq fun B2 n2 r2 _ _ => ?_
  refine x_if fun K hK1 hK2 => ?_
  have no : Q m (.bl false) → K m true := fun h => by rw [hK1]; show B2.rt m _; rw [r2]; exact h
  by_cases htup : ∃ ds, d = .tup ds
  · obtain ⟨ds, rfl⟩ := htup
    obtain ⟨n', hgi⟩ : ∃ n', ∀ d ∈ ds, good w n' d := by
      cases n with
      | zero => exact hg.elim
      | succ n => exact ⟨n, hg.2⟩
    simp
    refine lc_bl (isNum 0) (fun d hd K hk => ?_) ?_
    · simp
      exact ⟨d, 0, rfl, good_typed (hgi d hd), hk⟩
    · refine ⟨_, bls_id _, ?_⟩
      have ea : (ds.map (isNum 0)).all id = ds.all (isNum 0) := by rw [List.all_map]; rfl
      rw [ea]
      cases e : ds.all (isNum 0) with
      | false =>
        have : isOrd many.toNat (.tup ds) = false := by
          cases e2 : isOrd many.toNat (.tup ds) with
          | false => rfl
          | true => rw [ord_nums (by omega) e2] at e; cases e
        rw [this] at q
        exact no q
      | true =>
        show K m false
        rw [hK2]
        show B2.nx m _
        rw [n2]
        obtain ⟨ns, rfl, _⟩ := nums_of e
        rw [isOrd_ints] at q
        refine x_ret ?_
        simp [q_at0]
        refine ⟨RgOk.of_le (by omega) (by omega) (by omega) (by omega), ?_⟩
        rw [ups_rangeI]
        exact ⟨shp_lsti _, by rw [eqv_lsti]; exact q⟩
  · have e : isOrd many.toNat d = false := by cases d <;> first | rfl | exact absurd ⟨_, rfl⟩ htup
    rw [e] at q
    cases d <;> simp [D.typed] at ht <;> first | exact absurd ⟨_, rfl⟩ htup | (simp; exact no q)
end WK03

namespace WK03
open PySem L2 DL
/-! ### renamed -/
theorem at_p {n : Nat} {p : List Int} (h : IsP n p) {a : Int} (h0 : 0 ≤ a) (h1 : a < (n : Int)) : atI (p.map D.int) a = some (D.int (pA p a)) := by
  have hl := h.len
  unfold atI ixN
  rw [List.length_map, if_pos h0, if_pos (by omega)]
  show (p.map D.int)[a.toNat]? = _
  rw [List.getElem?_map]
  unfold pA
  rw [List.getD_eq_getElem?_getD, List.getElem?_eq_getElem (by omega)]; rfl
theorem at_rw {r : List Int} {j : Nat} (h : j < r.length) : atI (r.map D.int) (j : Int) = some (D.int (r.getD j 0)) := by
  unfold atI ixN
  rw [List.length_map, if_pos (by omega), if_pos (by omega)]
  show (r.map D.int)[((j : Int)).toNat]? = _
  rw [Int.toNat_natCast, List.getElem?_map, List.getD_eq_getElem?_getD, List.getElem?_eq_getElem h]; rfl
def rnTurn : TSd := (rSeq (rSet 8 (rL (rLc (.one 9) [9] (rIt (rVar 5)) rYes (rOp dIx (rVar 2) (rVar 9))))) (rSeq (rSet 7 (rSortKB 8 (rCall dLenA (rCons (rVar 5) rNil)))) (rSeq (rApp 3 (rCall dTuple (rCons (rCall dSorted (rCons (rVar 8) rNil)) rNil))) (rApp 4 (rCall dTuple (rCons (rSortR (rL (rLc (.one 10) [10] (rIt (rVar 6)) rYes (rCall dTuple (rCons (rL (rLc (.one 11) [11] (rIt (rVar 7)) rYes (rOp dIx (rVar 10) (rVar 11)))) rNil))))) rNil))))))
theorem rn_turn {B : EndsD} {m n : Nat} {q v : D} {p at' : List Int} {rs : List (List Int)} {fs gs : List D} {x7 x8 : DL.Slot} (hp : IsP n p) (ok : AtomOk n at') (hne : at' ≠ []) (hl4 : at'.length ≤ 4) (up : rowUp rs) (hr : ∀ r ∈ rs, r.length = at'.length) (hrs : rs.length ≤ 60) (hf : fs.length ≤ 100) (hg : gs.length ≤ 100)
    (hk : ∀ x7 x8, B.nx m [.val q, .val v, .val (rowD p), .own (fs ++ [rowD (renA p at')]), .own (gs ++ [tabD (renT p (at', rs))]), .val (rowD at'), .val (tabD rs), x7, x8, .no, .no, .no]) :
    rnTurn B m [.val q, .val v, .val (rowD p), .own fs, .own gs, .val (rowD at'), .val (tabD rs), x7, x8, .no, .no, .no] := by
  have hL : 10000 ≤ sizeLine := by rw [sizeLine_eq]; omega
  have nn := nmd_nod hp ok
  have ln : (nmd p at').length = at'.length := by unfold nmd; rw [List.length_map]
  unfold rnTurn
  refine x_seq fun B1 n1 r1 _ _ => ?_
  refine x_set fun K hK => ?_
  simp
  refine lc_tt (fun d => match d with | .int a => .int (pA p a) | d => d) (fun d hd K2 hk2 => ?_) ?_
  · obtain ⟨a, ha, rfl⟩ := List.mem_map.mp hd
    have hk2 : K2 m (.int (pA p a)) := hk2
    simp [at_p hp (ok.bd a ha).1 (ok.bd a ha).2]
    exact hk2
  · have e1 : (at'.map D.int).map (fun d => match d with | .int a => .int (pA p a) | d => d) = (nmd p at').map D.int := by
      unfold nmd; rw [List.map_map, List.map_map]; rfl
    rw [e1, hK, n1]; clear hK n1
    simp only [List.set_cons_succ, List.set_cons_zero]
    refine x_seq fun B2 n2 r2 _ _ => ?_
    refine x_set fun K hK => ?_
    simp
    refine ⟨nmd p at', rfl, by rw [ln], by omega, ?_⟩
    rw [hK, n2]; clear hK n2
    simp only [List.set_cons_succ, List.set_cons_zero]
    refine x_seq fun B3 n3 r3 _ _ => ?_
    simp
    refine ⟨by omega, ?_⟩
    rw [n3]; clear n3
    simp
    refine lc_tt (fun d => match d with | .tup ds => rowD (renRow p at' ((D.ints ds).getD [])) | d => d) (fun d hd K2 hk2 => ?_) ?_
    · obtain ⟨r, hr', rfl⟩ := List.mem_map.mp hd
      have hk2 : K2 m (rowD (renRow p at' ((D.ints (r.map D.int)).getD []))) := hk2
      rw [ints_id] at hk2
      simp
      refine lc_tt (fun d => match d with | .int j => .int (r.getD j.toNat 0) | d => d) (fun d hd K3 hk3 => ?_) ?_
      · obtain ⟨j, hj, rfl⟩ := List.mem_map.mp hd
        have hlt : j < r.length := by
          rw [hr r hr', ← ln]
          exact List.mem_range.mp ((List.mergeSort_perm _ _).mem_iff.mp hj)
        have hk3 : K3 m (.int (r.getD ((j : Int)).toNat 0)) := hk3
        rw [Int.toNat_natCast] at hk3
        simp [at_rw hlt]
        simpa using hk3
      · have tr := turn_row (p := p) (at' := at') (row := r) nn
        simp only [List.getD_eq_getElem?_getD] at tr
        have e2 : ∀ L : List Nat, (L.map fun j : Nat => D.int (j : Int)).map (fun d => match d with | .int j => .int (r.getD j.toNat 0) | d => d) = (L.map fun j => r[j]?.getD 0).map D.int := fun L => by
          rw [List.map_map, List.map_map]
          refine List.map_congr_left fun j _ => ?_
          show D.int (r.getD ((j : Int)).toNat 0) = D.int (r[j]?.getD 0)
          rw [Int.toNat_natCast, List.getD_eq_getElem?_getD]
        rw [e2, tr]
        exact hk2
    · have e2 : (rs.map rowD).map (fun d => match d with | .tup ds => rowD (renRow p at' ((D.ints ds).getD [])) | d => d) = (rs.map (renRow p at')).map rowD := by
        rw [List.map_map, List.map_map]
        refine List.map_congr_left fun r _ => ?_
        show rowD (renRow p at' ((D.ints (r.map D.int)).getD [])) = rowD (renRow p at' r)
        rw [ints_id]; rfl
      rw [e2]
      refine ⟨_, rows_of _, fun r hr' => ?_, fun rows' pm pw => ⟨by omega, ?_⟩⟩
      · obtain ⟨s, hs, rfl⟩ := List.mem_map.mp hr'
        intro e
        have := renRow_len p at' s
        rw [e] at this
        exact hne (List.eq_nil_of_length_eq_zero this.symm)
      · have nd : (rs.map (renRow p at')).Nodup := nodup_rows (rowUp_nodup up) fun a ha b hb e => renRow_inj hp ok (hr a ha) (hr b hb) e
        rw [sort_rows pm nd pw]
        exact hk _ _
theorem rn_loop {B : EndsD} {m n : Nat} {q v : D} {p : List Int} (hp : IsP n p) : ∀ (zs : List Tb) (fs gs : List D) (x5 x6 x7 x8 : DL.Slot), (∀ z ∈ zs, AtomOk n z.1 ∧ z.1 ≠ [] ∧ z.1.length ≤ 4 ∧ rowUp z.2 ∧ (∀ r ∈ z.2, r.length = z.1.length) ∧ z.2.length ≤ 60) → fs.length + zs.length ≤ 100 → gs.length + zs.length ≤ 100 →
    (∀ x5 x6 x7 x8, B.nx m [.val q, .val v, .val (rowD p), .own (fs ++ zs.map fun z => rowD (renA p z.1)), .own (gs ++ zs.map fun z => tabD (renT p z)), x5, x6, x7, x8, .no, .no, .no]) →
    rLoop (.many [5, 6]) rnTurn B (zs.map pairD) m [.val q, .val v, .val (rowD p), .own fs, .own gs, x5, x6, x7, x8, .no, .no, .no]
  | [], fs, gs, x5, x6, x7, x8, _, _, _, hk => by
    have := hk x5 x6 x7 x8
    rw [List.map_nil, List.map_nil, List.append_nil, List.append_nil] at this
    exact this
  | z :: zs, fs, gs, x5, x6, x7, x8, h, hf, hg, hk => by
    obtain ⟨h1, h2, h3, h4, h5, h6⟩ := h z List.mem_cons_self
    rw [List.length_cons] at hf hg
    refine ⟨rfl, ?_⟩
    show rnTurn _ m [.val q, .val v, .val (rowD p), .own fs, .own gs, .val (rowD z.1), .val (tabD z.2), x7, x8, .no, .no, .no]
    refine rn_turn hp h1 h2 h3 h4 h5 h6 (by omega) (by omega) fun x7 x8 => ?_
    refine rn_loop hp zs _ _ _ _ _ _ (fun y hy => h y (List.mem_cons_of_mem _ hy)) (by rw [List.length_append]; simp; omega) (by rw [List.length_append]; simp; omega) fun x5 x6 x7 x8 => ?_
    have := hk x5 x6 x7 x8
    rw [List.append_assoc, List.append_assoc]
    exact this
def renD (many : Int) (p : List Int) (os : List (List Int)) (tbs : List (List (List Int))) : D := .tup [qD many (renQ p os), stD (renS p os tbs)]
theorem zs_ok {many : Int} {os : List (List Int)} {tbs : List (List (List Int))} (hq : Qok many os) (hs : StOk os tbs) : ∀ z ∈ os.zip tbs, AtomOk many.toNat z.1 ∧ z.1 ≠ [] ∧ z.1.length ≤ 4 ∧ rowUp z.2 ∧ (∀ r ∈ z.2, r.length = z.1.length) ∧ z.2.length ≤ 60 := fun z hz => by
  have hm := (List.of_mem_zip hz).1
  obtain ⟨a, b, c⟩ := hs.2 z hz
  exact ⟨atom_ok hq hm, hq.ne _ hm, hq.l4 _ hm, b, fun r hr => (c r hr).1, a⟩
theorem fst_D {os : List (List Int)} {tbs : List (List (List Int))} {p : List Int} (h : tbs.length = os.length) : (os.zip tbs).map (fun z => rowD (renA p z.1)) = (renQ p os).map rowD := by
  unfold renQ
  have : (os.zip tbs).map (fun z => rowD (renA p z.1)) = ((os.zip tbs).map (·.1)).map fun a => rowD (renA p a) := by rw [List.map_map]; rfl
  rw [this, List.map_fst_zip (by omega), List.map_map]; rfl
theorem snd_D {os : List (List Int)} {tbs : List (List (List Int))} {p : List Int} : (os.zip tbs).map (fun z => tabD (renT p z)) = (renS p os tbs).map tabD := by
  unfold renS
  rw [List.map_map]; rfl
def S_ren : Spd := fun ds m Q ε => ∃ w n w' n' many os v d, ds = [qD many os, v, d] ∧ Qok many os ∧ w ≤ 60 ∧ good w n v ∧ good w' n' d ∧ (isSto os v = false → ε m "BadStore") ∧ (isSto os v = true → isOrd many.toNat d = false → ε m "BadPlaces") ∧
  ∀ tbs p, v = stD tbs → isSto os v = true → StOk os tbs → d = rowD p → IsP many.toNat p → Q m (renD many p os tbs)
theorem p_ren (ε : Nat → Str → Prop) (ds : List D) (m : Nat) (Q : Nat → D → Prop) (hl : ds.length = 3) (h : S_ren ds m Q ε) : r_renamed S_need S_needS S_ord ε { nx := fun m _ => Q m .non, rt := Q } m (params ["query", "store", "places", "atoms", "tables", "atom", "table", "turn", "named", "attribute", "row", "at"] ds) := by
  obtain ⟨w, n, w', n', many, os, v, d, rfl, hq, hw, hg, hg', h1, h2, h3⟩ := h
  have m1 := hq.m1
  have l6 := hq.l6
  have e : r_renamed S_need S_needS S_ord ε = (rSeq (rDrop (rFn 1 S_need ε (rCons (rVar 0) rNil))) (rSeq (rDrop (rFn 2 S_needS ε (rCons (rVar 0) (rCons (rVar 1) rNil)))) (rSeq (rIfS (rNot (rTru (rFn 2 S_ord ε (rCons (rVar 0) (rCons (rVar 2) rNil))))) (rRaise ε "BadPlaces") rNext) (rSeq (rPar [3, 4] (pOwn (rLs rNil) (pOwn (rLs rNil) pNil))) (rSeq (rFor (.many [5, 6]) (rZip (rCons (rOp dIx (rVar 0) (rC (.int 1))) (rCons (rVar 1) rNil))) rnTurn) (rFrz 3 (rFrz 4 (rRet (rTup (rCons (rTup (rCons (rOp dIx (rVar 0) (rC (.int 0))) (rCons (rCall dTuple (rCons (rVar 3) rNil)) rNil))) (rCons (rCall dTuple (rCons (rVar 4) rNil)) rNil))))))))))) := rfl
  rw [e]; clear e
  refine x_seq fun B1 n1 r1 _ _ => ?_
  simp
  refine need_ok hq ?_
  rw [n1]; clear n1
  refine x_seq fun B2 n2 r2 _ _ => ?_
  simp
  refine needS_ok hq hg (fun es => ?_) h1
  rw [n2]; clear n2
  obtain ⟨tbs, rfl, hs⟩ := sto_ok es hw hg
  refine x_seq fun B3 n3 r3 _ _ => ?_
  refine x_if fun K hK1 hK2 => ?_
  simp
  refine ⟨w', n', many, os, d, rfl, hq, hg', ?_⟩
  cases eo : isOrd many.toNat d with
  | false =>
    simp
    rw [hK1]
    exact h2 es eo
  | true =>
    simp
    rw [hK2]
    show B3.nx m _
    rw [n3]; clear n3
    obtain ⟨p, rfl, hp⟩ := isP_of eo
    refine x_seq fun B4 n4 r4 _ _ => ?_
    simp
    rw [n4]; clear n4
    refine x_seq fun B5 n5 r5 _ _ => ?_
    refine x_for fun K hK => ?_
    simp [q_at1]
    rw [hK]; clear hK
    rw [zip_pairs os tbs]
    have hz : (os.zip tbs).length ≤ 6 := by rw [List.length_zip]; omega
    refine rn_loop hp (os.zip tbs) [] [] _ _ _ _ (zs_ok hq hs) (by simp; omega) (by simp; omega) fun x5 x6 x7 x8 => ?_
    rw [n5]; clear n5
    rw [List.nil_append, List.nil_append, fst_D hs.1, snd_D]
    refine x_frz rfl ?_
    refine x_frz rfl ?_
    refine x_ret ?_
    simp [q_at0]
    exact ⟨by rw [sizeLine_eq]; omega, h3 tbs p rfl es hs rfl hp⟩
end WK03

namespace WK03
open PySem L2 DL
/-! ### the law's own renaming -/
def lrRow : TSd := (rSeq (rSet 10 (rDictOf (rL (rLc (.many [11, 12]) [11, 12] (rZip (rCons (rVar 5) (rCons (rVar 9) rNil))) rYes (rTup (rCons (rOp dIx (rVar 2) (rVar 11)) (rCons (rVar 12) rNil))))))) (rApp 8 (rCall dTuple (rCons (rL (rLc (.one 11) [11] (rIt (rVar 7)) rYes (rGetI (rVar 10) (rVar 11)))) rNil))))
theorem prs_map : ∀ kvs : List (Int × Int), prsI (kvs.map fun q => D.tup [.int q.1, .int q.2]) = some kvs
  | [] => rfl
  | q :: kvs => by
    rw [List.map_cons]
    unfold prsI
    rw [prs_map kvs]; rfl
theorem lr_row {B : EndsD} {m n : Nat} {q v : D} {p at' r : List Int} {rs : D} {fs gs ks : List D} {x10 : DL.Slot} (hp : IsP n p) (ok : AtomOk n at') (hr : r.length = at'.length) (hl4 : at'.length ≤ 4) (hks : ks.length ≤ 100)
    (hk : ∀ x10, B.nx m [.val q, .val v, .val (rowD p), .own fs, .own gs, .val (rowD at'), .val rs, .val (.lst ((renA p at').map .int)), .own (ks ++ [rowD (renRow p at' r)]), .val (rowD r), x10, .no, .no]) :
    lrRow B m [.val q, .val v, .val (rowD p), .own fs, .own gs, .val (rowD at'), .val rs, .val (.lst ((renA p at').map .int)), .own ks, .val (rowD r), x10, .no, .no] := by
  have hL : 10000 ≤ sizeLine := by rw [sizeLine_eq]; omega
  have nn := nmd_nod hp ok
  have ln : (nmd p at').length = at'.length := by unfold nmd; rw [List.length_map]
  unfold lrRow
  refine x_seq fun B1 n1 r1 _ _ => ?_
  refine x_set fun K hK => ?_
  simp
  have ez : zipD (at'.map D.int) (r.map D.int) = (at'.zip r).map fun q => D.tpw [.int q.1, .int q.2] := by
    unfold zipD
    rw [List.zip_map, List.map_map]; rfl
  rw [ez]
  refine lc_tt (fun d => match d with | .tpw [.int a, x] => .tup [.int (pA p a), x] | d => d) (fun d hd K2 hk2 => ?_) ?_
  · obtain ⟨z, hz, rfl⟩ := List.mem_map.mp hd
    have hk2 : K2 m (.tup [.int (pA p z.1), .int z.2]) := hk2
    have hm := (List.of_mem_zip hz).1
    simp [at_p hp (ok.bd _ hm).1 (ok.bd _ hm).2]
    exact ⟨by omega, hk2⟩
  · have e1 : ((at'.zip r).map fun q => D.tpw [.int q.1, .int q.2]).map (fun d => match d with | .tpw [.int a, x] => .tup [.int (pA p a), x] | d => d) = ((nmd p at').zip r).map fun q => D.tup [.int q.1, .int q.2] := by
      unfold nmd
      rw [List.zip_map_left, List.map_map, List.map_map]; rfl
    rw [e1]
    refine ⟨_, prs_map _, ?_⟩
    rw [mer_zip (by rw [hr, ln]) nn, hK, n1]; clear hK n1
    simp
    refine lc_tt (fun d => match d with | .int a => .int (r.getD ((nmd p at').idxOf a) 0) | d => d) (fun d hd K2 hk2 => ?_) ?_
    · obtain ⟨a, ha, rfl⟩ := List.mem_map.mp hd
      have hk2 : K2 m (.int (r.getD ((nmd p at').idxOf a) 0)) := hk2
      have hm : a ∈ nmd p at' := (renA_perm p at').mem_iff.mp ha
      simp
      exact ⟨_, by rw [lk_zip (by rw [hr, ln]), if_pos hm], hk2⟩
    · have e2 : ((renA p at').map D.int).map (fun d => match d with | .int a => .int (r.getD ((nmd p at').idxOf a) 0) | d => d) = (renRow p at' r).map D.int := by
        unfold renRow
        rw [List.map_map, List.map_map]; rfl
      rw [e2]
      exact ⟨by omega, hk _⟩
theorem lr_rows {B : EndsD} {m n : Nat} {q v : D} {p at' : List Int} {rsD : D} {fs gs : List D} (hp : IsP n p) (ok : AtomOk n at') (hl4 : at'.length ≤ 4) : ∀ (rs : List (List Int)) (ks : List D) (x9 x10 : DL.Slot), (∀ r ∈ rs, r.length = at'.length) → ks.length + rs.length ≤ 100 →
    (∀ x9 x10, B.nx m [.val q, .val v, .val (rowD p), .own fs, .own gs, .val (rowD at'), .val rsD, .val (.lst ((renA p at').map .int)), .own (ks ++ (rs.map (renRow p at')).map rowD), x9, x10, .no, .no]) →
    rLoop (.one 9) lrRow B (rs.map rowD) m [.val q, .val v, .val (rowD p), .own fs, .own gs, .val (rowD at'), .val rsD, .val (.lst ((renA p at').map .int)), .own ks, x9, x10, .no, .no]
  | [], ks, x9, x10, _, _, hk => by
    have := hk x9 x10
    rw [List.map_nil, List.map_nil, List.append_nil] at this
    exact this
  | r :: rs, ks, x9, x10, h, hl, hk => by
    rw [List.length_cons] at hl
    show lrRow _ m [.val q, .val v, .val (rowD p), .own fs, .own gs, .val (rowD at'), .val rsD, .val (.lst ((renA p at').map .int)), .own ks, .val (rowD r), x10, .no, .no]
    refine lr_row hp ok (h r List.mem_cons_self) hl4 (by omega) fun x10 => ?_
    refine lr_rows hp ok hl4 rs _ _ _ (fun s hs => h s (List.mem_cons_of_mem _ hs)) (by rw [List.length_append]; simp; omega) fun x9 x10 => ?_
    have := hk x9 x10
    rw [List.append_assoc]
    exact this
def lrTurn : TSd := (rSeq (rSet 7 (rCall dSorted (rCons (rL (rLc (.one 11) [11] (rIt (rVar 5)) rYes (rOp dIx (rVar 2) (rVar 11)))) rNil))) (rSeq (rOwn 8 (rLs rNil)) (rSeq (rFor (.one 9) (rIt (rVar 6)) lrRow) (rSeq (rApp 3 (rCall dTuple (rCons (rVar 7) rNil))) (rFrz 8 (rApp 4 (rCall dTuple (rCons (rSortR (rVar 8)) rNil))))))))
theorem lr_turn {B : EndsD} {m n : Nat} {q v : D} {p at' : List Int} {rs : List (List Int)} {fs gs : List D} {x7 x8 x9 x10 : DL.Slot} (hp : IsP n p) (ok : AtomOk n at') (hne : at' ≠ []) (hl4 : at'.length ≤ 4) (up : rowUp rs) (hr : ∀ r ∈ rs, r.length = at'.length) (hrs : rs.length ≤ 60) (hf : fs.length ≤ 100) (hg : gs.length ≤ 100)
    (hk : ∀ x7 x8 x9 x10, B.nx m [.val q, .val v, .val (rowD p), .own (fs ++ [rowD (renA p at')]), .own (gs ++ [tabD (renT p (at', rs))]), .val (rowD at'), .val (tabD rs), x7, x8, x9, x10, .no, .no]) :
    lrTurn B m [.val q, .val v, .val (rowD p), .own fs, .own gs, .val (rowD at'), .val (tabD rs), x7, x8, x9, x10, .no, .no] := by
  have hL : 10000 ≤ sizeLine := by rw [sizeLine_eq]; omega
  unfold lrTurn
  refine x_seq fun B1 n1 r1 _ _ => ?_
  refine x_set fun K hK => ?_
  simp
  refine lc_tt (fun d => match d with | .int a => .int (pA p a) | d => d) (fun d hd K2 hk2 => ?_) ?_
  · obtain ⟨a, ha, rfl⟩ := List.mem_map.mp hd
    have hk2 : K2 m (.int (pA p a)) := hk2
    simp [at_p hp (ok.bd a ha).1 (ok.bd a ha).2]
    exact hk2
  · have e1 : (at'.map D.int).map (fun d => match d with | .int a => .int (pA p a) | d => d) = (nmd p at').map D.int := by
      unfold nmd; rw [List.map_map, List.map_map]; rfl
    rw [e1]
    refine ⟨_, ints_id _, ?_⟩
    rw [hK, n1]; clear hK n1
    simp only [List.set_cons_succ, List.set_cons_zero]
    refine x_seq fun B2 n2 r2 _ _ => ?_
    simp
    rw [n2]; clear n2
    refine x_seq fun B3 n3 r3 _ _ => ?_
    refine x_for fun K hK => ?_
    simp
    rw [hK]; clear hK
    refine lr_rows hp ok hl4 rs [] _ _ hr (by simp; omega) fun x9 x10 => ?_
    rw [n3]; clear n3
    refine x_seq fun B4 n4 r4 _ _ => ?_
    simp
    refine ⟨by omega, ?_⟩
    rw [n4]; clear n4
    refine x_frz rfl ?_
    have nd : (rs.map (renRow p at')).Nodup := nodup_rows (rowUp_nodup up) fun a ha b hb e => renRow_inj hp ok (hr a ha) (hr b hb) e
    have ne : ∀ r ∈ rs.map (renRow p at'), r ≠ [] := fun r hr' e => by
      obtain ⟨s, hs, rfl⟩ := List.mem_map.mp hr'
      have := renRow_len p at' s
      rw [e] at this
      exact hne (List.eq_nil_of_length_eq_zero this.symm)
    have hk := hk (.val (.lst ((renA p at').map .int))) (.val (.lst ((rs.map (renRow p at')).map rowD))) x9 x10
    have et : tabD (renT p (at', rs)) = tabD (setR (rs.map (renRow p at'))) := rfl
    rw [et] at hk
    rw [← List.map_map]
    generalize rs.map (renRow p at') = rr at *
    simp
    refine ⟨rr, rows_of _, ne, fun rows' pm pw => ⟨by omega, ?_⟩⟩
    rw [sort_rows pm nd pw]
    exact hk
theorem lr_loop {B : EndsD} {m n : Nat} {q v : D} {p : List Int} (hp : IsP n p) : ∀ (zs : List Tb) (fs gs : List D) (x5 x6 x7 x8 x9 x10 : DL.Slot), (∀ z ∈ zs, AtomOk n z.1 ∧ z.1 ≠ [] ∧ z.1.length ≤ 4 ∧ rowUp z.2 ∧ (∀ r ∈ z.2, r.length = z.1.length) ∧ z.2.length ≤ 60) → fs.length + zs.length ≤ 100 → gs.length + zs.length ≤ 100 →
    (∀ x5 x6 x7 x8 x9 x10, B.nx m [.val q, .val v, .val (rowD p), .own (fs ++ zs.map fun z => rowD (renA p z.1)), .own (gs ++ zs.map fun z => tabD (renT p z)), x5, x6, x7, x8, x9, x10, .no, .no]) →
    rLoop (.many [5, 6]) lrTurn B (zs.map pairD) m [.val q, .val v, .val (rowD p), .own fs, .own gs, x5, x6, x7, x8, x9, x10, .no, .no]
  | [], fs, gs, x5, x6, x7, x8, x9, x10, _, _, _, hk => by
    have := hk x5 x6 x7 x8 x9 x10
    rw [List.map_nil, List.map_nil, List.append_nil, List.append_nil] at this
    exact this
  | z :: zs, fs, gs, x5, x6, x7, x8, x9, x10, h, hf, hg, hk => by
    obtain ⟨h1, h2, h3, h4, h5, h6⟩ := h z List.mem_cons_self
    rw [List.length_cons] at hf hg
    refine ⟨rfl, ?_⟩
    show lrTurn _ m [.val q, .val v, .val (rowD p), .own fs, .own gs, .val (rowD z.1), .val (tabD z.2), x7, x8, x9, x10, .no, .no]
    refine lr_turn hp h1 h2 h3 h4 h5 h6 (by omega) (by omega) fun x7 x8 x9 x10 => ?_
    refine lr_loop hp zs _ _ _ _ _ _ _ _ (fun y hy => h y (List.mem_cons_of_mem _ hy)) (by rw [List.length_append]; simp; omega) (by rw [List.length_append]; simp; omega) fun x5 x6 x7 x8 x9 x10 => ?_
    have := hk x5 x6 x7 x8 x9 x10
    rw [List.append_assoc, List.append_assoc]
    exact this
def S_lren : Spd := fun ds m Q _ => ∃ many os tbs p, ds = [qD many os, stD tbs, rowD p] ∧ Qok many os ∧ StOk os tbs ∧ IsP many.toNat p ∧ Q m (renD many p os tbs)
theorem p_lren (ε : Nat → Str → Prop) (ds : List D) (m : Nat) (Q : Nat → D → Prop) (hl : ds.length = 3) (h : S_lren ds m Q ε) : r__law_k03_renamed ε { nx := fun m _ => Q m .non, rt := Q } m (params ["query_here", "store_here", "places_here", "atoms_here", "tables_here", "atom", "table_here", "named", "rows_here", "row", "told_here", "attribute", "number"] ds) := by
  obtain ⟨many, os, tbs, p, rfl, hq, hs, hp, q⟩ := h
  have l6 := hq.l6
  have e : r__law_k03_renamed ε = (rSeq (rPar [3, 4] (pOwn (rLs rNil) (pOwn (rLs rNil) pNil))) (rSeq (rFor (.many [5, 6]) (rZip (rCons (rOp dIx (rVar 0) (rC (.int 1))) (rCons (rVar 1) rNil))) lrTurn) (rFrz 3 (rFrz 4 (rRet (rTup (rCons (rTup (rCons (rOp dIx (rVar 0) (rC (.int 0))) (rCons (rCall dTuple (rCons (rVar 3) rNil)) rNil))) (rCons (rCall dTuple (rCons (rVar 4) rNil)) rNil)))))))) := rfl
  rw [e]; clear e
  refine x_seq fun B4 n4 r4 _ _ => ?_
  simp
  rw [n4]; clear n4
  refine x_seq fun B5 n5 r5 _ _ => ?_
  refine x_for fun K hK => ?_
  simp [q_at1]
  rw [hK]; clear hK
  rw [zip_pairs os tbs]
  have hz : (os.zip tbs).length ≤ 6 := by rw [List.length_zip]; omega
  refine lr_loop hp (os.zip tbs) [] [] _ _ _ _ _ _ (zs_ok hq hs) (by simp; omega) (by simp; omega) fun x5 x6 x7 x8 x9 x10 => ?_
  rw [n5]; clear n5
  rw [List.nil_append, List.nil_append, fst_D hs.1, snd_D]
  refine x_frz rfl ?_
  refine x_frz rfl ?_
  refine x_ret ?_
  simp [q_at0]
  exact ⟨by rw [sizeLine_eq]; omega, q⟩
end WK03

namespace WK03
open PySem L2 DL
/-! ### stores side by side -/
theorem isTab_ok {w : Nat} {rs : List (List Int)} (hu : rowUp rs) (h : ∀ r ∈ rs, r.length = w ∧ ∀ a ∈ r, 0 ≤ a ∧ a < 1000000000000000000) : isTab w (tabD rs) = true := by
  rw [isTab_tup, rows_of]
  simp only [Bool.and_eq_true, decide_eq_true_iff]
  refine ⟨List.all_eq_true.mpr fun d hd => ?_, hu⟩
  obtain ⟨r, hr, rfl⟩ := List.mem_map.mp hd
  have := h r hr
  rw [isRow_tup, Bool.and_eq_true, decide_eq_true_iff]
  refine ⟨by rw [List.length_map]; exact this.1, List.all_eq_true.mpr fun d hd => ?_⟩
  obtain ⟨a, ha, rfl⟩ := List.mem_map.mp hd
  have := this.2 a ha
  unfold isNum
  simp only [Bool.and_eq_true, decide_eq_true_iff]
  omega
theorem StOk.sto {os : List (List Int)} {tbs : List (List (List Int))} (h : StOk os tbs) : isSto os (stD tbs) = true := by
  show (decide ((tbs.map tabD).length = os.length) && (os.zip (tbs.map tabD)).all fun p => isTab p.1.length p.2) = true
  rw [Bool.and_eq_true, decide_eq_true_iff]
  refine ⟨by rw [List.length_map]; exact h.1, ?_⟩
  rw [List.zip_map_right, List.all_map, List.all_eq_true]
  intro p hp
  exact isTab_ok (h.2 p hp).2.1 (h.2 p hp).2.2
theorem StOk.good {os : List (List Int)} {tbs : List (List (List Int))} (ho : os.length ≤ 60) (hw : ∀ ns ∈ os, ns.length ≤ 60) (h : StOk os tbs) : good 60 3 (stD tbs) := by
  refine ⟨by rw [List.length_map, h.1]; exact ho, fun d hd => ?_⟩
  obtain ⟨rs, hrs, rfl⟩ := List.mem_map.mp hd
  obtain ⟨i, hi, e⟩ := List.getElem_of_mem hrs
  have hj : i < (os.zip tbs).length := by rw [List.length_zip, h.1]; have := h.1; omega
  have hp := h.2 _ (List.getElem_mem hj)
  rw [List.getElem_zip] at hp
  simp only [e] at hp
  refine ⟨by rw [List.length_map]; exact hp.1, fun d hd => ?_⟩
  obtain ⟨r, hr, rfl⟩ := List.mem_map.mp hd
  exact good_ints (by rw [(hp.2.2 r hr).1]; exact hw _ (List.getElem_mem _))
theorem tab_inj {rs qs : List (List Int)} (h : tabD rs = tabD qs) : rs = qs := by
  have h2 : rs.map rowD = qs.map rowD := by injection h
  have h3 := congrArg D.rows h2
  rw [rows_of, rows_of] at h3
  injection h3
theorem st_inj : ∀ {ts us : List (List (List Int))}, ts.map tabD = us.map tabD → ts = us
  | [], [], _ => rfl
  | [], _ :: _, h => by cases h
  | _ :: _, [], h => by cases h
  | t :: ts, u :: us, h => by
    rw [List.map_cons, List.map_cons] at h
    injection h with h1 h2
    rw [tab_inj h1, st_inj h2]
theorem shp_tab (rs : List (List Int)) : (tabD rs).shp = true := shp_tup fun x hx => by
  obtain ⟨r, _, rfl⟩ := List.mem_map.mp hx
  exact shq_row r
theorem eqv_tab (rs qs : List (List Int)) : (tabD rs).eqv (tabD qs) = decide (rs = qs) := by
  unfold D.eqv D.py
  rw [py_rows, py_rows]
  unfold PyData.eqv
  exact eqvs_rows rs qs
theorem pyL_lay2 {k : Nat} : ∀ xs : List D, (∀ x ∈ xs, x.py.canLay0 = true ∧ x.py.depth ≤ k) → PyData.canLayAll0 (D.pyL xs) = true ∧ PyData.depthAll (D.pyL xs) ≤ k
  | [], _ => ⟨rfl, by simp [D.pyL, PyData.depthAll]⟩
  | x :: xs, h => by
    obtain ⟨h1, h2⟩ := pyL_lay2 xs fun y hy => h y (List.mem_cons_of_mem _ hy)
    have h3 := h x List.mem_cons_self
    unfold D.pyL
    refine ⟨by unfold PyData.canLayAll0; rw [h1, h3.1]; rfl, ?_⟩
    unfold PyData.depthAll
    exact Nat.max_le.mpr ⟨h3.2, h2⟩
theorem lay_row (r : List Int) : (rowD r).py.canLay0 = true ∧ (rowD r).py.depth ≤ 10 := by
  rw [show (rowD r).py = PyData.tuple (D.pyL (r.map .int)) from rfl, py_ints]
  refine ⟨ints_lay r, ?_⟩
  show PyData.depthAll (r.map .int) + 1 ≤ 10
  rw [ints_depth]; decide
theorem lay_tab (rs : List (List Int)) : (tabD rs).py.canLay0 = true ∧ (tabD rs).py.depth ≤ 11 := by
  obtain ⟨h1, h2⟩ := pyL_lay2 (rs.map rowD) fun x hx => by
    obtain ⟨r, _, rfl⟩ := List.mem_map.mp hx
    exact lay_row r
  refine ⟨h1, ?_⟩
  show PyData.depthAll (D.pyL (rs.map rowD)) + 1 ≤ 11
  omega
theorem shp_st (tbs : List (List (List Int))) : (stD tbs).shp = true := shp_tup fun x hx => by
  obtain ⟨rs, _, rfl⟩ := List.mem_map.mp hx
  have h := lay_tab rs
  unfold D.shq
  rw [Bool.and_eq_true, decide_eq_true_iff]
  exact ⟨h.1, by omega⟩
theorem eqvs_self : ∀ tbs : List (List (List Int)), PyData.eqvAll (D.pyL (tbs.map tabD)) (D.pyL (tbs.map tabD)) = true
  | [] => by simp [D.pyL, PyData.eqvAll]
  | t :: tbs => by
    have h := eqv_tab t t
    rw [decide_eq_true rfl] at h
    unfold D.eqv at h
    show PyData.eqvAll ((tabD t).py :: D.pyL (tbs.map tabD)) ((tabD t).py :: D.pyL (tbs.map tabD)) = true
    unfold PyData.eqvAll
    rw [h, eqvs_self tbs]
    rfl
theorem eqv_st (tbs : List (List (List Int))) : (stD tbs).eqv (stD tbs) = true := by
  unfold D.eqv D.py PyData.eqv
  exact eqvs_self tbs
theorem Tok.stok {most top : Nat} {os : List (List Int)} {tbs : List (List (List Int))} (hm : most ≤ 60) (ht : top ≤ 1000) (h : Tok most top os tbs) : StOk os tbs :=
  ⟨h.len, fun p hp => ⟨Nat.le_trans (h.tab p hp).few hm, (h.tab p hp).up, fun r hr => ⟨((h.tab p hp).row r hr).1, fun a ha => by have := ((h.tab p hp).row r hr).2 a ha; omega⟩⟩⟩
theorem ans_len {many : Int} {os : List (List Int)} {tbs : List (List (List Int))} (hq : Qok many os) (hs : StOk os tbs) {t : List Int} (h : t ∈ ansL (os.zip tbs) many.toNat) : t.length = many.toNat :=
  (((ansL_spec (zok_of hq hs)).2 t).mp h).1
theorem fold_few {zs : List (List Int × List (List Int))} {c : Nat} (h : ∀ p ∈ zs, p.2.length ≤ c) : ∀ (js : List Nat) (T : List (List Int)), (js.foldl (stepA zs) T).length ≤ T.length * c ^ js.length
  | [], T => by simp
  | j :: js, T => by
    refine Nat.le_trans (fold_few h js (stepA zs T j)) ?_
    refine Nat.le_trans (Nat.mul_le_mul_right _ (stepA_len h T j)) ?_
    rw [List.length_cons, Nat.pow_succ, Nat.mul_assoc, Nat.mul_comm c]
    exact Nat.le_refl _
/-! a query with its store -/
theorem lay_qD (many : Int) (os : List (List Int)) : (qD many os).py.canLay0 = true ∧ (qD many os).py.depth ≤ 13 := by
  have ht := lay_tab os
  obtain ⟨h1, h2⟩ := pyL_lay2 (k := 11) [D.int many, tabD os] fun x hx => by
    rcases List.mem_cons.mp hx with rfl | hx
    · exact ⟨rfl, by show PyData.depth (.int many) ≤ 11; simp [PyData.depth]⟩
    · rw [List.mem_singleton.mp hx]; exact ht
  refine ⟨h1, ?_⟩
  show PyData.depthAll (D.pyL [D.int many, tabD os]) + 1 ≤ 13
  omega
theorem lay_stD (tbs : List (List (List Int))) : (stD tbs).py.canLay0 = true ∧ (stD tbs).py.depth ≤ 13 := by
  obtain ⟨h1, h2⟩ := pyL_lay2 (tbs.map tabD) fun x hx => by
    obtain ⟨rs, _, rfl⟩ := List.mem_map.mp hx
    exact lay_tab rs
  refine ⟨h1, ?_⟩
  show PyData.depthAll (D.pyL (tbs.map tabD)) + 1 ≤ 13
  omega
theorem shp_qs (many : Int) (os : List (List Int)) (tbs : List (List (List Int))) : (D.tup [qD many os, stD tbs]).shp = true := shp_tup fun x hx => by
  unfold D.shq
  rw [Bool.and_eq_true, decide_eq_true_iff]
  rcases List.mem_cons.mp hx with rfl | hx
  · have h := lay_qD many os; exact ⟨h.1, by omega⟩
  · rw [List.mem_singleton.mp hx]; have h := lay_stD tbs; exact ⟨h.1, by omega⟩
theorem eqv_qD (many : Int) (os : List (List Int)) : PyData.eqv (qD many os).py (qD many os).py = true := by
  have h := eqv_tab os os
  rw [decide_eq_true rfl] at h
  unfold D.eqv at h
  show PyData.eqv (.tuple [.int many, (tabD os).py]) (.tuple [.int many, (tabD os).py]) = true
  unfold PyData.eqv PyData.eqvAll PyData.eqvAll PyData.eqvAll
  rw [h]
  simp [PyData.eqv]
theorem eqv_qs (many : Int) (os : List (List Int)) (tbs : List (List (List Int))) : (D.tup [qD many os, stD tbs]).eqv (D.tup [qD many os, stD tbs]) = true := by
  have h1 := eqv_qD many os
  have h2 := eqv_st tbs
  unfold D.eqv at h2
  show PyData.eqv (.tuple [(qD many os).py, (stD tbs).py]) (.tuple [(qD many os).py, (stD tbs).py]) = true
  unfold PyData.eqv PyData.eqvAll PyData.eqvAll PyData.eqvAll
  rw [h1, h2]
  rfl
theorem pow6 {k : Nat} (h : k ≤ 4) : 6 ^ k ≤ 1296 := Nat.le_trans (Nat.pow_le_pow_right (by omega) h) (by decide)
theorem ans_few {many : Int} {os : List (List Int)} {tbs : List (List (List Int))} (h4 : many ≤ 4) (h : ∀ p ∈ os.zip tbs, p.2.length ≤ 6) : (ansL (os.zip tbs) many.toNat).length ≤ 1296 := by
  have h := fold_few h (List.range many.toNat) [[]]
  rw [List.length_range, List.length_singleton, Nat.one_mul] at h
  exact Nat.le_trans h (pow6 (by omega))
theorem ren_few {os : List (List Int)} {tbs : List (List (List Int))} {p : List Int} (h : ∀ q ∈ os.zip tbs, q.2.length ≤ 6) : ∀ q ∈ (renQ p os).zip (renS p os tbs), q.2.length ≤ 6 := fun q hq => by
  rw [zip_ren] at hq
  obtain ⟨q', h', rfl⟩ := List.mem_map.mp hq
  have := setR_len (q'.2.map (renRow p q'.1))
  rw [List.length_map] at this
  have := h q' h'
  show (renT p q').length ≤ 6
  unfold renT; omega
/-- a drawn renaming -/
theorem isP_mixed {many : Int} {ys : List D} (h : ys.Perm (upsD 0 many)) : ∃ p : List Int, ys = p.map .int ∧ IsP many.toNat p := by
  rw [ups_rangeI] at h
  obtain ⟨p, rfl, _⟩ := ints_ex (p := fun _ => True) (ys := ys) fun y hy => by
    obtain ⟨a, _, rfl⟩ := List.mem_map.mp (h.mem_iff.mp hy)
    exact ⟨a, rfl, trivial⟩
  refine ⟨p, rfl, ⟨?_⟩⟩
  have h2 := h.map (fun d => match d with | D.int a => a | _ => 0)
  rw [List.map_map, List.map_map] at h2
  have e : ∀ ns : List Int, ns.map ((fun d => match d with | D.int a => a | _ => 0) ∘ D.int) = ns := fun ns => (List.map_congr_left fun a _ => rfl).trans (List.map_id _)
  rw [e, e] at h2
  exact h2

end WK03

namespace WK03
open PySem L2 DL
/-! ### the law's statements -/
def L0 : TSd := (rSet 12 (rFn 1 S_draw_q (fun _ _ => False) (rCons (rVar 1) rNil)))
def L1 : TSd := (rSet 13 (rFn 4 S_cjs (fun _ _ => False) (rCons (rVar 1) (rCons (rVar 12) (rCons (rC (.int 6)) (rCons (rC (.int 3)) rNil))))))
def L2 : TSd := (rSet 3 (rOp dIx (rVar 12) (rC (.int 0))))
def L3 : TSd := (rSet 4 (rCall dTuple (rCons (rFn 2 S_mixed (fun _ _ => False) (rCons (rVar 1) (rCons (rListRg (rRg1 (rVar 3))) rNil))) rNil)))
def L4 : TSd := (rSet 5 (rFnKw 3 2 1 S_ren (fun _ _ => False) [0, 1, 2] (rCons (rVar 12) (rCons (rVar 13) rNil)) (rCons (rVar 4) rNil)))
def L5 : TSd := (rIfS (rOr (rTest (rOp dNe (rVar 5) (rFn 3 S_lren (fun _ _ => False) (rCons (rVar 12) (rCons (rVar 13) (rCons (rVar 4) rNil)))))) (rNot (rTru (rCall dIsi (rCons (rVar 5) (rCons (rC (.ty "tuple")) rNil)))))) (rRet (rC (.bl false))) rNext)
def L6 : TSd := (rOwn 6 (rLs rNil))
def L7 : TSd := (rFor (.one 7) (rIt (rFn 2 S_ans (fun _ _ => False) (rCons (rVar 12) (rCons (rVar 13) rNil)))) (rSeq (rSet 8 (rDictOf (rL (rLc (.many [15, 16]) [15, 16] (rEnum (rCons (rVar 7) rNil)) rYes (rTup (rCons (rOp dIx (rVar 4) (rVar 15)) (rCons (rVar 16) rNil))))))) (rApp 6 (rCall dTuple (rCons (rL (rLc (.one 15) [15] (rRng1 (rCons (rVar 3) rNil)) rYes (rGetI (rVar 8) (rVar 15)))) rNil)))))
def L9 : TSd := (rIfS (rTest (rOp dNe (rFn 2 S_ans (fun _ _ => False) (rCons (rOp dIx (rVar 5) (rC (.int 0))) (rCons (rOp dIx (rVar 5) (rC (.int 1))) rNil))) (rCall dTuple (rCons (rSortR (rVar 6)) rNil)))) (rRet (rC (.bl false))) rNext)
def L10 : TSd := (rSet 9 (rCall dTuple (rCons (rL (rLc (.one 15) [15] (rRng1 (rCons (rVar 3) rNil)) rYes (rIdx (rVar 4) (rVar 15)))) rNil)))
def L11 : TSd := (rIfS (rTest (rOp dNe (rFn 3 S_ren (fun _ _ => False) (rCons (rOp dIx (rVar 5) (rC (.int 0))) (rCons (rOp dIx (rVar 5) (rC (.int 1))) (rCons (rVar 9) rNil)))) (rTup (rCons (rVar 12) (rCons (rVar 13) rNil))))) (rRet (rC (.bl false))) rNext)
def L12 : TSd := (rOwn 10 (rLs (rCons (rVar 4) (rCons (rSl (rVar 4) rNoPart (rPart (rNeg (rC (.int 1))))) (rCons (rOp dAdd (rVar 4) (rTup (rCons (rVar 3) rNil))) (rCons (rCall dList (rCons (rVar 4) rNil)) rNil))))))
def L13 : TSd := (rApp 10 (rFn 2 (S_bentU 16) (fun _ _ => False) (rCons (rVar 1) (rCons (rVar 4) rNil))))
def L15 : TSd := (rFor (.one 14) (rIt (rOp dAdd (rVar 10) (rLst (rCons (rOp dAdd (rSl (rVar 4) rNoPart (rPart (rNeg (rC (.int 1))))) (rC (.tup [(.int 0)]))) (rCons (rFn 1 S_odd (fun _ _ => False) (rCons (rVar 1) rNil)) rNil))))) (rSeq (rSet 11 (rAndV (rCall dIsi (rCons (rVar 14) (rCons (rC (.ty "tuple")) rNil))) (rOp dEq (rL (rLc (.one 17) [17] (rIt (rVar 14)) (rNot (rTru (rFn 1 S_whole (fun _ _ => False) (rCons (rVar 17) rNil)))) (rC (.int 1)))) (rLst rNil)))) (rSeq (rSet 11 (rAndV (rVar 11) (rOp dEq (rCall dSortedV (rCons (rVar 14) rNil)) (rListRg (rRg1 (rVar 3)))))) (rSeq (rIfS (rNot (rTru (rFn 2 S_truth (fun _ _ => False) (rCons (rKw 2 2 S_ord (fun _ _ => False) [0, 1] (rCons (rVar 12) (rCons (rVar 14) rNil))) (rCons (rVar 11) rNil))))) (rRet (rC (.bl false))) rNext) (rIfS (rAnd (rNot (rTru (rVar 11))) (rNot (rTru (rCall (dIsiA isI isO) (rCons (rCaught isJ (fun εc8 => (rFn 3 S_ren εc8 (rCons (rVar 12) (rCons (rVar 13) (rCons (rVar 14) rNil)))))) (rCons (rC (.cl "BadPlaces")) rNil)))))) (rRet (rC (.bl false))) rNext)))))
def L16 : TSd := (rIfS (rNot (rTru (rCall (dIsiA isI isO) (rCons (rCaught isJ (fun εc9 => (rFn 3 S_ren εc9 (rCons (rVar 12) (rCons (rC .non) (rCons (rC .non) rNil)))))) (rCons (rC (.cl "BadStore")) rNil))))) (rRet (rC (.bl false))) rNext)
def lapB : TSd := rSeq L0 (rSeq L1 (rSeq L2 (rSeq L3 (rSeq L4 (rSeq L5 (rSeq L6 (rSeq L7 (rFrz 6 (rSeq L9 (rSeq L10 (rSeq L11 (rSeq L12 (rSeq L13 (rFrz 10 (rSeq L15 L16)))))))))))))))
section
variable {B : EndsD} {sc : D} {x2 x3 x4 x5 x6 x7 x8 x9 x10 x11 x12 x13 x14 : DL.Slot}
theorem l0_ok {m : Nat} (hm : m + 400 < CAP)
    (hk : ∀ m' (many : Int) os, m' ≤ m + 100 → many ≤ 4 → Qok many os → B.nx m' [.val sc, .val .rng, x2, x3, x4, x5, x6, x7, x8, x9, x10, x11, .val (qD many os), x13, x14, .no, .no, .no]) :
    L0 B m [.val sc, .val .rng, x2, x3, x4, x5, x6, x7, x8, x9, x10, x11, x12, x13, x14, .no, .no, .no] := by
  unfold L0
  simp
  exact ⟨rfl, by omega, fun m1 many os h1 h4 hq => hk m1 many os h1 h4 hq⟩
theorem l1_ok {m : Nat} {many : Int} {os : List (List Int)} (hm : m + 3300 < CAP) (hq : Qok many os)
    (hk : ∀ m' tbs, m' ≤ m + 2000 → StOk os tbs → (∀ p ∈ os.zip tbs, p.2.length ≤ 6) → B.nx m' [.val sc, .val .rng, x2, x3, x4, x5, x6, x7, x8, x9, x10, x11, .val (qD many os), .val (stD tbs), x14, .no, .no, .no]) :
    L1 B m [.val sc, .val .rng, x2, x3, x4, x5, x6, x7, x8, x9, x10, x11, .val (qD many os), x13, x14, .no, .no, .no] := by
  unfold L1
  simp
  exact ⟨many, os, 6, 3, rfl, hq, by omega, by omega, by omega, by omega, fun m1 tbs h1 ok => hk m1 tbs h1 (ok.stok (by omega) (by omega)) fun p hp => (ok.tab p hp).few⟩
theorem l2_ok {m : Nat} {many : Int} {os : List (List Int)}
    (hk : B.nx m [.val sc, .val .rng, x2, .val (.int many), x4, x5, x6, x7, x8, x9, x10, x11, .val (qD many os), x13, x14, .no, .no, .no]) :
    L2 B m [.val sc, .val .rng, x2, x3, x4, x5, x6, x7, x8, x9, x10, x11, .val (qD many os), x13, x14, .no, .no, .no] := by
  unfold L2
  simp [q_at0]
  exact hk
theorem l3_ok {m : Nat} {many : Int} (hm : m + 100 < CAP) (m1 : 1 ≤ many) (m8 : many ≤ 8)
    (hk : ∀ m' (p : List Int), m' ≤ m + 8 → IsP many.toNat p → B.nx m' [.val sc, .val .rng, x2, .val (.int many), .val (rowD p), x5, x6, x7, x8, x9, x10, x11, x12, x13, x14, .no, .no, .no]) :
    L3 B m [.val sc, .val .rng, x2, .val (.int many), x4, x5, x6, x7, x8, x9, x10, x11, x12, x13, x14, .no, .no, .no] := by
  unfold L3
  simp
  have hl : (upsD 0 many).length ≤ 8 := by rw [ups_rangeI]; unfold rangeI; simp; omega
  refine ⟨RgOk.of_le (by omega) (by omega) (by omega) (by omega), _, .inl rfl, fun x hx => ?_, by omega, by omega, fun m2 ys h2 hp => ?_⟩
  · rw [ups_rangeI] at hx
    obtain ⟨a, _, rfl⟩ := List.mem_map.mp hx
    rfl
  · obtain ⟨p, rfl, h⟩ := isP_mixed hp
    exact hk m2 p (by omega) h
theorem l4_ok {m : Nat} {many : Int} {os : List (List Int)} {tbs : List (List (List Int))} {p : List Int} (hq : Qok many os) (hs : StOk os tbs) (hp : IsP many.toNat p)
    (hk : B.nx m [.val sc, .val .rng, x2, x3, .val (rowD p), .val (renD many p os tbs), x6, x7, x8, x9, x10, x11, .val (qD many os), .val (stD tbs), x14, .no, .no, .no]) :
    L4 B m [.val sc, .val .rng, x2, x3, .val (rowD p), x5, x6, x7, x8, x9, x10, x11, .val (qD many os), .val (stD tbs), x14, .no, .no, .no] := by
  have m8 := hq.m8
  have l6 := hq.l6
  unfold L4
  refine x_set fun K hK => ?_
  have yes : K m (renD many p os tbs) := by rw [hK]; exact hk
  clear hK hk
  simp
  refine ⟨rfl, 60, 3, 8, 1, many, os, stD tbs, rowD p, rfl, hq, by omega, hs.good (by omega) (fun ns h => by have := hq.l4 ns h; omega), good_ints (by rw [hp.len]; omega), (fun e => by rw [hs.sto] at e; cases e), (fun _ e => by rw [isOrd_ok hp] at e; cases e), fun tbs' p' e _ _ e2 _ => ?_⟩
  have et : tbs' = tbs := by
    have : tbs.map tabD = tbs'.map tabD := by injection e
    exact (st_inj this).symm
  have ep : p' = p := by
    have h : p.map D.int = p'.map D.int := by injection e2
    have h2 := congrArg D.ints h
    rw [ints_id, ints_id] at h2
    injection h2 with h2
    exact h2.symm
  subst et ep
  exact yes
theorem l5_ok {m : Nat} {many : Int} {os : List (List Int)} {tbs : List (List (List Int))} {p : List Int} (hq : Qok many os) (hs : StOk os tbs) (hp : IsP many.toNat p)
    (hk : B.nx m [.val sc, .val .rng, x2, x3, .val (rowD p), .val (renD many p os tbs), x6, x7, x8, x9, x10, x11, .val (qD many os), .val (stD tbs), x14, .no, .no, .no]) :
    L5 B m [.val sc, .val .rng, x2, x3, .val (rowD p), .val (renD many p os tbs), x6, x7, x8, x9, x10, x11, .val (qD many os), .val (stD tbs), x14, .no, .no, .no] := by
  unfold L5
  refine x_if fun K hK1 hK2 => ?_
  have yes : K m false := by rw [hK2]; exact hk
  clear hK1 hK2 hk
  simp
  refine ⟨many, os, tbs, p, rfl, hq, hs, hp, shp_qs _ _ _, shp_qs _ _ _, ?_⟩
  have e : (renD many p os tbs).eqv (renD many p os tbs) = true := eqv_qs _ _ _
  rw [e]
  simp [renD, D.tyName, kitB]
  exact yes
theorem l6_ok {m : Nat}
    (hk : B.nx m [.val sc, .val .rng, x2, x3, x4, x5, .own [], x7, x8, x9, x10, x11, x12, x13, x14, .no, .no, .no]) :
    L6 B m [.val sc, .val .rng, x2, x3, x4, x5, x6, x7, x8, x9, x10, x11, x12, x13, x14, .no, .no, .no] := by
  unfold L6
  simp
  exact hk
end
end WK03

namespace WK03
open PySem L2 DL
/-! ### the law's statements, further -/
def fW : D → Option D := fun d => if isWhole d = true then none else some (.int 1)
theorem fW_all : ∀ ds : List D, ds.filterMap fW = ((ds.filter fun d => !isWhole d).map fun _ => (1 : Int)).map .int
  | [] => rfl
  | d :: ds => by
    rw [List.filter_cons]
    cases e : isWhole d with
    | true => rw [List.filterMap_cons_none (by unfold fW; rw [if_pos e]), fW_all ds]; rfl
    | false => rw [List.filterMap_cons_some (b := .int 1) (by unfold fW; rw [if_neg (by rw [e]; simp)]), fW_all ds]; rfl
theorem whole_ints : ∀ {ds : List D}, (ds.filter fun d => !isWhole d) = [] → ∃ t : List Int, ds = t.map .int
  | [], _ => ⟨[], rfl⟩
  | d :: ds, h => by
    rw [List.filter_cons] at h
    cases e : isWhole d with
    | false => rw [e] at h; cases h
    | true =>
      rw [e] at h
      obtain ⟨t, rfl⟩ := whole_ints (ds := ds) h
      cases d <;> simp only [isWhole] at e <;> first | cases e | skip
      rename_i i
      exact ⟨i :: t, rfl⟩
theorem ints_whole (t : List Int) : ((t.map D.int).filter fun d => !isWhole d) = [] := by
  rw [List.filter_eq_nil_iff]
  intro d hd
  obtain ⟨a, _, rfl⟩ := List.mem_map.mp hd
  simp [isWhole]
theorem cut_mem {α : Type} {xs : List α} {lo hi : Option Int} {x : α} (h : x ∈ cutD xs lo hi) : x ∈ xs := by
  unfold cutD at h
  exact List.mem_of_mem_drop (List.mem_of_mem_take h)
theorem ups_r (n : Nat) : ups 0 n = (rangeI n).map D.int := ups0_ints n
theorem isJ_store : isJ "BadStore" = true := by decide +kernel
theorem isI_store : isI "BadStore" (.cl "BadStore") = some true := by decide +kernel
theorem isJ_places : isJ "BadPlaces" = true := by decide +kernel
theorem isI_places : isI "BadPlaces" (.cl "BadPlaces") = some true := by decide +kernel
def dueB : TSd := (rSeq (rSet 8 (rDictOf (rL (rLc (.many [15, 16]) [15, 16] (rEnum (rCons (rVar 7) rNil)) rYes (rTup (rCons (rOp dIx (rVar 4) (rVar 15)) (rCons (rVar 16) rNil))))))) (rApp 6 (rCall dTuple (rCons (rL (rLc (.one 15) [15] (rRng1 (rCons (rVar 3) rNil)) rYes (rGetI (rVar 8) (rVar 15)))) rNil))))
def fT (p : List Int) : D → D := fun d => match d with | .tpw [.int a, x] => .tup [.int (pA p a), x] | d => d
theorem enu_zip {p t : List Int} (h : t.length = p.length) : (enuD (t.map D.int)).map (fT p) = (p.zip t).map fun q => D.tup [.int q.1, .int q.2] := by
  apply List.ext_getElem
  · rw [List.length_map, enuD_length, List.length_map, List.length_map, List.length_zip]; omega
  · intro i h1 h2
    have hi : i < t.length := by rw [List.length_map, enuD_length, List.length_map] at h1; exact h1
    rw [List.getElem_map, List.getElem_map, List.getElem_zip]
    unfold enuD
    rw [List.getElem_map, List.getElem_range]
    have e : (t.map D.int).getD i .non = .int t[i] := by rw [List.getD_eq_getElem?_getD, List.getElem?_map, List.getElem?_eq_getElem hi]; rfl
    rw [e]
    show D.tup [.int (pA p (i : Int)), .int t[i]] = D.tup [.int p[i], .int t[i]]
    have e2 : pA p (i : Int) = p[i] := by
      unfold pA
      rw [Int.toNat_natCast, List.getD_eq_getElem?_getD, List.getElem?_eq_getElem (by omega)]; rfl
    rw [e2]
section
variable {B : EndsD} {sc : D} {x2 x3 x4 x5 x6 x7 x8 x9 x10 x11 x12 x13 x14 : DL.Slot}
theorem due_turn {m : Nat} {many : Int} {p t : List Int} {ks : List D} (m1 : 1 ≤ many) (m8 : many ≤ 8) (hp : IsP many.toNat p) (ht : t.length = many.toNat) (hks : ks.length ≤ 2000)
    (hk : ∀ x8, B.nx m [.val sc, .val .rng, x2, .val (.int many), .val (rowD p), x5, .own (ks ++ [rowD (perT many.toNat p t)]), .val (rowD t), x8, x9, x10, x11, x12, x13, x14, .no, .no, .no]) :
    dueB B m [.val sc, .val .rng, x2, .val (.int many), .val (rowD p), x5, .own ks, .val (rowD t), x8, x9, x10, x11, x12, x13, x14, .no, .no, .no] := by
  have hL : 10000 ≤ sizeLine := by rw [sizeLine_eq]; omega
  have hl := hp.len
  unfold dueB
  refine x_seq fun B1 n1 r1 _ _ => ?_
  refine x_set fun K hK => ?_
  simp
  refine lc_tt (fT p) (fun d hd K2 hk2 => ?_) ?_
  · unfold enuD at hd
    obtain ⟨i, hi, rfl⟩ := List.mem_map.mp hd
    rw [List.length_map, ht] at hi
    have hi := List.mem_range.mp hi
    have e : (t.map D.int).getD i .non = .int (t.getD i 0) := by rw [List.getD_eq_getElem?_getD, List.getElem?_map, List.getD_eq_getElem?_getD, List.getElem?_eq_getElem (by omega)]; rfl
    rw [e] at hk2 ⊢
    have hk2 : K2 m (.tup [.int (pA p (i : Int)), .int (t.getD i 0)]) := hk2
    rw [List.getD_eq_getElem?_getD] at hk2 ⊢
    simp [at_p hp (a := (i : Int)) (by omega) (by omega)]
    exact ⟨by omega, hk2⟩
  · rw [enu_zip (by omega)]
    refine ⟨_, prs_map _, ?_⟩
    rw [mer_zip (by omega) hp.nod, hK, n1]; clear hK n1
    simp
    refine ⟨by omega, by omega, ?_⟩
    refine lc_tt (fun d => match d with | .int a => .int (t.getD (p.idxOf a) 0) | d => d) (fun d hd K2 hk2 => ?_) ?_
    · rw [ups_r] at hd
      obtain ⟨a, ha, rfl⟩ := List.mem_map.mp hd
      have hk2 : K2 m (.int (t.getD (p.idxOf a) 0)) := hk2
      have hm : a ∈ p := hp.perm.mem_iff.mpr ha
      simp
      exact ⟨_, by rw [lk_zip (by omega), if_pos hm], hk2⟩
    · have e2 : (ups 0 many.toNat).map (fun d => match d with | .int a => .int (t.getD (p.idxOf a) 0) | d => d) = (perT many.toNat p t).map D.int := by
        rw [ups_r]
        unfold perT
        rw [List.map_map, List.map_map]; rfl
      rw [e2]
      exact ⟨by omega, hk _⟩
theorem due_loop {m : Nat} {many : Int} {p : List Int} (m1 : 1 ≤ many) (m8 : many ≤ 8) (hp : IsP many.toNat p) : ∀ (ts : List (List Int)) (ks : List D) (x7 x8 : DL.Slot), (∀ t ∈ ts, t.length = many.toNat) → ks.length + ts.length ≤ 2000 →
    (∀ x7 x8, B.nx m [.val sc, .val .rng, x2, .val (.int many), .val (rowD p), x5, .own (ks ++ (ts.map (perT many.toNat p)).map rowD), x7, x8, x9, x10, x11, x12, x13, x14, .no, .no, .no]) →
    rLoop (.one 7) dueB B (ts.map rowD) m [.val sc, .val .rng, x2, .val (.int many), .val (rowD p), x5, .own ks, x7, x8, x9, x10, x11, x12, x13, x14, .no, .no, .no]
  | [], ks, x7, x8, _, _, hk => by
    have := hk x7 x8
    rw [List.map_nil, List.map_nil, List.append_nil] at this
    exact this
  | t :: ts, ks, x7, x8, h, hl, hk => by
    rw [List.length_cons] at hl
    show dueB _ m [.val sc, .val .rng, x2, .val (.int many), .val (rowD p), x5, .own ks, .val (rowD t), x8, x9, x10, x11, x12, x13, x14, .no, .no, .no]
    refine due_turn m1 m8 hp (h t List.mem_cons_self) (by omega) fun x8 => ?_
    refine due_loop m1 m8 hp ts _ _ _ (fun s hs => h s (List.mem_cons_of_mem _ hs)) (by rw [List.length_append]; simp; omega) fun x7 x8 => ?_
    have := hk x7 x8
    rw [List.append_assoc]
    exact this
abbrev anL (many : Int) (os : List (List Int)) (tbs : List (List (List Int))) : List (List Int) := ansL (os.zip tbs) many.toNat
theorem ans_of {m : Nat} {many : Int} {os : List (List Int)} {tbs : List (List (List Int))} {Q : Nat → D → Prop} {ε : Nat → Str → Prop} (hq : Qok many os) (h4 : many ≤ 4) (hs : StOk os tbs) (few : ∀ q ∈ os.zip tbs, q.2.length ≤ 6) (q : Q m (tabD (anL many os tbs))) : S_ans [qD many os, stD tbs] m Q ε := by
  have l6 := hq.l6
  have m1 := hq.m1
  refine ⟨60, 3, many, os, stD tbs, rfl, hq, by omega, hs.good (by omega) (fun ns h => by have := hq.l4 ns h; omega), (fun e => by rw [hs.sto] at e; cases e), fun tbs' e _ _ => ?_⟩
  have et : tbs' = tbs := by
    have : tbs.map tabD = tbs'.map tabD := by injection e
    exact (st_inj this).symm
  subst et
  exact ⟨6, by omega, few, by have := pow6 (k := many.toNat) (by omega); rw [sizeLine_eq]; omega, q⟩
theorem ren_of {m : Nat} {many : Int} {os : List (List Int)} {tbs : List (List (List Int))} {p : List Int} {Q : Nat → D → Prop} {ε : Nat → Str → Prop} (hq : Qok many os) (hs : StOk os tbs) (hp : IsP many.toNat p) (q : Q m (renD many p os tbs)) : S_ren [qD many os, stD tbs, rowD p] m Q ε := by
  have m8 := hq.m8
  have l6 := hq.l6
  refine ⟨60, 3, 8, 1, many, os, stD tbs, rowD p, rfl, hq, by omega, hs.good (by omega) (fun ns h => by have := hq.l4 ns h; omega), good_ints (by rw [hp.len]; omega), (fun e => by rw [hs.sto] at e; cases e), (fun _ e => by rw [isOrd_ok hp] at e; cases e), fun tbs' p' e _ _ e2 _ => ?_⟩
  have et : tbs' = tbs := by
    have : tbs.map tabD = tbs'.map tabD := by injection e
    exact (st_inj this).symm
  have ep : p' = p := by
    have h : p.map D.int = p'.map D.int := by injection e2
    have h2 := congrArg D.ints h
    rw [ints_id, ints_id] at h2
    injection h2 with h2
    exact h2.symm
  subst et ep
  exact q
theorem l7_ok {m : Nat} {many : Int} {os : List (List Int)} {tbs : List (List (List Int))} {p : List Int} (hq : Qok many os) (h4 : many ≤ 4) (hs : StOk os tbs) (few : ∀ q ∈ os.zip tbs, q.2.length ≤ 6) (hp : IsP many.toNat p)
    (hk : ∀ x7 x8, B.nx m [.val sc, .val .rng, x2, .val (.int many), .val (rowD p), x5, .own (((anL many os tbs).map (perT many.toNat p)).map rowD), x7, x8, x9, x10, x11, .val (qD many os), .val (stD tbs), x14, .no, .no, .no]) :
    L7 B m [.val sc, .val .rng, x2, .val (.int many), .val (rowD p), x5, .own [], x7, x8, x9, x10, x11, .val (qD many os), .val (stD tbs), x14, .no, .no, .no] := by
  have e : L7 = rFor (.one 7) (rIt (rFn 2 S_ans (fun _ _ => False) (rCons (rVar 12) (rCons (rVar 13) rNil)))) dueB := rfl
  rw [e]; clear e
  have m1 := hq.m1
  have m8 := hq.m8
  refine x_for fun K hK => ?_
  have yes : K m ((anL many os tbs).map rowD) := by
    rw [hK]
    refine due_loop m1 m8 hp (anL many os tbs) [] _ _ (fun t h => ans_len hq hs h) (by have : (anL many os tbs).length ≤ 1296 := ans_few h4 few; simp only [List.length_nil]; omega) fun x7 x8 => ?_
    rw [List.nil_append]
    exact hk x7 x8
  clear hK hk
  simp
  first | exact ⟨rfl, ans_of hq h4 hs few yes⟩ | exact ans_of hq h4 hs few yes
theorem per_ne {many : Int} {p : List Int} (m1 : 1 ≤ many) {T : List (List Int)} : ∀ r ∈ T.map (perT many.toNat p), r ≠ [] := fun r h e => by
  obtain ⟨t, _, rfl⟩ := List.mem_map.mp h
  have := perT_len many.toNat p t
  rw [e] at this
  simp at this
  omega
theorem l9_ok {m : Nat} {many : Int} {os : List (List Int)} {tbs : List (List (List Int))} {p : List Int} (hq : Qok many os) (h4 : many ≤ 4) (hs : StOk os tbs) (few : ∀ q ∈ os.zip tbs, q.2.length ≤ 6) (hp : IsP many.toNat p)
    (hk : B.nx m [.val sc, .val .rng, x2, x3, x4, .val (renD many p os tbs), .val (.lst (((anL many os tbs).map (perT many.toNat p)).map rowD)), x7, x8, x9, x10, x11, x12, x13, x14, .no, .no, .no]) :
    L9 B m [.val sc, .val .rng, x2, x3, x4, .val (renD many p os tbs), .val (.lst (((anL many os tbs).map (perT many.toNat p)).map rowD)), x7, x8, x9, x10, x11, x12, x13, x14, .no, .no, .no] := by
  have hL : 10000 ≤ sizeLine := by rw [sizeLine_eq]; omega
  unfold L9
  refine x_if fun K hK1 hK2 => ?_
  have yes : K m false := by rw [hK2]; exact hk
  clear hK1 hK2 hk
  have nd := ans_nodup hq hs hp
  have ne := per_ne (many := many) (p := p) hq.m1 (T := anL many os tbs)
  have ea := ans_ren hq hs hp
  have qr := renQ_ok hq hp
  have sr := renS_ok (p := p) hs
  have fr := ren_few (p := p) few
  have fl := ans_few h4 few
  have len : ((anL many os tbs).map (perT many.toNat p)).length ≤ 1296 := by rw [List.length_map]; exact fl
  have nd : ((anL many os tbs).map (perT many.toNat p)).Nodup := nd
  have ea : anL many (renQ p os) (renS p os tbs) = setR ((anL many os tbs).map (perT many.toNat p)) := ea
  generalize (anL many os tbs).map (perT many.toNat p) = T at *
  have fin : ∀ rows' : List (List Int), rows'.Perm T → rows'.Pairwise (fun a b => HT.lexLt b a = false) → (tabD (anL many (renQ p os) (renS p os tbs))).eqv (.tup (rows'.map rowD)) = true := fun rows' pm pw => by
    rw [sort_rows pm nd pw, ea]
    have := eqv_tab (setR T) (setR T)
    rw [decide_eq_true rfl] at this
    exact this
  unfold renD
  simp [atI, ixN]
  refine ans_of qr h4 sr fr ?_
  refine ⟨T, rows_of _, ne, fun rows' pm pw => ?_⟩
  have hf := fin rows' pm pw
  refine ⟨shp_tab _, shp_tab rows', ?_⟩
  rw [hf]
  exact yes
theorem l10_ok {m : Nat} {many : Int} {p : List Int} (m1 : 1 ≤ many) (m8 : many ≤ 8) (hp : IsP many.toNat p)
    (hk : B.nx m [.val sc, .val .rng, x2, .val (.int many), .val (rowD p), x5, x6, x7, x8, .val (rowD (backP many.toNat p)), x10, x11, x12, x13, x14, .no, .no, .no]) :
    L10 B m [.val sc, .val .rng, x2, .val (.int many), .val (rowD p), x5, x6, x7, x8, x9, x10, x11, x12, x13, x14, .no, .no, .no] := by
  have hL : 10000 ≤ sizeLine := by rw [sizeLine_eq]; omega
  unfold L10
  refine x_set fun K hK => ?_
  have yes : K m (rowD (backP many.toNat p)) := by rw [hK]; exact hk
  clear hK hk
  simp
  refine ⟨by omega, by omega, ?_⟩
  refine lc_tt (fun d => match d with | .int a => .int ((p.idxOf a : Nat) : Int) | d => d) (fun d hd K2 hk2 => ?_) ?_
  · rw [ups_r] at hd
    obtain ⟨a, ha, rfl⟩ := List.mem_map.mp hd
    have hk2 : K2 m (.int ((p.idxOf a : Nat) : Int)) := hk2
    have hm : a ∈ p := hp.perm.mem_iff.mpr ha
    simp
    exact ⟨hm, hk2⟩
  · have e2 : (ups 0 many.toNat).map (fun d => match d with | .int a => .int ((p.idxOf a : Nat) : Int) | d => d) = (backP many.toNat p).map D.int := by
      rw [ups_r]
      unfold backP
      rw [List.map_map, List.map_map]; rfl
    rw [e2]
    exact yes
theorem l11_ok {m : Nat} {many : Int} {os : List (List Int)} {tbs : List (List (List Int))} {p : List Int} (hq : Qok many os) (hs : StOk os tbs) (hp : IsP many.toNat p)
    (hk : B.nx m [.val sc, .val .rng, x2, x3, x4, .val (renD many p os tbs), x6, x7, x8, .val (rowD (backP many.toNat p)), x10, x11, .val (qD many os), .val (stD tbs), x14, .no, .no, .no]) :
    L11 B m [.val sc, .val .rng, x2, x3, x4, .val (renD many p os tbs), x6, x7, x8, .val (rowD (backP many.toNat p)), x10, x11, .val (qD many os), .val (stD tbs), x14, .no, .no, .no] := by
  have hL : 10000 ≤ sizeLine := by rw [sizeLine_eq]; omega
  unfold L11
  refine x_if fun K hK1 hK2 => ?_
  have yes : K m false := by rw [hK2]; exact hk
  clear hK1 hK2 hk
  have eb : renD many (backP many.toNat p) (renQ p os) (renS p os tbs) = D.tup [qD many os, stD tbs] := by
    unfold renD
    rw [back_Q hq hp, back_S hq hs hp]
  conv in renD many p os tbs => unfold renD
  simp [atI, ixN]
  refine ren_of (renQ_ok hq hp) (renS_ok hs) (back_isP hp) ?_
  rw [eb]
  have ee := eqv_qs many os tbs
  have sh := shp_qs many os tbs
  simp [sh, ee]
  exact ⟨by omega, yes⟩
end

end WK03

namespace WK03
open PySem L2 DL
/-! ### values that are no renamings -/
section
variable {B : EndsD} {sc : D} {x2 x3 x4 x5 x6 x7 x8 x9 x10 x11 x12 x13 x14 : DL.Slot} {m : Nat}
theorem l12_ok {many : Int} {p : List Int} (m1 : 1 ≤ many) (m8 : many ≤ 8) (hp : IsP many.toNat p)
    (hk : ∀ vs, vs.length ≤ 4 → (∀ d ∈ vs, good 60 3 d) → B.nx m [.val sc, .val .rng, x2, .val (.int many), .val (rowD p), x5, x6, x7, x8, x9, .own vs, x11, x12, x13, x14, .no, .no, .no]) :
    L12 B m [.val sc, .val .rng, x2, .val (.int many), .val (rowD p), x5, x6, x7, x8, x9, x10, x11, x12, x13, x14, .no, .no, .no] := by
  have hL : 10000 ≤ sizeLine := by rw [sizeLine_eq]; omega
  have hl := hp.len
  unfold L12
  simp
  refine ⟨by omega, by omega, by omega, hk _ (by simp) fun d hd => ?_⟩
  have gp : good 60 3 (rowD p) := good_up (Nat.le_refl _) (by omega : 1 ≤ 3) (good_ints (by omega))
  simp only [List.mem_cons, List.not_mem_nil, or_false] at hd
  rcases hd with rfl | rfl | rfl | rfl
  · exact gp
  · refine ⟨Nat.le_trans (cutD_length _ _ _) (by rw [List.length_map]; omega), fun d hd => ?_⟩
    obtain ⟨a, _, rfl⟩ := List.mem_map.mp (cut_mem hd)
    trivial
  · refine ⟨by rw [List.length_append, List.length_map]; simp; omega, fun d hd => ?_⟩
    rcases List.mem_append.mp hd with h | h
    · obtain ⟨a, _, rfl⟩ := List.mem_map.mp h
      trivial
    · rw [List.mem_singleton.mp h]; trivial
  · refine ⟨by rw [List.length_map]; omega, fun d hd => ?_⟩
    obtain ⟨a, _, rfl⟩ := List.mem_map.mp hd
    trivial
theorem l13_ok {p : List Int} {vs : List D} (hm : m + 100 < CAP) (hl : p.length ≤ 8) (hv : vs.length ≤ 4) (hg : ∀ d ∈ vs, good 60 5 d)
    (hk : ∀ m' vs, m' ≤ m + 12 → vs.length ≤ 5 → (∀ d ∈ vs, good 60 5 d) → B.nx m' [.val sc, .val .rng, x2, x3, .val (rowD p), x5, x6, x7, x8, x9, .own vs, x11, x12, x13, x14, .no, .no, .no]) :
    L13 B m [.val sc, .val .rng, x2, x3, .val (rowD p), x5, x6, x7, x8, x9, .own vs, x11, x12, x13, x14, .no, .no, .no] := by
  have hL : 10000 ≤ sizeLine := by rw [sizeLine_eq]; omega
  unfold L13
  simp
  refine ⟨2, by omega, 8, rowD p, rfl, by omega, by omega, good_ints hl, by show m + 30 < CAP; omega, fun m3 b hm3 hb => ?_⟩
  replace hm3 : m3 ≤ m + 12 := hm3
  replace hb : good 9 4 b := hb
  simp
  refine ⟨by omega, hk m3 _ hm3 (by rw [List.length_append]; simp; omega) fun d hd => ?_⟩
  rcases List.mem_append.mp hd with h | h
  · exact hg d h
  · rw [List.mem_singleton.mp h]; exact good_up (by omega) (by omega) hb
def vnA : TSd := (rSet 11 (rAndV (rCall dIsi (rCons (rVar 14) (rCons (rC (.ty "tuple")) rNil))) (rOp dEq (rL (rLc (.one 17) [17] (rIt (rVar 14)) (rNot (rTru (rFn 1 S_whole (fun _ _ => False) (rCons (rVar 17) rNil)))) (rC (.int 1)))) (rLst rNil))))
def vnB : TSd := (rSet 11 (rAndV (rVar 11) (rOp dEq (rCall dSortedV (rCons (rVar 14) rNil)) (rListRg (rRg1 (rVar 3))))))
def vnC : TSd := (rIfS (rNot (rTru (rFn 2 S_truth (fun _ _ => False) (rCons (rKw 2 2 S_ord (fun _ _ => False) [0, 1] (rCons (rVar 12) (rCons (rVar 14) rNil))) (rCons (rVar 11) rNil))))) (rRet (rC (.bl false))) rNext)
def vnD : TSd := (rIfS (rAnd (rNot (rTru (rVar 11))) (rNot (rTru (rCall (dIsiA isI isO) (rCons (rCaught isJ (fun εc8 => (rFn 3 S_ren εc8 (rCons (rVar 12) (rCons (rVar 13) (rCons (rVar 14) rNil)))))) (rCons (rC (.cl "BadPlaces")) rNil)))))) (rRet (rC (.bl false))) rNext)
def vnT : TSd := rSeq vnA (rSeq vnB (rSeq vnC vnD))
variable {many : Int} {os : List (List Int)} {tbs : List (List (List Int))} {d : D} {w n : Nat}
theorem vn_CD (hq : Qok many os) (hs : StOk os tbs) (hg : good w n d)
    (hk : ∀ x11, B.nx m [.val sc, .val .rng, x2, .val (.int many), x4, x5, x6, x7, x8, x9, x10, x11, .val (qD many os), .val (stD tbs), .val d, .no, .no, .no]) :
    rSeq vnC vnD B m [.val sc, .val .rng, x2, .val (.int many), x4, x5, x6, x7, x8, x9, x10, .val (.bl (isOrd many.toNat d)), .val (qD many os), .val (stD tbs), .val d, .no, .no, .no] := by
  have l6 := hq.l6
  refine x_seq fun B1 n1 r1 _ _ => ?_
  unfold vnC
  refine x_if fun K hK1 hK2 => ?_
  have yes : K m false := by
    rw [hK2]
    show B1.nx m _
    rw [n1]; clear n1 r1 hK1 hK2
    unfold vnD
    refine x_if fun K hK1 hK2 => ?_
    have yes : K m false := by rw [hK2]; exact hk _
    clear hK1 hK2 hk
    cases e : isOrd many.toNat d with
    | true =>
      simp
      exact yes
    | false =>
      simp
      refine ⟨60, 3, w, n, many, os, stD tbs, d, rfl, hq, by omega, hs.good (by omega) (fun ns h => by have := hq.l4 ns h; omega), hg, (fun e => by rw [hs.sto] at e; cases e), fun _ _ => ⟨isJ_places, .inr ⟨isI_places, yes⟩⟩, fun tbs' p' _ _ _ e2 hp => ?_⟩
      subst e2
      rw [isOrd_ok hp] at e; cases e
  clear hK1 hK2 hk
  simp
  refine ⟨rfl, w, n, many, os, d, rfl, hq, hg, ?_⟩
  refine ⟨isOrd many.toNat d, isOrd many.toNat d, rfl, ?_⟩
  simp
  exact yes
theorem vn_ok {x11 : DL.Slot} (hq : Qok many os) (hs : StOk os tbs) (hg : good w n d)
    (hk : ∀ x11, B.nx m [.val sc, .val .rng, x2, .val (.int many), x4, x5, x6, x7, x8, x9, x10, x11, .val (qD many os), .val (stD tbs), .val d, .no, .no, .no]) :
    vnT B m [.val sc, .val .rng, x2, .val (.int many), x4, x5, x6, x7, x8, x9, x10, x11, .val (qD many os), .val (stD tbs), .val d, .no, .no, .no] := by
  have hm1 := hq.m1
  have hm8 := hq.m8
  have ht := good_typed hg
  unfold vnT
  refine x_seq fun B1 n1 r1 _ _ => ?_
  by_cases htup : ∃ ds, d = .tup ds
  · obtain ⟨ds, rfl⟩ := htup
    unfold vnA
    refine x_set fun K hK => ?_
    simp
    refine lc_map fW _ _ (fun d hd K hk => ?_) ?_
    · have htd : d.typed = true := by
        cases n with
        | zero => exact hg.elim
        | succ n => exact good_typed (hg.2 d hd)
      simp
      refine ⟨d, rfl, htd, ?_⟩
      unfold fW at hk
      cases e : isWhole d with
      | true => rw [e] at hk; simpa using hk
      | false => rw [e] at hk; simpa using hk
    · rw [List.nil_append, fW_all]
      have e0 : (D.lst []) = D.lst (([] : List Int).map D.int) := rfl
      simp only [shp_lsti, true_and]
      rw [e0]
      simp only [shp_lsti, true_and, eqv_lsti]
      rw [hK, n1]; clear hK n1 r1
      simp only [List.set_cons_succ, List.set_cons_zero]
      refine x_seq fun B2 n2 r2 _ _ => ?_
      unfold vnB
      refine x_set fun K hK => ?_
      by_cases hwh : (ds.filter fun d => !isWhole d) = []
      · obtain ⟨t, rfl⟩ := whole_ints hwh
        rw [hwh]
        simp
        refine ⟨RgOk.of_le (by omega) (by omega) (by omega) (by omega), ?_⟩
        rw [ups_rangeI]
        rw [eqv_lsti, hK, n2, ← isOrd_ints]
        exact ⟨shp_lsti _, vn_CD hq hs hg hk⟩
      · have : ¬ ((ds.filter fun d => !isWhole d).map fun _ => (1 : Int)) = [] := fun e => hwh (List.map_eq_nil_iff.mp e)
        rw [decide_eq_false this]
        simp
        have e2 : isOrd many.toNat (.tup ds) = false := by
          cases e : isOrd many.toNat (.tup ds) with
          | false => rfl
          | true =>
            obtain ⟨p, ep, _⟩ := isP_of e
            have ep : ds = p.map .int := by injection ep
            rw [ep] at hwh
            exact absurd (ints_whole p) hwh
        rw [hK, n2, ← e2]
        exact vn_CD hq hs hg hk
  · unfold vnA
    refine x_set fun K hK => ?_
    have e2 : isOrd many.toNat d = false := by
      cases d <;> first | rfl | exact absurd ⟨_, rfl⟩ htup
    have h1 : K m (.bl false) := by
      rw [hK, n1]
      simp only [List.set_cons_succ, List.set_cons_zero]
      refine x_seq fun B2 n2 r2 _ _ => ?_
      unfold vnB
      refine x_set fun K hK => ?_
      simp
      rw [hK, n2, ← e2]
      exact vn_CD hq hs hg hk
    cases d <;> simp [D.typed] at ht <;> first | exact absurd ⟨_, rfl⟩ htup | (simp; exact h1)
theorem vn_loop (hq : Qok many os) (hs : StOk os tbs) : ∀ (vs : List D) (x11 x14 : DL.Slot), (∀ d ∈ vs, good 60 9 d) →
    (∀ x11 x14, B.nx m [.val sc, .val .rng, x2, .val (.int many), x4, x5, x6, x7, x8, x9, x10, x11, .val (qD many os), .val (stD tbs), x14, .no, .no, .no]) →
    rLoop (.one 14) vnT B vs m [.val sc, .val .rng, x2, .val (.int many), x4, x5, x6, x7, x8, x9, x10, x11, .val (qD many os), .val (stD tbs), x14, .no, .no, .no]
  | [], x11, x14, _, hk => hk x11 x14
  | d :: vs, x11, x14, h, hk => by
    show vnT _ m [.val sc, .val .rng, x2, .val (.int many), x4, x5, x6, x7, x8, x9, x10, x11, .val (qD many os), .val (stD tbs), .val d, .no, .no, .no]
    refine vn_ok hq hs (h d List.mem_cons_self) fun x11 => ?_
    exact vn_loop hq hs vs _ _ (fun e he => h e (List.mem_cons_of_mem _ he)) hk
theorem l15_ok {p : List Int} {vs : List D} (hm : m + 100 < CAP) (hq : Qok many os) (hs : StOk os tbs) (hp : p.length ≤ 8) (hv : vs.length ≤ 5) (hg : ∀ d ∈ vs, good 60 5 d)
    (hk : ∀ m' x11 x14, m' ≤ m + 1 → B.nx m' [.val sc, .val .rng, x2, .val (.int many), .val (rowD p), x5, x6, x7, x8, x9, .val (.lst vs), x11, .val (qD many os), .val (stD tbs), x14, .no, .no, .no]) :
    L15 B m [.val sc, .val .rng, x2, .val (.int many), .val (rowD p), x5, x6, x7, x8, x9, .val (.lst vs), x11, .val (qD many os), .val (stD tbs), x14, .no, .no, .no] := by
  have hL : 10000 ≤ sizeLine := by rw [sizeLine_eq]; omega
  have e : L15 = rFor (.one 14) (rIt (rOp dAdd (rVar 10) (rLst (rCons (rOp dAdd (rSl (rVar 4) rNoPart (rPart (rNeg (rC (.int 1))))) (rC (.tup [(.int 0)]))) (rCons (rFn 1 S_odd (fun _ _ => False) (rCons (rVar 1) rNil)) rNil))))) vnT := rfl
  rw [e]; clear e
  refine x_for fun K hK => ?_
  have key : ∀ m' o, m' ≤ m + 1 → good 60 3 o → K m' (vs ++ [D.tup (cutD (p.map D.int) none (some (-1)) ++ [D.int 0]), o]) := fun m' o hm' ho => by
    rw [hK]
    refine vn_loop hq hs _ _ _ (fun d hd => ?_) fun x11 x14 => hk m' x11 x14 hm'
    rcases List.mem_append.mp hd with h | h
    · exact good_up (Nat.le_refl _) (by omega) (hg d h)
    · simp only [List.mem_cons, List.not_mem_nil, or_false] at h
      rcases h with rfl | rfl
      · refine ⟨by rw [List.length_append]; have := cutD_length (p.map D.int) none (some (-1)); rw [List.length_map] at this; simp; omega, fun d hd => ?_⟩
        rcases List.mem_append.mp hd with h | h
        · obtain ⟨a, _, rfl⟩ := List.mem_map.mp (cut_mem h)
          trivial
        · rw [List.mem_singleton.mp h]; trivial
      · exact good_up (Nat.le_refl _) (by omega) ho
  clear hK hk
  have hc := cutD_length (p.map D.int) none (some (-1))
  rw [List.length_map] at hc
  simp
  refine ⟨by omega, rfl, by omega, fun m4 o hm4 ho => ?_⟩
  simp
  refine ⟨by omega, by omega, key m4 o hm4 (good_up (by omega) (by omega) ho)⟩
theorem l16_ok (hq : Qok many os)
    (hk : B.nx m [.val sc, .val .rng, x2, x3, x4, x5, x6, x7, x8, x9, x10, x11, .val (qD many os), x13, x14, .no, .no, .no]) :
    L16 B m [.val sc, .val .rng, x2, x3, x4, x5, x6, x7, x8, x9, x10, x11, .val (qD many os), x13, x14, .no, .no, .no] := by
  unfold L16
  refine x_if fun K hK1 hK2 => ?_
  have yes : K m false := by rw [hK2]; exact hk
  clear hK1 hK2 hk
  simp
  exact ⟨1, 1, 1, 1, many, os, .non, .non, rfl, hq, by omega, trivial, trivial, fun _ => ⟨isJ_store, .inr ⟨isI_store, yes⟩⟩, (fun e => by cases e), (fun tbs p e => by cases e)⟩
end
end WK03

namespace WK03
open PySem L2 DL
theorem lap_ok {B : EndsD} {m : Nat} {sc : D} {x2 x3 x4 x5 x6 x7 x8 x9 x10 x11 x12 x13 x14 : DL.Slot} (hm : m + 4000 < CAP)
    (hk : ∀ m' x3 x4 x5 x6 x7 x8 x9 x10 x11 x12 x13 x14, m' ≤ m + 3000 → B.nx m' [.val sc, .val .rng, x2, x3, x4, x5, x6, x7, x8, x9, x10, x11, x12, x13, x14, .no, .no, .no]) :
    lapB B m [.val sc, .val .rng, x2, x3, x4, x5, x6, x7, x8, x9, x10, x11, x12, x13, x14, .no, .no, .no] := by
  unfold lapB
  refine x_seq fun B0 n0 _ _ _ => l0_ok (by omega) fun m0 many os h0 h4 hq => ?_
  rw [n0]; clear n0
  have m1 := hq.m1
  have m8 := hq.m8
  refine x_seq fun B1 n1 _ _ _ => l1_ok (by omega) hq fun m1' tbs h1 hs few => ?_
  rw [n1]; clear n1
  refine x_seq fun B2 n2 _ _ _ => l2_ok ?_
  rw [n2]; clear n2
  refine x_seq fun B3 n3 _ _ _ => l3_ok (by omega) m1 m8 fun m3 p h3 hp => ?_
  rw [n3]; clear n3
  have pl := hp.len
  refine x_seq fun B4 n4 _ _ _ => l4_ok hq hs hp ?_
  rw [n4]; clear n4
  refine x_seq fun B5 n5 _ _ _ => l5_ok hq hs hp ?_
  rw [n5]; clear n5
  refine x_seq fun B6 n6 _ _ _ => l6_ok ?_
  rw [n6]; clear n6
  refine x_seq fun B7 n7 _ _ _ => l7_ok hq h4 hs few hp fun x7 x8 => ?_
  rw [n7]; clear n7
  refine x_frz rfl ?_
  refine x_seq fun B9 n9 _ _ _ => l9_ok hq h4 hs few hp ?_
  rw [n9]; clear n9
  refine x_seq fun B10 n10 _ _ _ => l10_ok m1 m8 hp ?_
  rw [n10]; clear n10
  refine x_seq fun B11 n11 _ _ _ => l11_ok hq hs hp ?_
  rw [n11]; clear n11
  refine x_seq fun B12 n12 _ _ _ => l12_ok m1 m8 hp fun vs hv hg => ?_
  rw [n12]; clear n12
  refine x_seq fun B13 n13 _ _ _ => l13_ok (by omega) (by omega) hv (fun d hd => good_up (Nat.le_refl _) (by omega) (hg d hd)) fun m13 vs h13 hv hg => ?_
  rw [n13]; clear n13
  refine x_frz rfl ?_
  refine x_seq fun B15 n15 _ _ _ => l15_ok (by omega) hq hs (by omega) hv hg fun m15 x11 x14 h15 => ?_
  rw [n15]; clear n15
  exact l16_ok hq (hk m15 _ _ _ _ _ _ _ _ _ _ _ _ (by omega))
theorem p_law (ns : List Int) (hn : ns.length ≤ 63) : r_law S_draw_q S_cjs S_mixed S_ren S_lren S_ans (S_bentU 16) S_odd S_whole S_truth S_ord (fun _ _ => False) { nx := fun _ _ => False, rt := fun _ d => d = .bl true } 0 ((params ["script", "state", "lap", "many", "places_here", "found", "due", "answer", "told_here", "back_here", "near", "is_due", "query_here", "store_here", "value", "at", "number", "one"] [.scr ns]).set 1 (.val .rng)) := by
  have hc : CAP = 1099511627776 := rfl
  have e : r_law S_draw_q S_cjs S_mixed S_ren S_lren S_ans (S_bentU 16) S_odd S_whole S_truth S_ord (fun _ _ => False) = rSeq (rFor (.one 2) (rRng1 (rCons (rOp dAdd (rC (.int 2)) (rCall dMin2 (rCons (rCall dLenA (rCons (rVar 0) rNil)) (rCons (rC (.int 4)) rNil)))) rNil)) lapB) (rRet (rC (.bl true))) := rfl
  rw [e]
  refine x_seq fun B1 n1 r1 _ _ => ?_
  refine x_for fun K hK => ?_
  simp
  refine ⟨by split <;> omega, by split <;> omega, ?_⟩
  rw [hK]; clear hK
  refine x_loop (fun ds m δ => m + 3000 * ds.length ≤ 18000 ∧ ∃ (x2 x3 x4 x5 x6 x7 x8 x9 x10 x11 x12 x13 x14 : DL.Slot), δ = [.val (.scr ns), .val .rng, x2, x3, x4, x5, x6, x7, x8, x9, x10, x11, x12, x13, x14, .no, .no, .no]) ⟨by rw [ups_length]; split <;> omega, _, _, _, _, _, _, _, _, _, _, _, _, _, rfl⟩ ?_ ?_
  · rintro d ds m δ B ⟨hm, x2, x3, x4, x5, x6, x7, x8, x9, x10, x11, x12, x13, x14, rfl⟩ hk _ _ _
    simp only [List.length_cons] at hm
    simp only [gD, List.set_cons_succ, List.set_cons_zero]
    exact lap_ok (by omega) fun m' x3 x4 x5 x6 x7 x8 x9 x10 x11 x12 x13 x14 hm' => hk _ _ ⟨by omega, _, _, _, _, _, _, _, _, _, _, _, _, _, rfl⟩
  · rintro m δ ⟨hm, x2, x3, x4, x5, x6, x7, x8, x9, x10, x11, x12, x13, x14, rfl⟩
    rw [n1]
    simp
end WK03

namespace WK03
open PySem PySem.Spec PyProof.Rows L2 DL
/-! ### the head -/
def dd__law_blended : He.DefD := ⟨("_law_blended", none), "_law_blended", "_law_blended", defArgs s__law_blended, defBody s__law_blended, defScope s__law_blended, [], []⟩
def dd__law_draw : He.DefD := ⟨("_law_draw", none), "_law_draw", "_law_draw", defArgs s__law_draw, defBody s__law_draw, defScope s__law_draw, [], []⟩
def dd__law_pick : He.DefD := ⟨("_law_pick", none), "_law_pick", "_law_pick", defArgs s__law_pick, defBody s__law_pick, defScope s__law_pick, [], []⟩
def dd__law_mixed : He.DefD := ⟨("_law_mixed", none), "_law_mixed", "_law_mixed", defArgs s__law_mixed, defBody s__law_mixed, defScope s__law_mixed, [], []⟩
def dd__law_cj_some : He.DefD := ⟨("_law_cj_some", none), "_law_cj_some", "_law_cj_some", defArgs s__law_cj_some, defBody s__law_cj_some, defScope s__law_cj_some, [], []⟩
def dd__law_cj_query : He.DefD := ⟨("_law_cj_query", none), "_law_cj_query", "_law_cj_query", defArgs s__law_cj_query, defBody s__law_cj_query, defScope s__law_cj_query, [], []⟩
def dd__law_cj_store : He.DefD := ⟨("_law_cj_store", none), "_law_cj_store", "_law_cj_store", defArgs s__law_cj_store, defBody s__law_cj_store, defScope s__law_cj_store, [], []⟩
def dd_is_number : He.DefD := ⟨("is_number", none), "is_number", "is_number", defArgs s_is_number, defBody s_is_number, defScope s_is_number, [], []⟩
def dd_is_rising : He.DefD := ⟨("is_rising", none), "is_rising", "is_rising", defArgs s_is_rising, defBody s_is_rising, defScope s_is_rising, [], []⟩
def dd_is_query : He.DefD := ⟨("is_query", none), "is_query", "is_query", defArgs s_is_query, defBody s_is_query, defScope s_is_query, [], []⟩
def dd_need_query : He.DefD := ⟨("need_query", none), "need_query", "need_query", defArgs s_need_query, defBody s_need_query, defScope s_need_query, [], []⟩
def dd_is_row : He.DefD := ⟨("is_row", none), "is_row", "is_row", defArgs s_is_row, defBody s_is_row, defScope s_is_row, [], []⟩
def dd_is_table : He.DefD := ⟨("is_table", none), "is_table", "is_table", defArgs s_is_table, defBody s_is_table, defScope s_is_table, [], []⟩
def dd_is_store : He.DefD := ⟨("is_store", none), "is_store", "is_store", defArgs s_is_store, defBody s_is_store, defScope s_is_store, [], []⟩
def dd_need_store : He.DefD := ⟨("need_store", none), "need_store", "need_store", defArgs s_need_store, defBody s_need_store, defScope s_need_store, [], []⟩
def dd_is_order : He.DefD := ⟨("is_order", none), "is_order", "is_order", defArgs s_is_order, defBody s_is_order, defScope s_is_order, [], []⟩
def dd_renamed : He.DefD := ⟨("renamed", none), "renamed", "renamed", defArgs s_renamed, defBody s_renamed, defScope s_renamed, [], []⟩
def dd__law_k03_renamed : He.DefD := ⟨("_law_k03_renamed", none), "_law_k03_renamed", "_law_k03_renamed", defArgs s__law_k03_renamed, defBody s__law_k03_renamed, defScope s__law_k03_renamed, [], []⟩
def dd_lot_of : He.DefD := ⟨("lot_of", none), "lot_of", "lot_of", defArgs s_lot_of, defBody s_lot_of, defScope s_lot_of, [], []⟩
def dd_candidates : He.DefD := ⟨("candidates", none), "candidates", "candidates", defArgs s_candidates, defBody s_candidates, defScope s_candidates, [], []⟩
def dd_part_of : He.DefD := ⟨("part_of", none), "part_of", "part_of", defArgs s_part_of, defBody s_part_of, defScope s_part_of, [], []⟩
def dd_fits : He.DefD := ⟨("fits", none), "fits", "fits", defArgs s_fits, defBody s_fits, defScope s_fits, [], []⟩
def dd_answers : He.DefD := ⟨("answers", none), "answers", "answers", defArgs s_answers, defBody s_answers, defScope s_answers, [], []⟩
def dd__law_cj_odd : He.DefD := ⟨("_law_cj_odd", none), "_law_cj_odd", "_law_cj_odd", defArgs s__law_cj_odd, defBody s__law_cj_odd, defScope s__law_cj_odd, [], []⟩
def dd__law_is_whole : He.DefD := ⟨("_law_is_whole", none), "_law_is_whole", "_law_is_whole", defArgs s__law_is_whole, defBody s__law_is_whole, defScope s__law_is_whole, [], []⟩
def dd__law_cj_bent : He.DefD := ⟨("_law_cj_bent", none), "_law_cj_bent", "_law_cj_bent", defArgs s__law_cj_bent, defBody s__law_cj_bent, defScope s__law_cj_bent, [], []⟩
def dd__law_is_truth : He.DefD := ⟨("_law_is_truth", none), "_law_is_truth", "_law_is_truth", defArgs s__law_is_truth, defBody s__law_is_truth, defScope s__law_is_truth, [], []⟩
def dd__law_begun : He.DefD := ⟨("_law_begun", none), "_law_begun", "_law_begun", defArgs s__law_begun, defBody s__law_begun, defScope s__law_begun, [], []⟩
def dd_law : He.DefD := ⟨("law", none), "law", "law", defArgs s_law, defBody s_law, defScope s_law, [], []⟩
def dd__law_caught : He.DefD := ⟨("_law_caught", none), "_law_caught", "_law_caught", defArgs s__law_caught, defBody s__law_caught, defScope s__law_caught, [], []⟩
def fnL : List He.DefD := [dd__law_blended, dd__law_draw, dd__law_pick, dd__law_mixed, dd__law_cj_some, dd__law_cj_query, dd__law_cj_store, dd_is_number, dd_is_rising, dd_is_query, dd_need_query, dd_is_row, dd_is_table, dd_is_store, dd_need_store, dd_is_order, dd_renamed, dd__law_k03_renamed, dd_lot_of, dd_candidates, dd_part_of, dd_fits, dd_answers, dd__law_cj_odd, dd__law_is_whole, dd__law_cj_bent, dd__law_is_truth, dd__law_begun, dd_law, dd__law_caught]
def faL : List He.Fa := [.glo "_law_blended", .glo "_law_draw", .glo "_law_pick", .glo "_law_mixed", .glo "_law_cj_some", .glo "_law_cj_query", .glo "_law_cj_store", .glo "is_number", .glo "is_rising", .glo "is_query", .glo "need_query", .glo "is_row", .glo "is_table", .glo "is_store", .glo "need_store", .glo "is_order", .glo "renamed", .glo "_law_k03_renamed", .glo "lot_of", .glo "candidates", .glo "part_of", .glo "fits", .glo "answers", .glo "_law_cj_odd", .glo "_law_is_whole", .glo "_law_cj_bent", .glo "_law_is_truth", .glo "_law_begun", .glo "law", .glo "_law_caught"] ++ [.free "abs", .free "all", .free "any", .free "bool", .free "dict", .free "enumerate", .free "int", .free "isinstance", .free "len", .free "list", .free "min", .free "range", .free "set", .free "sorted", .free "tuple", .free "zip", .int "MOST_ATOMS" 8, .int "MOST_MANY" 8, .int "MOST_NUMBER" 1000000000000000000, .glo "BadPlaces", .glo "BadQuery", .glo "BadStore", .glo "JoinError", .exc "BadPlaces", .exc "BadQuery", .exc "BadStore"]
def tfL : List Str := ["law", "renamed"]
def exB (K : PySem.W.Frag) : Bool := clsB K errs "JoinError" && ownB K isO && ndB (tfL.map (tbK K))
def tfD : List He.Defn := tfL.map fun x => (x, none)
abbrev RR : PySem.W.OpenRow := PySem.W.OpenLaw.row PySem.Challenge.rw_coverjoin_k03_whole_names_of_attributes
abbrev hkL : PySem.W.Hook := He.hookX 4 faL fnL [] tfD exB
def obL (s : PySem.W.SharedT) : He.AlX := He.obsX 4 faL fnL [] tfD exB (HandSHeadRun.getT s)
theorem obL_eq (s : PySem.W.SharedT) : obL s = hkL.obs s.abs := He.obsX_eq (HandSHeadRun.getT_eq s)
def loose : List Str := (["JoinError", "BadPlaces", "BadQuery", "BadStore", "MOST_NUMBER", "MOST_MANY", "MOST_ATOMS", "is_number", "is_rising", "is_query", "need_query", "is_row", "is_table", "is_store", "need_store", "part_of"] : List Str) ++ (["is_order", "renamed", "fits", "lot_of", "candidates", "answers", "_law_begun", "_law_blended", "_law_draw", "_law_pick", "_law_mixed", "_law_caught", "_law_is_truth", "_law_is_whole", "_law_cj_query", "_law_cj_some"] : List Str) ++ (["_law_cj_store", "_law_cj_odd", "_law_cj_bent", "_law_k03_renamed"] : List Str)
set_option maxRecDepth 1000000 in
theorem runL (w : World) : HandSHeadRun.RunEq RR (PySem.W.view RR.prog [41]) hkL obL 6000 loose w := by
  intro os
  kernel_rfl
/-! ### the facts -/
section
variable {P : Program} {w : World} {K : PySem.W.Frag} {mg : Str → Option Value} {h : Heap} {fa : Addr}
def LL (w : World) (K : PySem.W.Frag) : Ls := ⟨w, K, tabsK K tfL, He.ga K, fun f => if ([]).contains f then some (He.ga K f) else none⟩
theorem law_at (X : K.In h) (G : h.Ns mainGlobals mg) (hfa : mg ("law" : Str) = some (.ref fa)) (c : He.SaysX faL fnL [] tfD exB w h K) : LamX.LawAtS PySem.Challenge.rw_coverjoin_k03_whole_names_of_attributes w K (L2.CX PySem.Challenge.rw_coverjoin_k03_whole_names_of_attributes.prog w) 23 63 "script" mg fa h := by
  have cd := c.t.d
  have cx := c.more
  obtain ⟨cy2, cxn⟩ := He.ba (show ((clsB K errs "JoinError" && ownB K isO) && ndB (tfL.map (tbK K))) = true from cx)
  obtain ⟨cy1, cxo⟩ := He.ba (show (clsB K errs "JoinError" && ownB K isO) = true from cy2)
  have cxe : clsB K errs "JoinError" = true := cy1
  have ndT : (tfL.map (tbK K)).Nodup := of_decide_eq_true cxn
  obtain ⟨fd__law_blended, F__law_blended⟩ := cd.def_ 0 (d := dd__law_blended) rfl
  have m__law_blended : mg "_law_blended" = some (.ref (He.fAd K ("_law_blended", none))) := He.glo_ok X G (cd.fact 0 (f := .glo "_law_blended") rfl)
  have Fu__law_blended : Fun K "_law_blended" "_law_blended" s__law_blended (He.fAd K ("_law_blended", none)) fd__law_blended := fun_of F__law_blended
  have b__law_blended : Binds K fd__law_blended ["state"] [] := F__law_blended.bindsN fun _ _ _ _ _ _ us hl => match us, hl with | [_], _ => rfl
  obtain ⟨fd__law_draw, F__law_draw⟩ := cd.def_ 1 (d := dd__law_draw) rfl
  have m__law_draw : mg "_law_draw" = some (.ref (He.fAd K ("_law_draw", none))) := He.glo_ok X G (cd.fact 1 (f := .glo "_law_draw") rfl)
  have Fu__law_draw : Fun K "_law_draw" "_law_draw" s__law_draw (He.fAd K ("_law_draw", none)) fd__law_draw := fun_of F__law_draw
  have b__law_draw : Binds K fd__law_draw ["state", "size_here"] [] := F__law_draw.bindsN fun _ _ _ _ _ _ us hl => match us, hl with | [_, _], _ => rfl
  obtain ⟨fd__law_pick, F__law_pick⟩ := cd.def_ 2 (d := dd__law_pick) rfl
  have m__law_pick : mg "_law_pick" = some (.ref (He.fAd K ("_law_pick", none))) := He.glo_ok X G (cd.fact 2 (f := .glo "_law_pick") rfl)
  have Fu__law_pick : Fun K "_law_pick" "_law_pick" s__law_pick (He.fAd K ("_law_pick", none)) fd__law_pick := fun_of F__law_pick
  have b__law_pick : Binds K fd__law_pick ["state", "several"] [] := F__law_pick.bindsN fun _ _ _ _ _ _ us hl => match us, hl with | [_, _], _ => rfl
  obtain ⟨fd__law_mixed, F__law_mixed⟩ := cd.def_ 3 (d := dd__law_mixed) rfl
  have m__law_mixed : mg "_law_mixed" = some (.ref (He.fAd K ("_law_mixed", none))) := He.glo_ok X G (cd.fact 3 (f := .glo "_law_mixed") rfl)
  have Fu__law_mixed : Fun K "_law_mixed" "_law_mixed" s__law_mixed (He.fAd K ("_law_mixed", none)) fd__law_mixed := fun_of F__law_mixed
  have b__law_mixed : Binds K fd__law_mixed ["state", "several"] [] := F__law_mixed.bindsN fun _ _ _ _ _ _ us hl => match us, hl with | [_, _], _ => rfl
  obtain ⟨fd__law_cj_some, F__law_cj_some⟩ := cd.def_ 4 (d := dd__law_cj_some) rfl
  have m__law_cj_some : mg "_law_cj_some" = some (.ref (He.fAd K ("_law_cj_some", none))) := He.glo_ok X G (cd.fact 4 (f := .glo "_law_cj_some") rfl)
  have Fu__law_cj_some : Fun K "_law_cj_some" "_law_cj_some" s__law_cj_some (He.fAd K ("_law_cj_some", none)) fd__law_cj_some := fun_of F__law_cj_some
  have b__law_cj_some : Binds K fd__law_cj_some ["state", "many"] [] := F__law_cj_some.bindsN fun _ _ _ _ _ _ us hl => match us, hl with | [_, _], _ => rfl
  obtain ⟨fd__law_cj_query, F__law_cj_query⟩ := cd.def_ 5 (d := dd__law_cj_query) rfl
  have m__law_cj_query : mg "_law_cj_query" = some (.ref (He.fAd K ("_law_cj_query", none))) := He.glo_ok X G (cd.fact 5 (f := .glo "_law_cj_query") rfl)
  have Fu__law_cj_query : Fun K "_law_cj_query" "_law_cj_query" s__law_cj_query (He.fAd K ("_law_cj_query", none)) fd__law_cj_query := fun_of F__law_cj_query
  have b__law_cj_query : Binds K fd__law_cj_query ["state"] [] := F__law_cj_query.bindsN fun _ _ _ _ _ _ us hl => match us, hl with | [_], _ => rfl
  obtain ⟨fd__law_cj_store, F__law_cj_store⟩ := cd.def_ 6 (d := dd__law_cj_store) rfl
  have m__law_cj_store : mg "_law_cj_store" = some (.ref (He.fAd K ("_law_cj_store", none))) := He.glo_ok X G (cd.fact 6 (f := .glo "_law_cj_store") rfl)
  have Fu__law_cj_store : Fun K "_law_cj_store" "_law_cj_store" s__law_cj_store (He.fAd K ("_law_cj_store", none)) fd__law_cj_store := fun_of F__law_cj_store
  have b__law_cj_store : Binds K fd__law_cj_store ["state", "query_here", "most", "top"] [] := F__law_cj_store.bindsN fun _ _ _ _ _ _ us hl => match us, hl with | [_, _, _, _], _ => rfl
  obtain ⟨fd_is_number, F_is_number⟩ := cd.def_ 7 (d := dd_is_number) rfl
  have m_is_number : mg "is_number" = some (.ref (He.fAd K ("is_number", none))) := He.glo_ok X G (cd.fact 7 (f := .glo "is_number") rfl)
  have Fu_is_number : Fun K "is_number" "is_number" s_is_number (He.fAd K ("is_number", none)) fd_is_number := fun_of F_is_number
  have b_is_number : Binds K fd_is_number ["value", "low"] [] := F_is_number.bindsN fun _ _ _ _ _ _ us hl => match us, hl with | [_, _], _ => rfl
  obtain ⟨fd_is_rising, F_is_rising⟩ := cd.def_ 8 (d := dd_is_rising) rfl
  have m_is_rising : mg "is_rising" = some (.ref (He.fAd K ("is_rising", none))) := He.glo_ok X G (cd.fact 8 (f := .glo "is_rising") rfl)
  have Fu_is_rising : Fun K "is_rising" "is_rising" s_is_rising (He.fAd K ("is_rising", none)) fd_is_rising := fun_of F_is_rising
  have b_is_rising : Binds K fd_is_rising ["value"] [] := F_is_rising.bindsN fun _ _ _ _ _ _ us hl => match us, hl with | [_], _ => rfl
  obtain ⟨fd_is_query, F_is_query⟩ := cd.def_ 9 (d := dd_is_query) rfl
  have m_is_query : mg "is_query" = some (.ref (He.fAd K ("is_query", none))) := He.glo_ok X G (cd.fact 9 (f := .glo "is_query") rfl)
  have Fu_is_query : Fun K "is_query" "is_query" s_is_query (He.fAd K ("is_query", none)) fd_is_query := fun_of F_is_query
  have b_is_query : Binds K fd_is_query ["value"] [] := F_is_query.bindsN fun _ _ _ _ _ _ us hl => match us, hl with | [_], _ => rfl
  obtain ⟨fd_need_query, F_need_query⟩ := cd.def_ 10 (d := dd_need_query) rfl
  have m_need_query : mg "need_query" = some (.ref (He.fAd K ("need_query", none))) := He.glo_ok X G (cd.fact 10 (f := .glo "need_query") rfl)
  have Fu_need_query : Fun K "need_query" "need_query" s_need_query (He.fAd K ("need_query", none)) fd_need_query := fun_of F_need_query
  have b_need_query : Binds K fd_need_query ["query"] [] := F_need_query.bindsN fun _ _ _ _ _ _ us hl => match us, hl with | [_], _ => rfl
  obtain ⟨fd_is_row, F_is_row⟩ := cd.def_ 11 (d := dd_is_row) rfl
  have m_is_row : mg "is_row" = some (.ref (He.fAd K ("is_row", none))) := He.glo_ok X G (cd.fact 11 (f := .glo "is_row") rfl)
  have Fu_is_row : Fun K "is_row" "is_row" s_is_row (He.fAd K ("is_row", none)) fd_is_row := fun_of F_is_row
  have b_is_row : Binds K fd_is_row ["value", "wide"] [] := F_is_row.bindsN fun _ _ _ _ _ _ us hl => match us, hl with | [_, _], _ => rfl
  obtain ⟨fd_is_table, F_is_table⟩ := cd.def_ 12 (d := dd_is_table) rfl
  have m_is_table : mg "is_table" = some (.ref (He.fAd K ("is_table", none))) := He.glo_ok X G (cd.fact 12 (f := .glo "is_table") rfl)
  have Fu_is_table : Fun K "is_table" "is_table" s_is_table (He.fAd K ("is_table", none)) fd_is_table := fun_of F_is_table
  have b_is_table : Binds K fd_is_table ["value", "wide"] [] := F_is_table.bindsN fun _ _ _ _ _ _ us hl => match us, hl with | [_, _], _ => rfl
  obtain ⟨fd_is_store, F_is_store⟩ := cd.def_ 13 (d := dd_is_store) rfl
  have m_is_store : mg "is_store" = some (.ref (He.fAd K ("is_store", none))) := He.glo_ok X G (cd.fact 13 (f := .glo "is_store") rfl)
  have Fu_is_store : Fun K "is_store" "is_store" s_is_store (He.fAd K ("is_store", none)) fd_is_store := fun_of F_is_store
  have b_is_store : Binds K fd_is_store ["query", "value"] [] := F_is_store.bindsN fun _ _ _ _ _ _ us hl => match us, hl with | [_, _], _ => rfl
  obtain ⟨fd_need_store, F_need_store⟩ := cd.def_ 14 (d := dd_need_store) rfl
  have m_need_store : mg "need_store" = some (.ref (He.fAd K ("need_store", none))) := He.glo_ok X G (cd.fact 14 (f := .glo "need_store") rfl)
  have Fu_need_store : Fun K "need_store" "need_store" s_need_store (He.fAd K ("need_store", none)) fd_need_store := fun_of F_need_store
  have b_need_store : Binds K fd_need_store ["query", "store"] [] := F_need_store.bindsN fun _ _ _ _ _ _ us hl => match us, hl with | [_, _], _ => rfl
  obtain ⟨fd_is_order, F_is_order⟩ := cd.def_ 15 (d := dd_is_order) rfl
  have m_is_order : mg "is_order" = some (.ref (He.fAd K ("is_order", none))) := He.glo_ok X G (cd.fact 15 (f := .glo "is_order") rfl)
  have Fu_is_order : Fun K "is_order" "is_order" s_is_order (He.fAd K ("is_order", none)) fd_is_order := fun_of F_is_order
  have b_is_order : Binds K fd_is_order ["query", "value"] [] := F_is_order.bindsN fun _ _ _ _ _ _ us hl => match us, hl with | [_, _], _ => rfl
  obtain ⟨fd_renamed, F_renamed⟩ := cd.def_ 16 (d := dd_renamed) rfl
  have m_renamed : mg "renamed" = some (.ref (He.fAd K ("renamed", none))) := He.glo_ok X G (cd.fact 16 (f := .glo "renamed") rfl)
  have Fu_renamed : FunC K "renamed" "renamed" s_renamed (He.fAd K ("renamed", none)) fd_renamed (codK K "renamed") := funC_of F_renamed
  have b_renamed : Binds K fd_renamed ["query", "store", "places"] [] := F_renamed.bindsN fun _ _ _ _ _ _ us hl => match us, hl with | [_, _, _], _ => rfl
  obtain ⟨fd__law_k03_renamed, F__law_k03_renamed⟩ := cd.def_ 17 (d := dd__law_k03_renamed) rfl
  have m__law_k03_renamed : mg "_law_k03_renamed" = some (.ref (He.fAd K ("_law_k03_renamed", none))) := He.glo_ok X G (cd.fact 17 (f := .glo "_law_k03_renamed") rfl)
  have Fu__law_k03_renamed : Fun K "_law_k03_renamed" "_law_k03_renamed" s__law_k03_renamed (He.fAd K ("_law_k03_renamed", none)) fd__law_k03_renamed := fun_of F__law_k03_renamed
  have b__law_k03_renamed : Binds K fd__law_k03_renamed ["query_here", "store_here", "places_here"] [] := F__law_k03_renamed.bindsN fun _ _ _ _ _ _ us hl => match us, hl with | [_, _, _], _ => rfl
  obtain ⟨fd_lot_of, F_lot_of⟩ := cd.def_ 18 (d := dd_lot_of) rfl
  have m_lot_of : mg "lot_of" = some (.ref (He.fAd K ("lot_of", none))) := He.glo_ok X G (cd.fact 18 (f := .glo "lot_of") rfl)
  have Fu_lot_of : Fun K "lot_of" "lot_of" s_lot_of (He.fAd K ("lot_of", none)) fd_lot_of := fun_of F_lot_of
  have b_lot_of : Binds K fd_lot_of ["query", "store"] [] := F_lot_of.bindsN fun _ _ _ _ _ _ us hl => match us, hl with | [_, _], _ => rfl
  obtain ⟨fd_candidates, F_candidates⟩ := cd.def_ 19 (d := dd_candidates) rfl
  have m_candidates : mg "candidates" = some (.ref (He.fAd K ("candidates", none))) := He.glo_ok X G (cd.fact 19 (f := .glo "candidates") rfl)
  have Fu_candidates : Fun K "candidates" "candidates" s_candidates (He.fAd K ("candidates", none)) fd_candidates := fun_of F_candidates
  have b_candidates : Binds K fd_candidates ["query", "store"] [] := F_candidates.bindsN fun _ _ _ _ _ _ us hl => match us, hl with | [_, _], _ => rfl
  obtain ⟨fd_part_of, F_part_of⟩ := cd.def_ 20 (d := dd_part_of) rfl
  have m_part_of : mg "part_of" = some (.ref (He.fAd K ("part_of", none))) := He.glo_ok X G (cd.fact 20 (f := .glo "part_of") rfl)
  have Fu_part_of : Fun K "part_of" "part_of" s_part_of (He.fAd K ("part_of", none)) fd_part_of := fun_of F_part_of
  have b_part_of : Binds K fd_part_of ["answer", "atom"] [] := F_part_of.bindsN fun _ _ _ _ _ _ us hl => match us, hl with | [_, _], _ => rfl
  obtain ⟨fd_fits, F_fits⟩ := cd.def_ 21 (d := dd_fits) rfl
  have m_fits : mg "fits" = some (.ref (He.fAd K ("fits", none))) := He.glo_ok X G (cd.fact 21 (f := .glo "fits") rfl)
  have Fu_fits : Fun K "fits" "fits" s_fits (He.fAd K ("fits", none)) fd_fits := fun_of F_fits
  have b_fits : Binds K fd_fits ["query", "lots", "known"] [] := F_fits.bindsN fun _ _ _ _ _ _ us hl => match us, hl with | [_, _, _], _ => rfl
  obtain ⟨fd_answers, F_answers⟩ := cd.def_ 22 (d := dd_answers) rfl
  have m_answers : mg "answers" = some (.ref (He.fAd K ("answers", none))) := He.glo_ok X G (cd.fact 22 (f := .glo "answers") rfl)
  have Fu_answers : Fun K "answers" "answers" s_answers (He.fAd K ("answers", none)) fd_answers := fun_of F_answers
  have b_answers : Binds K fd_answers ["query", "store"] [] := F_answers.bindsN fun _ _ _ _ _ _ us hl => match us, hl with | [_, _], _ => rfl
  obtain ⟨fd__law_cj_odd, F__law_cj_odd⟩ := cd.def_ 23 (d := dd__law_cj_odd) rfl
  have m__law_cj_odd : mg "_law_cj_odd" = some (.ref (He.fAd K ("_law_cj_odd", none))) := He.glo_ok X G (cd.fact 23 (f := .glo "_law_cj_odd") rfl)
  have Fu__law_cj_odd : Fun K "_law_cj_odd" "_law_cj_odd" s__law_cj_odd (He.fAd K ("_law_cj_odd", none)) fd__law_cj_odd := fun_of F__law_cj_odd
  have b__law_cj_odd : Binds K fd__law_cj_odd ["state"] [] := F__law_cj_odd.bindsN fun _ _ _ _ _ _ us hl => match us, hl with | [_], _ => rfl
  obtain ⟨fd__law_is_whole, F__law_is_whole⟩ := cd.def_ 24 (d := dd__law_is_whole) rfl
  have m__law_is_whole : mg "_law_is_whole" = some (.ref (He.fAd K ("_law_is_whole", none))) := He.glo_ok X G (cd.fact 24 (f := .glo "_law_is_whole") rfl)
  have Fu__law_is_whole : Fun K "_law_is_whole" "_law_is_whole" s__law_is_whole (He.fAd K ("_law_is_whole", none)) fd__law_is_whole := fun_of F__law_is_whole
  have b__law_is_whole : Binds K fd__law_is_whole ["item"] [] := F__law_is_whole.bindsN fun _ _ _ _ _ _ us hl => match us, hl with | [_], _ => rfl
  obtain ⟨fd__law_cj_bent, F__law_cj_bent⟩ := cd.def_ 25 (d := dd__law_cj_bent) rfl
  have m__law_cj_bent : mg "_law_cj_bent" = some (.ref (He.fAd K ("_law_cj_bent", none))) := He.glo_ok X G (cd.fact 25 (f := .glo "_law_cj_bent") rfl)
  have Fu__law_cj_bent : Fun K "_law_cj_bent" "_law_cj_bent" s__law_cj_bent (He.fAd K ("_law_cj_bent", none)) fd__law_cj_bent := fun_of F__law_cj_bent
  have b__law_cj_bent : Binds K fd__law_cj_bent ["state", "item"] [] := F__law_cj_bent.bindsN fun _ _ _ _ _ _ us hl => match us, hl with | [_, _], _ => rfl
  obtain ⟨fd__law_is_truth, F__law_is_truth⟩ := cd.def_ 26 (d := dd__law_is_truth) rfl
  have m__law_is_truth : mg "_law_is_truth" = some (.ref (He.fAd K ("_law_is_truth", none))) := He.glo_ok X G (cd.fact 26 (f := .glo "_law_is_truth") rfl)
  have Fu__law_is_truth : Fun K "_law_is_truth" "_law_is_truth" s__law_is_truth (He.fAd K ("_law_is_truth", none)) fd__law_is_truth := fun_of F__law_is_truth
  have b__law_is_truth : Binds K fd__law_is_truth ["found", "due"] [] := F__law_is_truth.bindsN fun _ _ _ _ _ _ us hl => match us, hl with | [_, _], _ => rfl
  obtain ⟨fd__law_begun, F__law_begun⟩ := cd.def_ 27 (d := dd__law_begun) rfl
  have m__law_begun : mg "_law_begun" = some (.ref (He.fAd K ("_law_begun", none))) := He.glo_ok X G (cd.fact 27 (f := .glo "_law_begun") rfl)
  have Fu__law_begun : Fun K "_law_begun" "_law_begun" s__law_begun (He.fAd K ("_law_begun", none)) fd__law_begun := fun_of F__law_begun
  have b__law_begun : Binds K fd__law_begun ["script"] [] := F__law_begun.bindsN fun _ _ _ _ _ _ us hl => match us, hl with | [_], _ => rfl
  obtain ⟨fd_law, F_law⟩ := cd.def_ 28 (d := dd_law) rfl
  have m_law : mg "law" = some (.ref (He.fAd K ("law", none))) := He.glo_ok X G (cd.fact 28 (f := .glo "law") rfl)
  have Fu_law : FunC K "law" "law" s_law (He.fAd K ("law", none)) fd_law (codK K "law") := funC_of F_law
  have b_law : Binds K fd_law ["script"] [] := F_law.bindsN fun _ _ _ _ _ _ us hl => match us, hl with | [_], _ => rfl
  obtain ⟨fd__law_caught, F__law_caught⟩ := cd.def_ 29 (d := dd__law_caught) rfl
  have m__law_caught : mg "_law_caught" = some (.ref (He.fAd K ("_law_caught", none))) := He.glo_ok X G (cd.fact 29 (f := .glo "_law_caught") rfl)
  have Fu__law_caught : Fun K "_law_caught" "_law_caught" s__law_caught (He.fAd K ("_law_caught", none)) fd__law_caught := fun_of F__law_caught
  have b__law_caught : Binds K fd__law_caught ["work"] [] := F__law_caught.bindsN fun _ _ _ _ _ _ us hl => match us, hl with | [_], _ => rfl
  have e := hfa.symm.trans m_law
  cases e
  have bs := FunD.bindsA (ps := ["script"]) F_law fun _ _ _ _ _ _ us hl => match us, hl with | [_], _ => rfl
  refine ⟨fd_law, tfD.map (He.cT K), spLaw (LL w K) K, ?_, ?_, ?_, fun s u => bs s [u] rfl, ?_, fun base KB GB TB => ?_⟩
  · intro p hp
    obtain ⟨q, hq, rfl⟩ := List.mem_map.mp hp
    exact c.empty q hq
  · intro p hp
    obtain ⟨q, hq, rfl⟩ := List.mem_map.mp hp
    exact c.out q hq
  · intro p hp
    obtain ⟨q, hq, rfl⟩ := List.mem_map.mp hp
    exact PySem.W.codeHd_of_K X (c.hd q hq)
  · intro H a ns hl _ hT hS
    refine ⟨a, ns, rfl, tabs_of fun x hx => ?_, hS, hl, fun _ => rfl⟩
    exact hT (He.cT K (x, none)) (List.mem_map.mpr ⟨(x, none), List.mem_map.mpr ⟨x, hx, rfl⟩, rfl⟩)
  · have hL : (LL w K).cls = He.ga K := rfl
    have T : Txt w K mg base (LL w K) (He.fAd K ("_law_caught", none)) (He.ga K "JoinError") fd__law_caught (codK K) (tbK K) :=
    { hK := ⟨rfl, rfl⟩
      x_BadPlaces := exD_of hL X G (cd.fact 53 (f := .exc "BadPlaces") rfl) (cd.fact 49 (f := .glo "BadPlaces") rfl)
      x_BadQuery := exD_of hL X G (cd.fact 54 (f := .exc "BadQuery") rfl) (cd.fact 50 (f := .glo "BadQuery") rfl)
      x_BadStore := exD_of hL X G (cd.fact 55 (f := .exc "BadStore") rfl) (cd.fact 51 (f := .glo "BadStore") rfl)
      c_MOST_ATOMS := He.int_ok X G (cd.fact 46 (f := .int "MOST_ATOMS" 8) rfl)
      c_MOST_MANY := He.int_ok X G (cd.fact 47 (f := .int "MOST_MANY" 8) rfl)
      c_MOST_NUMBER := He.int_ok X G (cd.fact 48 (f := .int "MOST_NUMBER" 1000000000000000000) rfl)
      b_abs := He.free_ok X G (cd.fact 30 (f := .free "abs") rfl)
      b_all := He.free_ok X G (cd.fact 31 (f := .free "all") rfl)
      b_any := He.free_ok X G (cd.fact 32 (f := .free "any") rfl)
      b_bool := He.free_ok X G (cd.fact 33 (f := .free "bool") rfl)
      b_dict := He.free_ok X G (cd.fact 34 (f := .free "dict") rfl)
      b_enumerate := He.free_ok X G (cd.fact 35 (f := .free "enumerate") rfl)
      b_int := He.free_ok X G (cd.fact 36 (f := .free "int") rfl)
      b_isinstance := He.free_ok X G (cd.fact 37 (f := .free "isinstance") rfl)
      b_len := He.free_ok X G (cd.fact 38 (f := .free "len") rfl)
      b_list := He.free_ok X G (cd.fact 39 (f := .free "list") rfl)
      b_min := He.free_ok X G (cd.fact 40 (f := .free "min") rfl)
      b_range := He.free_ok X G (cd.fact 41 (f := .free "range") rfl)
      b_set := He.free_ok X G (cd.fact 42 (f := .free "set") rfl)
      b_sorted := He.free_ok X G (cd.fact 43 (f := .free "sorted") rfl)
      b_tuple := He.free_ok X G (cd.fact 44 (f := .free "tuple") rfl)
      b_zip := He.free_ok X G (cd.fact 45 (f := .free "zip") rfl)
      hI := clsT_of hL cxe
      hO := ownB_of hL cxo
      fuC := Fu__law_caught
      mC := m__law_caught
      bC := b__law_caught
      gJ := He.glo_ok X G (cd.fact 52 (f := .glo "JoinError") rfl)
      hJ := clsJ_of hL cxe
      tab_law := ⟨TB (He.cT K ("law", none)) (List.mem_map.mpr ⟨("law", none), List.mem_map.mpr ⟨"law", by decide, rfl⟩, rfl⟩), tabsK_mem (tf := tfL) (by decide), tabsK_uniq ndT (by decide)⟩
      tab_renamed := ⟨TB (He.cT K ("renamed", none)) (List.mem_map.mpr ⟨("renamed", none), List.mem_map.mpr ⟨"renamed", by decide, rfl⟩, rfl⟩), tabsK_mem (tf := tfL) (by decide), tabsK_uniq ndT (by decide)⟩ }
    have ok__law_blended := k__law_blended (P := PySem.Challenge.rw_coverjoin_k03_whole_names_of_attributes.prog) (k := 0) T  (S := S_blended) Fu__law_blended p_blended
    have d__law_blended := fnD_of (P := PySem.Challenge.rw_coverjoin_k03_whole_names_of_attributes.prog) (S := S_blended) Fu__law_blended rfl ok__law_blended m__law_blended b__law_blended
    have ok__law_draw := k__law_draw (P := PySem.Challenge.rw_coverjoin_k03_whole_names_of_attributes.prog) (k := 1) T S_blended (d__law_blended.mono (by decide)) (S := S_draw) Fu__law_draw p_draw
    have d__law_draw := fnD_of (P := PySem.Challenge.rw_coverjoin_k03_whole_names_of_attributes.prog) (S := S_draw) Fu__law_draw rfl ok__law_draw m__law_draw b__law_draw
    have ok__law_pick := k__law_pick (P := PySem.Challenge.rw_coverjoin_k03_whole_names_of_attributes.prog) (k := 2) T S_draw (d__law_draw.mono (by decide)) (S := S_pick) Fu__law_pick p_pick
    have d__law_pick := fnD_of (P := PySem.Challenge.rw_coverjoin_k03_whole_names_of_attributes.prog) (S := S_pick) Fu__law_pick rfl ok__law_pick m__law_pick b__law_pick
    have ok__law_mixed := k__law_mixed (P := PySem.Challenge.rw_coverjoin_k03_whole_names_of_attributes.prog) (k := 2) T S_draw (d__law_draw.mono (by decide)) (S := S_mixed) Fu__law_mixed p_mixed
    have d__law_mixed := fnD_of (P := PySem.Challenge.rw_coverjoin_k03_whole_names_of_attributes.prog) (S := S_mixed) Fu__law_mixed rfl ok__law_mixed m__law_mixed b__law_mixed
    have ok__law_cj_some := k__law_cj_some (P := PySem.Challenge.rw_coverjoin_k03_whole_names_of_attributes.prog) (k := 3) T S_mixed S_draw (d__law_mixed.mono (by decide)) (d__law_draw.mono (by decide)) (S := S_some) Fu__law_cj_some p_some
    have d__law_cj_some := fnD_of (P := PySem.Challenge.rw_coverjoin_k03_whole_names_of_attributes.prog) (S := S_some) Fu__law_cj_some rfl ok__law_cj_some m__law_cj_some b__law_cj_some
    have ok__law_cj_query := k__law_cj_query (P := PySem.Challenge.rw_coverjoin_k03_whole_names_of_attributes.prog) (k := 4) T S_draw S_pick S_some (d__law_draw.mono (by decide)) (d__law_pick.mono (by decide)) (d__law_cj_some.mono (by decide)) (S := S_draw_q) Fu__law_cj_query p_cjq
    have d__law_cj_query := fnD_of (P := PySem.Challenge.rw_coverjoin_k03_whole_names_of_attributes.prog) (S := S_draw_q) Fu__law_cj_query rfl ok__law_cj_query m__law_cj_query b__law_cj_query
    have ok__law_cj_store := k__law_cj_store (P := PySem.Challenge.rw_coverjoin_k03_whole_names_of_attributes.prog) (k := 3) T S_pick S_draw (d__law_pick.mono (by decide)) (d__law_draw.mono (by decide)) (S := S_cjs) Fu__law_cj_store p_cjs
    have d__law_cj_store := fnD_of (P := PySem.Challenge.rw_coverjoin_k03_whole_names_of_attributes.prog) (S := S_cjs) Fu__law_cj_store rfl ok__law_cj_store m__law_cj_store b__law_cj_store
    have ok_is_number := k_is_number (P := PySem.Challenge.rw_coverjoin_k03_whole_names_of_attributes.prog) (k := 0) T  (S := S_num) Fu_is_number p_num
    have d_is_number := fnD_of (P := PySem.Challenge.rw_coverjoin_k03_whole_names_of_attributes.prog) (S := S_num) Fu_is_number rfl ok_is_number m_is_number b_is_number
    have ok_is_rising := k_is_rising (P := PySem.Challenge.rw_coverjoin_k03_whole_names_of_attributes.prog) (k := 1) T S_num (d_is_number.mono (by decide)) (S := S_rising) Fu_is_rising p_rising
    have d_is_rising := fnD_of (P := PySem.Challenge.rw_coverjoin_k03_whole_names_of_attributes.prog) (S := S_rising) Fu_is_rising rfl ok_is_rising m_is_rising b_is_rising
    have ok_is_query := k_is_query (P := PySem.Challenge.rw_coverjoin_k03_whole_names_of_attributes.prog) (k := 2) T S_num S_rising (d_is_number.mono (by decide)) (d_is_rising.mono (by decide)) (S := S_query) Fu_is_query p_query
    have d_is_query := fnD_of (P := PySem.Challenge.rw_coverjoin_k03_whole_names_of_attributes.prog) (S := S_query) Fu_is_query rfl ok_is_query m_is_query b_is_query
    have ok_need_query := k_need_query (P := PySem.Challenge.rw_coverjoin_k03_whole_names_of_attributes.prog) (k := 3) T S_query (d_is_query.mono (by decide)) (S := S_need) Fu_need_query p_need
    have d_need_query := fnD_of (P := PySem.Challenge.rw_coverjoin_k03_whole_names_of_attributes.prog) (S := S_need) Fu_need_query rfl ok_need_query m_need_query b_need_query
    have ok_is_row := k_is_row (P := PySem.Challenge.rw_coverjoin_k03_whole_names_of_attributes.prog) (k := 1) T S_num (d_is_number.mono (by decide)) (S := S_row) Fu_is_row p_row
    have d_is_row := fnD_of (P := PySem.Challenge.rw_coverjoin_k03_whole_names_of_attributes.prog) (S := S_row) Fu_is_row rfl ok_is_row m_is_row b_is_row
    have ok_is_table := k_is_table (P := PySem.Challenge.rw_coverjoin_k03_whole_names_of_attributes.prog) (k := 2) T S_row (d_is_row.mono (by decide)) (S := S_tab) Fu_is_table p_tab
    have d_is_table := fnD_of (P := PySem.Challenge.rw_coverjoin_k03_whole_names_of_attributes.prog) (S := S_tab) Fu_is_table rfl ok_is_table m_is_table b_is_table
    have ok_is_store := k_is_store (P := PySem.Challenge.rw_coverjoin_k03_whole_names_of_attributes.prog) (k := 4) T S_need S_tab (d_need_query.mono (by decide)) (d_is_table.mono (by decide)) (S := S_sto) Fu_is_store p_sto
    have d_is_store := fnD_of (P := PySem.Challenge.rw_coverjoin_k03_whole_names_of_attributes.prog) (S := S_sto) Fu_is_store rfl ok_is_store m_is_store b_is_store
    have ok_need_store := k_need_store (P := PySem.Challenge.rw_coverjoin_k03_whole_names_of_attributes.prog) (k := 5) T S_sto (d_is_store.mono (by decide)) (S := S_needS) Fu_need_store p_needS
    have d_need_store := fnD_of (P := PySem.Challenge.rw_coverjoin_k03_whole_names_of_attributes.prog) (S := S_needS) Fu_need_store rfl ok_need_store m_need_store b_need_store
    have ok_is_order := k_is_order (P := PySem.Challenge.rw_coverjoin_k03_whole_names_of_attributes.prog) (k := 4) T S_need S_num (d_need_query.mono (by decide)) (d_is_number.mono (by decide)) (S := S_ord) Fu_is_order p_ord
    have d_is_order := fnD_of (P := PySem.Challenge.rw_coverjoin_k03_whole_names_of_attributes.prog) (S := S_ord) Fu_is_order rfl ok_is_order m_is_order b_is_order
    have ok_renamed := k_renamed (P := PySem.Challenge.rw_coverjoin_k03_whole_names_of_attributes.prog) (k := 6) T S_need S_needS S_ord (d_need_query.mono (by decide)) (d_need_store.mono (by decide)) (d_is_order.mono (by decide)) (S := S_ren) Fu_renamed p_ren
    have d_renamed := fnD_of (P := PySem.Challenge.rw_coverjoin_k03_whole_names_of_attributes.prog) (S := S_ren) Fu_renamed.fu rfl ok_renamed m_renamed b_renamed
    have ok__law_k03_renamed := k__law_k03_renamed (P := PySem.Challenge.rw_coverjoin_k03_whole_names_of_attributes.prog) (k := 0) T  (S := S_lren) Fu__law_k03_renamed p_lren
    have d__law_k03_renamed := fnD_of (P := PySem.Challenge.rw_coverjoin_k03_whole_names_of_attributes.prog) (S := S_lren) Fu__law_k03_renamed rfl ok__law_k03_renamed m__law_k03_renamed b__law_k03_renamed
    have ok_lot_of := k_lot_of (P := PySem.Challenge.rw_coverjoin_k03_whole_names_of_attributes.prog) (k := 0) T  (S := S_lot) Fu_lot_of p_lot
    have d_lot_of := fnD_of (P := PySem.Challenge.rw_coverjoin_k03_whole_names_of_attributes.prog) (S := S_lot) Fu_lot_of rfl ok_lot_of m_lot_of b_lot_of
    have ok_candidates := k_candidates (P := PySem.Challenge.rw_coverjoin_k03_whole_names_of_attributes.prog) (k := 0) T  (S := S_can) Fu_candidates p_can
    have d_candidates := fnD_of (P := PySem.Challenge.rw_coverjoin_k03_whole_names_of_attributes.prog) (S := S_can) Fu_candidates rfl ok_candidates m_candidates b_candidates
    have ok_part_of := k_part_of (P := PySem.Challenge.rw_coverjoin_k03_whole_names_of_attributes.prog) (k := 0) T  (S := S_part) Fu_part_of p_part
    have d_part_of := fnD_of (P := PySem.Challenge.rw_coverjoin_k03_whole_names_of_attributes.prog) (S := S_part) Fu_part_of rfl ok_part_of m_part_of b_part_of
    have ok_fits := k_fits (P := PySem.Challenge.rw_coverjoin_k03_whole_names_of_attributes.prog) (k := 1) T S_part (d_part_of.mono (by decide)) (S := S_fits) Fu_fits p_fits
    have d_fits := fnD_of (P := PySem.Challenge.rw_coverjoin_k03_whole_names_of_attributes.prog) (S := S_fits) Fu_fits rfl ok_fits m_fits b_fits
    have ok_answers := k_answers (P := PySem.Challenge.rw_coverjoin_k03_whole_names_of_attributes.prog) (k := 6) T S_need S_needS S_lot S_can S_fits (d_need_query.mono (by decide)) (d_need_store.mono (by decide)) (d_lot_of.mono (by decide)) (d_candidates.mono (by decide)) (d_fits.mono (by decide)) (S := S_ans) Fu_answers p_ans
    have d_answers := fnD_of (P := PySem.Challenge.rw_coverjoin_k03_whole_names_of_attributes.prog) (S := S_ans) Fu_answers rfl ok_answers m_answers b_answers
    have ok__law_cj_odd := k__law_cj_odd (P := PySem.Challenge.rw_coverjoin_k03_whole_names_of_attributes.prog) (k := 3) T S_pick (d__law_pick.mono (by decide)) (S := S_odd) Fu__law_cj_odd p_odd
    have d__law_cj_odd := fnD_of (P := PySem.Challenge.rw_coverjoin_k03_whole_names_of_attributes.prog) (S := S_odd) Fu__law_cj_odd rfl ok__law_cj_odd m__law_cj_odd b__law_cj_odd
    have ok__law_is_whole := k__law_is_whole (P := PySem.Challenge.rw_coverjoin_k03_whole_names_of_attributes.prog) (k := 0) T  (S := S_whole) Fu__law_is_whole p_whole
    have d__law_is_whole := fnD_of (P := PySem.Challenge.rw_coverjoin_k03_whole_names_of_attributes.prog) (S := S_whole) Fu__law_is_whole rfl ok__law_is_whole m__law_is_whole b__law_is_whole
    have r__law_cj_bent : ∀ j, FnD PySem.Challenge.rw_coverjoin_k03_whole_names_of_attributes.prog w K mg base (LL w K) (4 + j) "_law_cj_bent" 2 (S_bentU j) := fnD_rec (fnD_false (fd := fd__law_cj_bent) (ps := ["state", "item"]) rfl m__law_cj_bent F__law_cj_bent.kp b__law_cj_bent no_bent) fun j d => fnD_of Fu__law_cj_bent rfl (k__law_cj_bent (P := PySem.Challenge.rw_coverjoin_k03_whole_names_of_attributes.prog) (k := 4 + j) T S_draw S_odd (S_bentU j) S_whole S_pick (d__law_draw.mono (by omega)) (d__law_cj_odd.mono (by omega)) d (d__law_is_whole.mono (by omega)) (d__law_pick.mono (by omega)) Fu__law_cj_bent (p_bent j)) m__law_cj_bent b__law_cj_bent
    have d__law_cj_bent := r__law_cj_bent 16
    have ok__law_is_truth := k__law_is_truth (P := PySem.Challenge.rw_coverjoin_k03_whole_names_of_attributes.prog) (k := 0) T  (S := S_truth) Fu__law_is_truth p_truth
    have d__law_is_truth := fnD_of (P := PySem.Challenge.rw_coverjoin_k03_whole_names_of_attributes.prog) (S := S_truth) Fu__law_is_truth rfl ok__law_is_truth m__law_is_truth b__law_is_truth
    have FB := k__law_begun (P := PySem.Challenge.rw_coverjoin_k03_whole_names_of_attributes.prog) (k := 21) T Fu__law_begun p_begun1 p_begun2
    have dk_renamed_2_places : FnW PySem.Challenge.rw_coverjoin_k03_whole_names_of_attributes.prog w K mg base (LL w K) 9 "renamed" 3 S_ren 2 ["places"] [0, 1, 2] := fnW_of Fu_renamed.fu rfl ok_renamed m_renamed fun _ _ _ _ _ _ us ws h1 h2 => match us, h1, ws, h2 with | [_, _], _, [_], _ => rfl
    have dk_is_order_0_query_value : FnW PySem.Challenge.rw_coverjoin_k03_whole_names_of_attributes.prog w K mg base (LL w K) 5 "is_order" 2 S_ord 0 ["query", "value"] [0, 1] := fnW_of Fu_is_order rfl ok_is_order m_is_order fun _ _ _ _ _ _ us ws h1 h2 => match us, h1, ws, h2 with | [], _, [_, _], _ => rfl
    exact k_law (P := PySem.Challenge.rw_coverjoin_k03_whole_names_of_attributes.prog) (k := 20) T S_draw_q S_cjs S_mixed S_ren S_lren S_ans (S_bentU 16) S_odd S_whole S_truth S_ord (d__law_cj_query.mono (by decide)) (d__law_cj_store.mono (by decide)) (d__law_mixed.mono (by decide)) (d__law_k03_renamed.mono (by decide)) (d_answers.mono (by decide)) (d_renamed.mono (by decide)) (d__law_cj_bent.mono (by decide)) (d__law_cj_odd.mono (by decide)) (d__law_is_whole.mono (by decide)) (d__law_is_truth.mono (by decide)) (dk_renamed_2_places.mono (by decide)) (dk_is_order_0_query_value.mono (by decide)) Fu_law (FB.mono (by decide)) m__law_begun F__law_begun.kp b__law_begun p_law
end
end WK03
open PySem PySem.W PySem.Calls PyProof.Rows
set_option maxRecDepth 100000 in
set_option maxHeartbeats 0 in
theorem PySem.Challenge.cw_coverjoin_k03_whole_names_of_attributes_holds : PySem.Challenge.rw_coverjoin_k03_whole_names_of_attributes.Holds := by
  w_on; o_law
  refine HandSHeadRun.head_any (r := OpenLaw.row PySem.Challenge.rw_coverjoin_k03_whole_names_of_attributes) (q := view (OpenLaw.row PySem.Challenge.rw_coverjoin_k03_whole_names_of_attributes).prog [41]) (H := WK03.hkL) (ob := WK03.obL) (M := 6000) (loose := WK03.loose) (d := HandSHeadRun.topDef (OpenLaw.row PySem.Challenge.rw_coverjoin_k03_whole_names_of_attributes).prog 41) (kwd := []) WK03.obL_eq
    (by kernel_rfl) (fun s => by kernel_rfl) WK03.runL (by kernel_rfl) (by kernel_rfl) (by kernel_rfl) (by rfl) (by first | assumption | decide +kernel) (by decide +kernel) ⟨rfl, rfl, rfl, rfl, rfl, by decide +kernel⟩ ?hw ?hc
  case hw => w_witness2
  case hc =>
    refine LamX.walk_ofTsE (l := PySem.Challenge.rw_coverjoin_k03_whole_names_of_attributes) (n := 63) (k := 23) (x := "script") (CX := fun w => L2.CX PySem.Challenge.rw_coverjoin_k03_whole_names_of_attributes.prog w) rfl (by decide) (by kernel_rfl) ⟨by decide, by decide, by decide⟩ ?F ?E
    case F =>
      intro w mg fa h Y G hmg0
      obtain ⟨K, KX, c⟩ := Y
      have hmg : mg ("law" : PySem.Str) = some (.ref fa) := by
        have e : (HandSHeadRun.topDef (OpenLaw.row PySem.Challenge.rw_coverjoin_k03_whole_names_of_attributes).prog 41).name = ("law" : PySem.Str) := by kernel_rfl
        rw [← e]
        exact hmg0
      exact ⟨K, KX, WK03.law_at KX G hmg c⟩
    case E => exact fun w H s e s' z => DL.cx_none z

