import PyProof.Rows.All
import Wide.All
import OpenK.AllK
import Wide.FinOn
import PyProof.EqAt
import PyProof.EqKinds
import PyProof.TupleCall
import HandS.ForExc
import HandS.Comp
import HandS.Dict
import HandS.Iter
import HandS.Walk
import HandS.Wide
import HandS.TupAny
import HandS.Text
import HandS.Star
import HandS.SortInts
import HandS.SortKw
import HandS.IsInst
import HandS.Property
import HandS.MakeKw
import HandS.MakeKwOnly
import HandS.Style
import HandS.Flow
import HandS.More
import HandS.Conv
import HandS.Zip
import HandS.Deep
import HandS.WordsDict
import HandS.Sort
import HandS.RaiseMore
import HandS.SetKeys
import HandS.Exc
import HandS.Defaults
import KE.SortKeyHeap
import KE.GoesMore
import KE.KDictZip
import PyProof.ListNew
import HandS.OwnEq
import HandS.Ends
import HandS.Head0
import HandS.Head1
import HandS.Head2
import HandS.HeadEnd
import HandS.HeadHook1
import HandS.HeadHook2
import HandS.HeadNt
import PyProof.ReprLen
import PySem.Challenge.RW_yesorrefuted_k12_whole_what_rows_force
set_option Elab.async false
set_option linter.all false
set_option maxRecDepth 100000
set_option maxHeartbeats 2000000
/-! The tree layer: values as trees (tuples and finished lists by content), changeable things by address. -/
namespace TL
open PySem PySem.Spec PyProof.Rows L2

/-- a value: tuples and finished lists by what they hold -/
inductive D where
  | non | bl (b : Bool) | int (i : Int) | str (s : Str) | flt (b : UInt64)
  | tup (xs : List D) | lst (xs : List D) | klst (xs : List D)
  | ref (a : Addr)
  | glb (x : Str)
  deriving Inhabited

/-- what may change -/
inductive PO where
  | lst (xs : List D)
  | dct (kvs : List (Key × D))
  | ins (C : Str) (fs : List (Str × D))
  deriving Inhabited

abbrev Mm := Addr → Option PO
def mput (M : Mm) (a : Addr) (o : PO) : Mm := fun b => if b = a then some o else M b
def mdel (M : Mm) (a : Addr) : Mm := fun b => if b = a then none else M b
@[simp] theorem mput_same {M : Mm} {a : Addr} {o : PO} : mput M a o a = some o := if_pos rfl
theorem mput_ne {M : Mm} {a b : Addr} {o : PO} (h : b ≠ a) : mput M a o b = M b := if_neg h
@[simp] theorem mput_mput {M : Mm} {a : Addr} {o u : PO} : mput (mput M a o) a u = mput M a u := by
  funext b; unfold mput; split <;> rfl

/-- the written part and what is known of it -/
structure Wd where
  P : Program
  w : World
  K : PySem.W.Frag
  mg : Str → Option Value
  base : Heap

/-- a state: what HandS tracks, what is told changeable, what is finished for good -/
structure Sta where
  H : Hp
  M : Mm
  F : Addr → Prop

/-- a sequence of the written part -/
def KSeq (K : PySem.W.Frag) (c : String) (a : Addr) (vs : List V) : Prop :=
  ∃ (o : Obj) (its : Array Value) (n : Nat), K.lookup a = some o ∧ o.cls = .type c ∧ (c = "list" → o.dict = none) ∧ o.data = .seq its n ∧ its.size ≤ sizeLine ∧ Vals vs its.toList

mutual
def Rep (W : Wd) (t : Sta) : D → V → Prop
  | .non, v => v = .non
  | .bl b, v => v = .bl b
  | .int i, v => v = .int i
  | .str s, v => v = .str s ∧ s.length ≤ sizeLine
  | .flt b, v => v = .flt b
  | .tup xs, v => ∃ a vs, v = .ref a ∧ ((t.F a ∧ Rd t.H a (.tup vs)) ∨ KSeq W.K "tuple" a vs) ∧ vs.length ≤ sizeLine ∧ Reps W t xs vs
  | .lst xs, v => ∃ a vs, v = .ref a ∧ (t.F a ∧ t.H a = some (.lst vs)) ∧ vs.length ≤ sizeLine ∧ Reps W t xs vs
  | .klst xs, v => ∃ a vs, v = .ref a ∧ ((t.F a ∧ Rd t.H a (.lst vs)) ∨ KSeq W.K "list" a vs) ∧ vs.length ≤ sizeLine ∧ Reps W t xs vs
  | .ref a, v => v = .ref a
  | .glb x, v => ∃ u, W.mg x = some u ∧ RelV v u
def Reps (W : Wd) (t : Sta) : List D → List V → Prop
  | [], vs => vs = []
  | d :: ds, vs => ∃ v r, vs = v :: r ∧ Rep W t d v ∧ Reps W t ds r
end

/-- entries: the same keys, the values told -/
def RepKs {κ : Type} (W : Wd) (t : Sta) : List (κ × D) → List (κ × V) → Prop
  | [], vs => vs = []
  | (k, d) :: ds, vs => ∃ v r, vs = (k, v) :: r ∧ Rep W t d v ∧ RepKs W t ds r

def POk (W : Wd) (t : Sta) (a : Addr) : PO → Prop
  | .lst xs => ∃ vs, t.H a = some (.lst vs) ∧ vs.length ≤ sizeLine ∧ Reps W t xs vs
  | .dct kvs => ∃ vs, t.H a = some (.dK vs) ∧ vs.length ≤ sizeLine ∧ RepKs W t kvs vs
  | .ins c fs => ∃ C dx vs, t.H a = some (.ins C dx vs) ∧ W.mg c = some (.ref C) ∧ vs.length ≤ 1000 ∧ RepKs W t fs vs
structure Good (W : Wd) (t : Sta) : Prop where
  at_ : ∀ a o, t.M a = some o → POk W t a o
  fr : ∀ a, t.F a → t.M a = none ∧ ∃ o, t.H a = some o
/-- what stood and is not told changeable stands; what is finished stays so -/
structure Ext (t t' : Sta) : Prop where
  keep : ∀ a o, t.H a = some o → t.M a = none → t'.H a = some o ∧ t'.M a = none
  grow : ∀ a, t.F a → t'.F a
  old : ∀ a o, t.H a = some o → t.M a = none → t'.F a → t.F a
/-- what is finished stands: as much as a reading leans on -/
def Fst (t t' : Sta) : Prop := ∀ a, t.F a → t'.F a ∧ ∀ o, t.H a = some o → t'.H a = some o

theorem Ext.refl {t : Sta} : Ext t t := ⟨fun _ _ h n => ⟨h, n⟩, fun _ h => h, fun _ _ _ _ h => h⟩
theorem Ext.trans {t t1 t2 : Sta} (a : Ext t t1) (b : Ext t1 t2) : Ext t t2 where
  keep := fun x o h n =>
    let ⟨h1, n1⟩ := a.keep x o h n
    b.keep x o h1 n1
  grow := fun x h => b.grow x (a.grow x h)
  old := fun x o h n f =>
    let ⟨h1, n1⟩ := a.keep x o h n
    a.old x o h n (b.old x o h1 n1 f)
theorem Fst.refl {t : Sta} : Fst t t := fun _ h => ⟨h, fun _ q => q⟩
theorem Fst.trans {t t1 t2 : Sta} (a : Fst t t1) (b : Fst t1 t2) : Fst t t2 := fun x h => ⟨(b x (a x h).1).1, fun o q => (b x (a x h).1).2 o ((a x h).2 o q)⟩

section
variable {W : Wd} {t t' : Sta}
theorem Ext.fst (g : Good W t) (e : Ext t t') : Fst t t' := fun a h => ⟨e.grow a h, fun o q => (e.keep a o q (g.fr a h).1).1⟩
theorem Rd.ext {a : Addr} {u : HO} (e : Fst t t') (n : t.F a) (h : Rd t.H a u) : t'.F a ∧ Rd t'.H a u := by
  refine ⟨(e a n).1, ?_⟩
  rcases h with h | ⟨o, h⟩
  · exact .inl ((e a n).2 _ h)
  · exact .inr ⟨o, (e a n).2 _ h⟩
mutual
theorem Rep.ext (e : Fst t t') : ∀ {d : D} {v : V}, Rep W t d v → Rep W t' d v
  | .non, _, h => h
  | .bl _, _, h => h
  | .int _, _, h => h
  | .str _, _, h => h
  | .flt _, _, h => h
  | .tup xs, v, h => by
    simp only [Rep] at h ⊢
    obtain ⟨a, vs, rfl, hs, hl, hr⟩ := h
    exact ⟨a, vs, rfl, hs.imp (fun q => Rd.ext e q.1 q.2) id, hl, Reps.ext e hr⟩
  | .lst xs, v, h => by
    simp only [Rep] at h ⊢
    obtain ⟨a, vs, rfl, hs, hl, hr⟩ := h
    exact ⟨a, vs, rfl, ⟨(e a hs.1).1, (e a hs.1).2 _ hs.2⟩, hl, Reps.ext e hr⟩
  | .klst xs, v, h => by
    simp only [Rep] at h ⊢
    obtain ⟨a, vs, rfl, hs, hl, hr⟩ := h
    exact ⟨a, vs, rfl, hs.imp (fun q => Rd.ext e q.1 q.2) id, hl, Reps.ext e hr⟩
  | .ref _, _, h => h
  | .glb _, _, h => h
theorem Reps.ext (e : Fst t t') : ∀ {ds : List D} {vs : List V}, Reps W t ds vs → Reps W t' ds vs
  | [], _, h => h
  | d :: ds, vs, h => by
    simp only [Reps] at h ⊢
    obtain ⟨v, r, rfl, h1, h2⟩ := h
    exact ⟨v, r, rfl, Rep.ext e h1, Reps.ext e h2⟩
end
theorem RepKs.ext {κ : Type} (e : Fst t t') : ∀ {ds : List (κ × D)} {vs : List (κ × V)}, RepKs W t ds vs → RepKs W t' ds vs
  | [], _, h => h
  | (k, d) :: ds, vs, h => by
    obtain ⟨v, r, rfl, h1, h2⟩ := h
    exact ⟨v, r, rfl, h1.ext e, RepKs.ext e h2⟩
theorem POk.ext {a : Addr} {o : PO} (e : Fst t t') (h : POk W t a o) (k : ∀ u, t.H a = some u → t'.H a = some u) : POk W t' a o := by
  cases o with
  | lst xs => obtain ⟨vs, h1, h2, h3⟩ := h; exact ⟨vs, k _ h1, h2, h3.ext e⟩
  | dct xs => obtain ⟨vs, h1, h2, h3⟩ := h; exact ⟨vs, k _ h1, h2, h3.ext e⟩
  | ins c fs => obtain ⟨C, dx, vs, h1, h2, h3, h4⟩ := h; exact ⟨C, dx, vs, k _ h1, h2, h3, h4.ext e⟩
theorem POk.there {a : Addr} {o : PO} (h : POk W t a o) : ∃ u, t.H a = some u := by
  cases o with
  | lst xs => obtain ⟨vs, h1, _⟩ := h; exact ⟨_, h1⟩
  | dct xs => obtain ⟨vs, h1, _⟩ := h; exact ⟨_, h1⟩
  | ins c fs => obtain ⟨C, dx, vs, h1, _⟩ := h; exact ⟨_, h1⟩
theorem Good.fresh {a : Addr} (g : Good W t) (n : t.H a = none) : t.M a = none := by
  cases e : t.M a with
  | none => rfl
  | some o =>
    obtain ⟨u, q⟩ := (g.at_ a o e).there
    rw [n] at q; cases q
theorem Good.notF {a : Addr} (g : Good W t) (n : t.H a = none) : ¬ t.F a := fun f => by
  obtain ⟨_, o, q⟩ := g.fr a f
  rw [n] at q; cases q

/-! changes of the state -/
/-- a new thing, finished -/
abbrev Sta.add (t : Sta) (a : Addr) (o : HO) : Sta := ⟨upd t.H a o, t.M, fun b => b = a ∨ t.F b⟩
/-- a new thing, of which nothing is told yet -/
abbrev Sta.hid (t : Sta) (a : Addr) (o : HO) : Sta := ⟨upd t.H a o, t.M, t.F⟩
/-- a new thing, changeable; or such a thing changed -/
abbrev Sta.put (t : Sta) (a : Addr) (o : HO) (p : PO) : Sta := ⟨upd t.H a o, mput t.M a p, t.F⟩
/-- forgotten -/
abbrev Sta.less (t : Sta) (M : Mm) : Sta := ⟨t.H, M, t.F⟩
theorem ne_new {H : Hp} {a b : Addr} {u : HO} (n : H a = none) (h : H b = some u) : b ≠ a := fun z => by rw [z, n] at h; cases h
theorem Fst.new {a : Addr} {o : HO} {M : Mm} {F : Addr → Prop} (n : t.H a = none) (hF : ∀ b, t.F b → F b) : Fst t ⟨upd t.H a o, M, F⟩ := fun b f => ⟨hF b f, fun u h => by
  show upd t.H a o b = some u
  rw [upd_ne (ne_new n h)]; exact h⟩
theorem Ext.add {a : Addr} {o : HO} (n : t.H a = none) : Ext t (t.add a o) where
  keep := fun b u h m => ⟨by show upd t.H a o b = some u; rw [upd_ne (ne_new n h)]; exact h, m⟩
  grow := fun b f => .inr f
  old := fun b u h m f => f.elim (fun e => absurd e (ne_new n h)) id
theorem Good.add {a : Addr} {o : HO} (g : Good W t) (n : t.H a = none) : Good W (t.add a o) where
  at_ := fun b p h => (g.at_ b p h).ext (Fst.new n fun _ f => .inr f) fun u q => by show upd t.H a o b = some u; rw [upd_ne (ne_new n q)]; exact q
  fr := fun b f => by
    rcases f with rfl | f
    · exact ⟨g.fresh n, o, upd_same⟩
    · obtain ⟨h1, u, h2⟩ := g.fr b f
      exact ⟨h1, u, by show upd t.H a o b = some u; rw [upd_ne (ne_new n h2)]; exact h2⟩
theorem Ext.hid {a : Addr} {o : HO} (n : t.H a = none) : Ext t (t.hid a o) where
  keep := fun b u h m => ⟨by show upd t.H a o b = some u; rw [upd_ne (ne_new n h)]; exact h, m⟩
  grow := fun b f => f
  old := fun b u h m f => f
theorem Good.hid {a : Addr} {o : HO} (g : Good W t) (n : t.H a = none) : Good W (t.hid a o) where
  at_ := fun b p h => (g.at_ b p h).ext (Fst.new n fun _ f => f) fun u q => by show upd t.H a o b = some u; rw [upd_ne (ne_new n q)]; exact q
  fr := fun b f => by
    obtain ⟨h1, u, h2⟩ := g.fr b f
    exact ⟨h1, u, by show upd t.H a o b = some u; rw [upd_ne (ne_new n h2)]; exact h2⟩
theorem Ext.newM {a : Addr} {o : HO} {p : PO} (n : t.H a = none) : Ext t (t.put a o p) where
  keep := fun b u h m => ⟨by show upd t.H a o b = some u; rw [upd_ne (ne_new n h)]; exact h, by show mput t.M a p b = none; rw [mput_ne (ne_new n h)]; exact m⟩
  grow := fun b f => f
  old := fun b u h m f => f
theorem Fst.put {a : Addr} {o : HO} {p : PO} (nf : ¬ t.F a) : Fst t (t.put a o p) := fun b f => ⟨f, fun u h => by
  show upd t.H a o b = some u
  rw [upd_ne (show b ≠ a from fun z => nf (by rw [← z]; exact f))]; exact h⟩
theorem Good.put_ {a : Addr} {o : HO} {p : PO} (g : Good W t) (nf : ¬ t.F a) (ok : POk W (t.put a o p) a p) : Good W (t.put a o p) where
  at_ := fun b q h => by
    by_cases e : b = a
    · subst e
      have h' : mput t.M b p b = some q := h
      rw [mput_same] at h'; cases h'; exact ok
    · have h' : mput t.M a p b = some q := h
      rw [mput_ne e] at h'
      exact (g.at_ b q h').ext (Fst.put nf) fun u r => by show upd t.H a o b = some u; rw [upd_ne e]; exact r
  fr := fun b f => by
    obtain ⟨h1, u, h2⟩ := g.fr b f
    have e : b ≠ a := fun z => nf (by rw [← z]; exact f)
    exact ⟨by show mput t.M a p b = none; rw [mput_ne e]; exact h1, u, by show upd t.H a o b = some u; rw [upd_ne e]; exact h2⟩
theorem Good.newM {a : Addr} {o : HO} {p : PO} (g : Good W t) (n : t.H a = none) (ok : POk W (t.put a o p) a p) : Good W (t.put a o p) := g.put_ (g.notF n) ok
theorem Good.nfM {a : Addr} {p : PO} (g : Good W t) (h : t.M a = some p) : ¬ t.F a := fun f => by
  rw [(g.fr a f).1] at h; cases h
theorem Ext.put {a : Addr} {o : HO} {p0 p : PO} (h0 : t.M a = some p0) : Ext t (t.put a o p) where
  keep := fun b u h m => by
    have ne : b ≠ a := fun z => by rw [z, h0] at m; cases m
    exact ⟨by show upd t.H a o b = some u; rw [upd_ne ne]; exact h, by show mput t.M a p b = none; rw [mput_ne ne]; exact m⟩
  grow := fun b f => f
  old := fun b u h m f => f
theorem Good.put {a : Addr} {o : HO} {p0 p : PO} (g : Good W t) (h0 : t.M a = some p0) (ok : POk W (t.put a o p) a p) : Good W (t.put a o p) := g.put_ (g.nfM h0) ok
/-- forgetting -/
theorem Ext.less {M1 : Mm} (s : ∀ a o, M1 a = some o → t.M a = some o) : Ext t (t.less M1) where
  keep := fun a o h n => by
    refine ⟨h, ?_⟩
    cases e : M1 a with
    | none => exact e
    | some q => rw [s a q e] at n; cases n
  grow := fun a f => f
  old := fun a o h m f => f
theorem Good.less {M1 : Mm} (g : Good W t) (s : ∀ a o, M1 a = some o → t.M a = some o) : Good W (t.less M1) where
  at_ := fun a o e => POk.ext (t := t) (t' := t.less M1) (fun _ f => ⟨f, fun _ h => h⟩) (g.at_ a o (s a o e)) fun _ q => q
  fr := fun a f => by
    obtain ⟨h1, h2⟩ := g.fr a f
    refine ⟨?_, h2⟩
    cases e : M1 a with
    | none => exact e
    | some q => rw [s a q e] at h1; cases h1
/-- a changeable list is finished -/
abbrev Sta.fin (t : Sta) (a : Addr) : Sta := ⟨t.H, mdel t.M a, fun b => b = a ∨ t.F b⟩
theorem mdel_sub {M : Mm} {a : Addr} : ∀ b o, mdel M a b = some o → M b = some o := fun b o h => by
  unfold mdel at h
  split at h
  · cases h
  · exact h
theorem Ext.fin {a : Addr} {p : PO} (h0 : t.M a = some p) : Ext t (t.fin a) where
  keep := fun b o h n => ⟨h, by
    cases e : mdel t.M a b with
    | none => exact e
    | some q => rw [mdel_sub b q e] at n; cases n⟩
  grow := fun b f => .inr f
  old := fun b o h m f => f.elim (fun e => by subst e; rw [h0] at m; cases m) id
theorem Good.fin {a : Addr} {p : PO} (g : Good W t) (h0 : t.M a = some p) : Good W (t.fin a) where
  at_ := fun b o e => POk.ext (t := t) (t' := t.fin a) (fun _ f => ⟨.inr f, fun _ h => h⟩) (g.at_ b o (mdel_sub b o e)) fun _ q => q
  fr := fun b f => by
    rcases f with rfl | f
    · exact ⟨if_pos rfl, (g.at_ b p h0).there⟩
    · obtain ⟨h1, h2⟩ := g.fr b f
      refine ⟨?_, h2⟩
      cases e : mdel t.M a b with
      | none => exact e
      | some q => rw [mdel_sub b q e] at h1; cases h1

theorem Reps.length : ∀ {ds : List D} {vs : List V}, Reps W t ds vs → vs.length = ds.length
  | [], _, h => by simp only [Reps] at h; subst h; rfl
  | d :: ds, vs, h => by
    simp only [Reps] at h
    obtain ⟨v, r, rfl, h1, h2⟩ := h
    rw [List.length_cons, List.length_cons, Reps.length h2]
theorem Reps.get : ∀ {ds : List D} {vs : List V} {i : Nat} {d : D}, Reps W t ds vs → ds[i]? = some d → ∃ v, vs[i]? = some v ∧ Rep W t d v
  | [], _, _, _, _, e => by simp at e
  | x :: ds, vs, i, d, h, e => by
    simp only [Reps] at h
    obtain ⟨v, r, rfl, h1, h2⟩ := h
    cases i with
    | zero => simp at e; subst e; exact ⟨v, rfl, h1⟩
    | succ i => simpa using Reps.get h2 (by simpa using e)
theorem Reps.get' : ∀ {ds : List D} {vs : List V} {i : Nat} {v : V}, Reps W t ds vs → vs[i]? = some v → ∃ d, ds[i]? = some d ∧ Rep W t d v
  | [], _, _, _, h, e => by simp only [Reps] at h; subst h; simp at e
  | x :: ds, vs, i, v, h, e => by
    simp only [Reps] at h
    obtain ⟨y, r, rfl, h1, h2⟩ := h
    cases i with
    | zero => simp at e; subst e; exact ⟨x, rfl, h1⟩
    | succ i => simpa using Reps.get' h2 (by simpa using e)
theorem Reps.append : ∀ {ds es : List D} {vs us : List V}, Reps W t ds vs → Reps W t es us → Reps W t (ds ++ es) (vs ++ us)
  | [], _, _, _, h, g => by simp only [Reps] at h; subst h; exact g
  | d :: ds, es, vs, us, h, g => by
    simp only [Reps] at h
    obtain ⟨v, r, rfl, h1, h2⟩ := h
    simp only [List.cons_append, Reps]
    exact ⟨v, r ++ us, rfl, h1, Reps.append h2 g⟩
theorem Reps.one {d : D} {v : V} (h : Rep W t d v) : Reps W t [d] [v] := by
  simp only [Reps]; exact ⟨v, [], rfl, h, rfl⟩
theorem Reps.nil : Reps W t [] [] := by simp only [Reps]
theorem Reps.cons {d : D} {v : V} {ds : List D} {vs : List V} (h : Rep W t d v) (k : Reps W t ds vs) : Reps W t (d :: ds) (v :: vs) := by
  simp only [Reps]; exact ⟨v, vs, rfl, h, k⟩
theorem Reps.set {d : D} {v : V} (h : Rep W t d v) : ∀ {ds : List D} {vs : List V} (i : Nat), Reps W t ds vs → Reps W t (ds.set i d) (vs.set i v)
  | [], _, _, h => by simp only [Reps] at h; subst h; simp only [List.set_nil]; exact Reps.nil
  | x :: ds, vs, i, g => by
    simp only [Reps] at g
    obtain ⟨y, r, rfl, h1, h2⟩ := g
    cases i with
    | zero => exact Reps.cons h h2
    | succ i => exact Reps.cons h1 (Reps.set h i h2)
theorem Reps.take : ∀ {ds : List D} {vs : List V} (n : Nat), Reps W t ds vs → Reps W t (ds.take n) (vs.take n)
  | _, _, 0, _ => by simp only [List.take_zero]; exact Reps.nil
  | [], _, _ + 1, h => by simp only [Reps] at h; subst h; exact Reps.nil
  | x :: ds, vs, n + 1, g => by
    simp only [Reps] at g
    obtain ⟨y, r, rfl, h1, h2⟩ := g
    exact Reps.cons h1 (Reps.take n h2)
theorem Reps.drop : ∀ {ds : List D} {vs : List V} (n : Nat), Reps W t ds vs → Reps W t (ds.drop n) (vs.drop n)
  | _, _, 0, h => by simpa only [List.drop_zero] using h
  | [], _, _ + 1, h => by simp only [Reps] at h; subst h; exact Reps.nil
  | x :: ds, vs, n + 1, g => by
    simp only [Reps] at g
    obtain ⟨y, r, rfl, h1, h2⟩ := g
    exact Reps.drop n h2
theorem Reps.reverse {ds : List D} {vs : List V} (h : Reps W t ds vs) : Reps W t ds.reverse vs.reverse := by
  induction ds generalizing vs with
  | nil => simp only [Reps] at h; subst h; exact Reps.nil
  | cons d ds ih =>
    simp only [Reps] at h
    obtain ⟨v, r, rfl, h1, h2⟩ := h
    rw [List.reverse_cons, List.reverse_cons]
    exact (ih h2).append (Reps.one h1)
theorem Reps.eraseIdx : ∀ {ds : List D} {vs : List V} (i : Nat), Reps W t ds vs → Reps W t (ds.eraseIdx i) (vs.eraseIdx i)
  | [], _, i, h => by simp only [Reps] at h; subst h; simp only [List.eraseIdx_nil]; exact Reps.nil
  | x :: ds, vs, i, g => by
    simp only [Reps] at g
    obtain ⟨y, r, rfl, h1, h2⟩ := g
    cases i with
    | zero => exact h2
    | succ i => exact Reps.cons h1 (Reps.eraseIdx i h2)
theorem Reps.nil_inv {vs : List V} (h : Reps W t [] vs) : vs = [] := by simpa only [Reps] using h
theorem Reps.cons_inv {d : D} {ds : List D} {vs : List V} (h : Reps W t (d :: ds) vs) : ∃ v r, vs = v :: r ∧ Rep W t d v ∧ Reps W t ds r := by simpa only [Reps] using h

theorem RepKs.length {κ : Type} : ∀ {ds : List (κ × D)} {vs : List (κ × V)}, RepKs W t ds vs → vs.length = ds.length
  | [], vs, h => by
    have e : vs = [] := h
    rw [e]; rfl
  | (k, d) :: ds, vs, h => by
    obtain ⟨v, r, rfl, h1, h2⟩ := h
    rw [List.length_cons, List.length_cons, RepKs.length h2]

/-- a sequence at hand: as HandS reads it -/
theorem tupAt {xs : List D} {v : V} (h : Rep W t (.tup xs) v) : ∃ a vs, v = .ref a ∧ SqT W.K t.H a vs ∧ vs.length ≤ sizeLine ∧ Reps W t xs vs := by
  simp only [Rep] at h
  obtain ⟨a, vs, rfl, hs, hl, hr⟩ := h
  refine ⟨a, vs, rfl, ?_, hl, hr⟩
  rcases hs with ⟨_, q⟩ | ⟨o, its, n, h1, h2, _, h3, h4, h5⟩
  · exact .inl q
  · exact .inr ⟨o, its, n, h1, h2, h3, h4, h5⟩
theorem lstAt {xs : List D} {v : V} (h : Rep W t (.lst xs) v) : ∃ a vs, v = .ref a ∧ t.H a = some (.lst vs) ∧ vs.length ≤ sizeLine ∧ Reps W t xs vs := by
  simp only [Rep] at h
  obtain ⟨a, vs, rfl, hs, hl, hr⟩ := h
  exact ⟨a, vs, rfl, hs.2, hl, hr⟩
theorem klstAt {xs : List D} {v : V} (h : Rep W t (.klst xs) v) : ∃ a vs, v = .ref a ∧ SqL W.K t.H a vs ∧ vs.length ≤ sizeLine ∧ Reps W t xs vs := by
  simp only [Rep] at h
  obtain ⟨a, vs, rfl, hs, hl, hr⟩ := h
  refine ⟨a, vs, rfl, ?_, hl, hr⟩
  rcases hs with ⟨_, q⟩ | ⟨o, its, n, h1, h2, h6, h3, h4, h5⟩
  · exact .inl q
  · exact .inr ⟨o, its, n, h1, h2, h6 rfl, h3, h4, h5⟩
/-- the content of a list, finished or changeable -/
def catOf (M : Mm) : D → Option (List D)
  | .lst xs => some xs
  | .ref a => match M a with
    | some (.lst xs) => some xs
    | _ => none
  | _ => none
theorem catOf_at {d : D} {xs : List D} {v : V} (g : Good W t) (h : Rep W t d v) (e : catOf t.M d = some xs) : ∃ a vs, v = .ref a ∧ t.H a = some (.lst vs) ∧ vs.length ≤ sizeLine ∧ Reps W t xs vs := by
  cases d with
  | lst ys => cases e; exact lstAt h
  | ref a =>
    have hv : v = .ref a := by simpa only [Rep] using h
    subst hv
    have e' : (match t.M a with | some (.lst xs) => some xs | _ => none) = some xs := e
    split at e'
    · rename_i q
      cases e'
      obtain ⟨vs, h1, h2, h3⟩ := g.at_ a _ q
      exact ⟨a, vs, rfl, h1, h2, h3⟩
    · cases e'
  | _ => cases e
/-- .. or of a known one -/
def lstOf (M : Mm) : D → Option (List D)
  | .klst xs => some xs
  | d => catOf M d
theorem lstOf_at {d : D} {xs : List D} {v : V} (g : Good W t) (h : Rep W t d v) (e : lstOf t.M d = some xs) : ∃ a vs, v = .ref a ∧ SqL W.K t.H a vs ∧ vs.length ≤ sizeLine ∧ Reps W t xs vs := by
  cases d with
  | klst ys => cases e; exact klstAt h
  | lst ys => obtain ⟨a, vs, h1, h2, h3⟩ := catOf_at g h e; exact ⟨a, vs, h1, .of h2, h3⟩
  | ref a => obtain ⟨a, vs, h1, h2, h3⟩ := catOf_at g h e; exact ⟨a, vs, h1, .of h2, h3⟩
  | _ => cases e
/-- .. or of a tuple -/
def seqOf (M : Mm) : D → Option (List D)
  | .tup xs => some xs
  | d => lstOf M d
theorem seqOf_at {d : D} {xs : List D} {v : V} (g : Good W t) (h : Rep W t d v) (e : seqOf t.M d = some xs) : ∃ a vs, v = .ref a ∧ (SqL W.K t.H a vs ∨ SqT W.K t.H a vs) ∧ vs.length ≤ sizeLine ∧ Reps W t xs vs := by
  cases d with
  | tup ys => cases e; obtain ⟨a, vs, h1, h2, h3⟩ := tupAt h; exact ⟨a, vs, h1, .inr h2, h3⟩
  | lst ys => obtain ⟨a, vs, h1, h2, h3⟩ := lstOf_at g h e; exact ⟨a, vs, h1, .inl h2, h3⟩
  | klst ys => obtain ⟨a, vs, h1, h2, h3⟩ := lstOf_at g h e; exact ⟨a, vs, h1, .inl h2, h3⟩
  | ref a => obtain ⟨a, vs, h1, h2, h3⟩ := lstOf_at g h e; exact ⟨a, vs, h1, .inl h2, h3⟩
  | _ => cases e
/-- a new tuple, a new finished list -/
theorem Rep.newTup {xs : List D} {vs : List V} {p : Addr} (n : t.H p = none) (hl : vs.length ≤ sizeLine) (r : Reps W t xs vs) : Rep W (t.add p (.tup vs)) (.tup xs) (.ref p) := by
  simp only [Rep]
  exact ⟨p, vs, rfl, .inl ⟨.inl rfl, .inl upd_same⟩, hl, r.ext (Fst.new n fun _ f => .inr f)⟩
theorem Rep.newLst {xs : List D} {vs : List V} {p : Addr} (n : t.H p = none) (hl : vs.length ≤ sizeLine) (r : Reps W t xs vs) : Rep W (t.add p (.lst vs)) (.lst xs) (.ref p) := by
  simp only [Rep]
  exact ⟨p, vs, rfl, ⟨.inl rfl, upd_same⟩, hl, r.ext (Fst.new n fun _ f => .inr f)⟩
theorem POk.newLst {xs : List D} {vs : List V} {p : Addr} (n : t.H p = none) (hl : vs.length ≤ sizeLine) (r : Reps W t xs vs) : POk W (t.put p (.lst vs) (.lst xs)) p (.lst xs) :=
  ⟨vs, upd_same, hl, r.ext (Fst.new n fun _ f => f)⟩
theorem Rep.ref {a : Addr} : Rep W t (.ref a) (.ref a) := by simp only [Rep]
end
end TL

set_option Elab.async false
set_option linter.all false
set_option maxRecDepth 100000
set_option maxHeartbeats 2000000
/-! The small language of the tree layer and what each piece asks. -/
namespace TL
open PySem PySem.Spec PyProof.Rows L2

abbrev En := List (Option D)
abbrev KD := D → Mm → Prop
/-- what is wanted of an exception: its class's name, its value -/
abbrev XD := Str → D → Mm → Prop
/-- what a def asks: arguments, what is changeable, exceptions, the end -/
abbrev Contract := List D → Mm → XD → KD → Prop
structure Fin where
  nx : En → Mm → Prop
  rt : KD
  bk : En → Mm → Prop := fun _ _ => False
  ct : En → Mm → Prop := fun _ _ => False
  ex : En → XD := fun _ _ _ _ => False

/-! ### data -/
mutual
def D.py : D → PyData
  | .non => .none
  | .bl b => .bool b
  | .int i => .int i
  | .str s => .str s
  | .tup xs => .tuple (pys xs)
  | .lst xs => .list (pys xs)
  | .klst xs => .list (pys xs)
  | _ => .none
def pys : List D → List PyData
  | [] => []
  | x :: r => x.py :: pys r
end
mutual
/-- no address within, texts of plain signs -/
def D.plain : D → Bool
  | .non => true
  | .bl _ => true
  | .int _ => true
  | .str s => PyData.strOk s
  | .tup xs => plains xs
  | .lst xs => plains xs
  | .klst xs => plains xs
  | _ => false
def plains : List D → Bool
  | [] => true
  | x :: r => x.plain && plains r
end
mutual
def D.deep : D → Nat
  | .tup xs => deeps xs + 1
  | .lst xs => deeps xs + 1
  | .klst xs => deeps xs + 1
  | _ => 0
def deeps : List D → Nat
  | [] => 0
  | x :: r => max x.deep (deeps r)
end
mutual
/-- integers of at most 1900 bits -/
def D.smalls : D → Bool
  | .int i => decide (i.natAbs.log2 < 1900)
  | .tup xs => smallss xs
  | .lst xs => smallss xs
  | .klst xs => smallss xs
  | _ => true
def smallss : List D → Bool
  | [] => true
  | x :: r => x.smalls && smallss r
end
/-- plain data that is not too deep -/
def D.pok (d : D) : Bool := d.plain && decide (d.deep ≤ 60)
/-- a list that stands changeable, as it is now -/
def now (M : Mm) : D → D
  | .ref a => match M a with
    | some (.lst xs) => .lst xs
    | _ => .ref a
  | d => d
/-- an atom: None, a bool, an int, a text -/
def D.flat : D → Bool
  | .non => true | .bl _ => true | .int _ => true | .str _ => true
  | _ => false
def flatEq : D → D → Bool
  | .non, .non => true
  | .bl a, .bl b => a == b
  | .int i, .int j => i == j
  | .str a, .str b => a == b
  | .bl a, .int j => (if a then 1 else 0) == j
  | .int i, .bl b => i == (if b then 1 else 0)
  | _, _ => false

@[simp] def optK (o : Option D) (k : D → Prop) : Prop := match o with | some d => k d | none => False
@[simp] def someK {α : Type} (o : Option α) (k : α → Prop) : Prop := match o with | some x => k x | none => False
theorem someK_inv {α : Type} {o : Option α} {k : α → Prop} (h : someK o k) : ∃ x, o = some x ∧ k x := by
  cases o with
  | some x => exact ⟨x, rfl, h⟩
  | none => exact (show False from h).elim
theorem optK_inv {o : Option D} {k : D → Prop} (h : optK o k) : ∃ x, o = some x ∧ k x := by
  cases o with
  | some x => exact ⟨x, rfl, h⟩
  | none => exact (show False from h).elim

/-! ### operators -/
@[simp] def newL (fz : Bool) (xs : List D) (M : Mm) (Q : KD) : Prop := if fz = true then Q (.lst xs) M else ∀ p, M p = none → Q (.ref p) (mput M p (.lst xs))
@[simp] def D.asB (d : D) (k : Bool → Prop) : Prop := match d with | .bl b => k b | _ => False
@[simp] def D.asI (d : D) (k : Int → Prop) : Prop := match d with | .int i => k i | _ => False
@[simp] def opAdd (fz : Bool) (x y : D) (M : Mm) (Q : KD) : Prop :=
  match x, y with
  | .int i, .int j => Q (.int (i + j)) M
  | .str a, .str b => a.length + b.length ≤ sizeLine ∧ Q (.str (a ++ b)) M
  | .tup a, .tup b => a.length + b.length ≤ sizeLine ∧ Q (.tup (a ++ b)) M
  | x, y => match catOf M x, catOf M y with
    | some a, some b => a.length + b.length ≤ sizeLine ∧ newL fz (a ++ b) M Q
    | _, _ => False
/-- a product, a quotient, a power that the model reckons -/
@[simp] def opII (o : Operator) (i j : Int) (M : Mm) (Q : KD) : Prop :=
  match o with
  | .Sub => Q (.int (i - j)) M
  | .Mult => CMulW i j ∧ Q (.int (i * j)) M
  | .FloorDiv => CDivW i j ∧ Q (.int (i / j)) M
  | .Mod => 0 < j ∧ Q (.int (i % j)) M
  | .Pow => (0 ≤ j ∧ ((i.natAbs.log2 : Nat) + 1 : Int) * j ≤ 2 ^ 27) ∧ Q (.int (i ^ j.toNat)) M
  | .LShift => CPow i j ∧ Q (.int (i * 2 ^ j.toNat)) M
  | .RShift => 0 ≤ j ∧ Q (.int (i / 2 ^ j.toNat)) M
  | _ => False
@[simp] def opI (o : Operator) (x y : D) (M : Mm) (Q : KD) : Prop := x.asI fun i => y.asI fun j => opII o i j M Q
theorem D.asI_inv {d : D} {k : Int → Prop} (h : d.asI k) : ∃ i, d = .int i ∧ k i := by
  cases d with
  | int i => exact ⟨i, rfl, h⟩
  | _ => exact (show False from h).elim
theorem D.asB_inv {d : D} {k : Bool → Prop} (h : d.asB k) : ∃ i, d = .bl i ∧ k i := by
  cases d with
  | bl i => exact ⟨i, rfl, h⟩
  | _ => exact (show False from h).elim
@[simp] def binD (o : Operator) (fz : Bool) (x y : D) (M : Mm) (Q : KD) : Prop :=
  match o with
  | .Add => opAdd fz x y M Q
  | o => opI o x y M Q
def eqP (x y : D) (k : Bool → Prop) : Prop := x.pok = true ∧ y.pok = true ∧ k (PyData.eqv x.py y.py)
def eqK (M : Mm) (x y : D) (k : Bool → Prop) : Prop :=
  match x, y with
  | .int i, .int j => k (decide (i = j))
  | .str a, .str b => k (decide (a = b))
  | .bl a, .bl b => k (decide (a = b))
  | x, y => eqP (now M x) (now M y) k
/-! ### dicts -/
section
variable {κ : Type} [DecidableEq κ]
def kget (kvs : List (κ × D)) (k : κ) : Option D := (kvs.find? fun kv => decide (kv.1 = k)).map (·.2)
def kput (kvs : List (κ × D)) (k : κ) (v : D) : List (κ × D) :=
  if kvs.any (fun kv => decide (kv.1 = k)) then kvs.map fun kv => if kv.1 = k then (kv.1, v) else kv else kvs ++ [(k, v)]
def kdrop (kvs : List (κ × D)) (k : κ) : List (κ × D) := kvs.filter fun kv => decide (kv.1 ≠ k)
end
def keyOf : D → Option Key
  | .int i => some (.inl i)
  | .str s => some (.inr s)
  | _ => none
def keyD : Key → D
  | .inl i => .int i
  | .inr s => .str s
def dctOf (M : Mm) : D → Option (List (Key × D))
  | .ref p => match M p with
    | some (.dct kvs) => some kvs
    | _ => none
  | _ => none
def inK (M : Mm) (x y : D) (k : Bool → Prop) : Prop :=
  match x, y with
  | .str a, .str b => a.length = 1 ∧ k (decide (a.cps.getD 0 0 ∈ b.cps.toList))
  | x, y => match dctOf M y, keyOf x with
    | some kvs, some q => k (kget kvs q).isSome
    | some _, none => False
    | none, _ => match seqOf M y with
      | some xs => x.flat = true ∧ xs.all D.flat = true ∧ k (xs.any fun z => flatEq z x)
      | none => False
@[simp] def cmpK (o : CmpOp) (M : Mm) (x y : D) (k : Bool → Prop) : Prop :=
  match o with
  | .Eq => eqK M x y k
  | .NotEq => eqK M x y fun b => k (!b)
  | .Lt => x.asI fun i => y.asI fun j => k (decide (i < j))
  | .LtE => x.asI fun i => y.asI fun j => k (decide (i ≤ j))
  | .Gt => x.asI fun i => y.asI fun j => k (decide (j < i))
  | .GtE => x.asI fun i => y.asI fun j => k (decide (j ≤ i))
  | .Is => match x, y with
    | .non, .non => k true
    | .glb _, _ => False
    | _, .non => k false
    | _, _ => False
  | .IsNot => match x, y with
    | .non, .non => k false
    | .glb _, _ => False
    | _, .non => k true
    | _, _ => False
  | .In => inK M x y k
  | .NotIn => inK M x y fun b => k (!b)

/-! ### subscripts -/
def cutD (xs : List D) (lo hi : Option Int) : List D := (xs.drop (HT.sIx xs.length 0 lo)).take (HT.sIx xs.length xs.length hi - HT.sIx xs.length 0 lo)
def ixK (M : Mm) (x y : D) (k : D → Prop) : Prop :=
  match x, y with
  | .str z, .int i => match atI z.cps.toList i with
    | some c => k (.str ⟨#[c]⟩)
    | none => False
  | x, y => match dctOf M x, keyOf y with
    | some kvs, some q => optK (kget kvs q) k
    | some _, none => False
    | none, _ => match seqOf M x, y with
      | some xs, .int i => optK (atI xs i) k
      | _, _ => False
def slK (fz : Bool) (M : Mm) (x : D) (lo hi : Option Int) (Q : KD) : Prop :=
  match x with
  | .str z => Q (.str (cutS z lo hi)) M
  | .tup xs => Q (.tup (cutD xs lo hi)) M
  | x => match lstOf M x with
    | some xs => newL fz (cutD xs lo hi) M Q
    | none => False
/-- o[i] = d -/
def setK (M : Mm) (o i d : D) (k : Mm → Prop) : Prop :=
  match o with
  | .ref p => match M p with
    | some (.lst xs) => i.asI fun j => someK (ixN xs.length j) fun n => k (mput M p (.lst (xs.set n d)))
    | some (.dct kvs) => someK (keyOf i) fun q => kvs.length < sizeLine ∧ k (mput M p (.dct (kput kvs q d)))
    | _ => False
  | _ => False

/-! ### built-in functions, methods of built-in types -/
def intsOf : List D → Option (List Int)
  | [] => some []
  | .int i :: r => (intsOf r).map (i :: ·)
  | _ => none
def boolsOf : List D → Option (List Bool)
  | [] => some []
  | .bl i :: r => (boolsOf r).map (i :: ·)
  | _ => none
def strsOf : List D → Option (List Str)
  | [] => some []
  | .str i :: r => (strsOf r).map (i :: ·)
  | _ => none
def lstsOf (M : Mm) : List D → Option (List (List D))
  | [] => some []
  | x :: r => match catOf M x, lstsOf M r with
    | some a, some b => some (a :: b)
    | _, _ => none
def keysI : List (Key × D) → Option (List Int)
  | [] => some []
  | (.inl i, _) :: r => (keysI r).map (i :: ·)
  | _ => none
/-- sorted, by inserting -/
def insI (x : Int) : List Int → List Int
  | [] => [x]
  | y :: r => if x ≤ y then x :: y :: r else y :: insI x r
def sortI : List Int → List Int
  | [] => []
  | x :: r => insI x (sortI r)
def maxL (x : Int) : List Int → Int
  | [] => x
  | y :: r => maxL (if y > x then y else x) r
def minL (x : Int) : List Int → Int
  | [] => x
  | y :: r => minL (if y < x then y else x) r
inductive BI where
  | len | abs | int | str | tuple | list | sum | sum2 | all | any | max | min | max2 | min2 | sorted | repr
  deriving DecidableEq
def BI.name : BI → Str
  | .len => "len" | .abs => "abs" | .int => "int" | .str => "str" | .tuple => "tuple" | .list => "list" | .sum => "sum" | .sum2 => "sum" | .all => "all" | .any => "any"
  | .max => "max" | .min => "min" | .max2 => "max" | .min2 => "min" | .sorted => "sorted" | .repr => "repr"
@[simp] def arg1 (ds : List D) (k : D → Prop) : Prop := match ds with | [x] => k x | _ => False
@[simp] def arg2 (ds : List D) (k : D → D → Prop) : Prop := match ds with | [x, y] => k x y | _ => False
theorem arg1_inv {ds : List D} {k : D → Prop} (h : arg1 ds k) : ∃ x, ds = [x] ∧ k x := by
  match ds, h with
  | [x], h => exact ⟨x, rfl, h⟩
theorem arg2_inv {ds : List D} {k : D → D → Prop} (h : arg2 ds k) : ∃ x y, ds = [x, y] ∧ k x y := by
  match ds, h with
  | [x, y], h => exact ⟨x, y, rfl, h⟩
@[simp] def lenD (x : D) (M : Mm) (Q : KD) : Prop := match x with
  | .str s => Q (.int s.length) M
  | x => match dctOf M x with
    | some kvs => Q (.int kvs.length) M
    | none => someK (seqOf M x) fun xs => Q (.int xs.length) M
@[simp] def intD (x : D) (M : Mm) (Q : KD) : Prop := match x with
  | .int i => Q (.int i) M
  | .bl b => Q (.int (if b then 1 else 0)) M
  | .str s => s.length ≤ 640 ∧ someK (PySem.intText? s) fun n => Q (.int n) M
  | _ => False
def strD (x : D) (M : Mm) (Q : KD) : Prop := match x with
  | .int i => i.natAbs.log2 < 1900 ∧ Q (.str (toString i)) M
  | .str s => Q (.str s) M
  | _ => False
def sum2D (x y : D) (M : Mm) (Q : KD) : Prop := match y with
  | .lst [] => someK (lstOf M x) fun xs => someK (lstsOf M xs) fun ys => ys.flatten.length ≤ sizeLine ∧ Q (.lst ys.flatten) M
  | _ => False
@[simp] def oneInts (x : D) (M : Mm) (k : List Int → Prop) : Prop := someK (lstOf M x) fun xs => someK (intsOf xs) k
@[simp] def oneBools (x : D) (M : Mm) (k : List Bool → Prop) : Prop := someK (lstOf M x) fun xs => someK (boolsOf xs) k
@[simp] def neInts (ns : List Int) (k : Int → List Int → Prop) : Prop := match ns with | n :: r => k n r | [] => False
def sortedD (fz : Bool) (x : D) (M : Mm) (Q : KD) : Prop := match dctOf M x with
  | some kvs => someK (keysI kvs) fun ns => ns.length < 64 ∧ newL fz ((sortI ns).map .int) M Q
  | none => oneInts x M fun ns => newL fz ((sortI ns).map .int) M Q
def reprD (x : D) (M : Mm) (Q : KD) : Prop := (now M x).pok = true ∧ (now M x).smalls = true ∧ (now M x).py.shown.length ≤ sizeLine ∧ Q (.str (now M x).py.shown) M
@[simp] def biD (f : BI) (fz : Bool) (ds : List D) (M : Mm) (Q : KD) : Prop :=
  match f with
  | .len => arg1 ds fun x => lenD x M Q
  | .abs => arg1 ds fun x => x.asI fun i => Q (.int (if i < 0 then -i else i)) M
  | .int => arg1 ds fun x => intD x M Q
  | .str => arg1 ds fun x => strD x M Q
  | .tuple => arg1 ds fun x => someK (seqOf M x) fun xs => Q (.tup xs) M
  | .list => arg1 ds fun x => someK (seqOf M x) fun xs => newL fz xs M Q
  | .sum => arg1 ds fun x => oneInts x M fun ns => Q (.int ns.sum) M
  | .sum2 => arg2 ds fun x y => sum2D x y M Q
  | .all => arg1 ds fun x => oneBools x M fun bs => Q (.bl (bs.all id)) M
  | .any => arg1 ds fun x => oneBools x M fun bs => Q (.bl (bs.any id)) M
  | .max2 => arg2 ds fun x y => x.asI fun i => y.asI fun j => Q (.int (if j > i then j else i)) M
  | .min2 => arg2 ds fun x y => x.asI fun i => y.asI fun j => Q (.int (if j < i then j else i)) M
  | .max => arg1 ds fun x => oneInts x M fun ns => neInts ns fun n r => Q (.int (maxL n r)) M
  | .min => arg1 ds fun x => oneInts x M fun ns => neInts ns fun n r => Q (.int (minL n r)) M
  | .sorted => arg1 ds fun x => sortedD fz x M Q
  | .repr => arg1 ds fun x => reprD x M Q

/-- x[::-1] of a list, of a tuple -/
def revK (fz : Bool) (M : Mm) (u : D) (Q : KD) : Prop := match u with
  | .tup xs => Q (.tup xs.reverse) M
  | u => someK (lstOf M u) fun xs => newL fz xs.reverse M Q
/-- by what they are without sign -/
def absN (i : Int) : Int := if i < 0 then -i else i
def sortA (ns : List Int) : List Int := ns.mergeSort fun a b => decide (absN a ≤ absN b)
inductive BM where
  | append | extend | pop | get | join | split | setdefault
  deriving DecidableEq
def BM.name : BM → Str
  | .append => "append" | .extend => "extend" | .pop => "pop" | .get => "get" | .join => "join" | .split => "split" | .setdefault => "setdefault"
inductive Ty where
  | list | dict | str | tuple
  deriving DecidableEq
def okM : Ty → BM → Bool
  | .list, .append => true
  | .list, .extend => true
  | .list, .pop => true
  | .dict, .get => true
  | .dict, .setdefault => true
  | .str, .join => true
  | .str, .split => true
  | _, _ => false
def tyOf (M : Mm) : D → Option Ty
  | .lst _ => some .list
  | .klst _ => some .list
  | .str _ => some .str
  | .tup _ => some .tuple
  | .ref p => match M p with
    | some (.lst _) => some .list
    | some (.dct _) => some .dict
    | _ => none
  | _ => none
def refOf : D → Option Addr
  | .ref p => some p
  | _ => none
/-- the changeable list at hand -/
def mlst (M : Mm) (o : D) (k : Addr → List D → Prop) : Prop := match o with
  | .ref p => match M p with
    | some (.lst xs) => k p xs
    | _ => False
  | _ => False
theorem mlst_inv {M : Mm} {o : D} {k : Addr → List D → Prop} (h : mlst M o k) : ∃ p xs, o = .ref p ∧ M p = some (.lst xs) ∧ k p xs := by
  cases o with
  | ref p =>
    have h' : (match M p with | some (.lst xs) => k p xs | _ => False) := h
    split at h'
    · rename_i xs e; exact ⟨p, xs, rfl, e, h'⟩
    · exact h'.elim
  | _ => exact (show False from h).elim
/-- the changeable dict at hand -/
def mdct (M : Mm) (o : D) (k : Addr → List (Key × D) → Prop) : Prop := match o with
  | .ref p => match M p with
    | some (.dct xs) => k p xs
    | _ => False
  | _ => False
theorem mdct_inv {M : Mm} {o : D} {k : Addr → List (Key × D) → Prop} (h : mdct M o k) : ∃ p xs, o = .ref p ∧ M p = some (.dct xs) ∧ k p xs := by
  cases o with
  | ref p =>
    have h' : (match M p with | some (.dct xs) => k p xs | _ => False) := h
    split at h'
    · rename_i xs e; exact ⟨p, xs, rfl, e, h'⟩
    · exact h'.elim
  | _ => exact (show False from h).elim
def bmD (ty : Ty) (m : BM) (fz : Bool) (o : D) (ds : List D) (M : Mm) (Q : KD) : Prop :=
  match ty, m, ds with
  | .list, .append, [d] => mlst M o fun p xs => xs.length < sizeLine ∧ Q .non (mput M p (.lst (xs ++ [d])))
  | .list, .extend, [y] => mlst M o fun p xs => someK (catOf M y) fun ys => xs.length + ys.length ≤ sizeLine ∧ Q .non (mput M p (.lst (xs ++ ys)))
  | .list, .pop, [] => mlst M o fun p xs => optK (xs[xs.length - 1]?) fun d => Q d (mput M p (.lst xs.dropLast))
  | .list, .pop, [i] => mlst M o fun p xs => i.asI fun i => someK (ixN xs.length i) fun j => optK xs[j]? fun d => Q d (mput M p (.lst (xs.eraseIdx j)))
  | .dict, .get, [y] => someK (dctOf M o) fun kvs => someK (keyOf y) fun q => Q ((kget kvs q).getD .non) M
  | .dict, .get, [y, z] => someK (dctOf M o) fun kvs => someK (keyOf y) fun q => Q ((kget kvs q).getD z) M
  | .dict, .setdefault, [y, z] => mdct M o fun p kvs => someK (keyOf y) fun q => kvs.length < sizeLine ∧ match kget kvs q with
    | some d => Q d M
    | none => Q z (mput M p (.dct (kput kvs q z)))
  | .str, .join, [x] => match o with
    | .str s => someK (seqOf M x) fun xs => someK (strsOf xs) fun ys => (ys.map (·.length)).sum + ys.length * s.length ≤ 16777216 ∧ (Txt.join s ys).length ≤ sizeLine ∧ Q (.str (Txt.join s ys)) M
    | _ => False
  | .str, .split, [.str b] => match o with
    | .str s => (b.length == 0) = false ∧ s.length + 2 ≤ sizeLine ∧ (∀ y ∈ Txt.split s b, y.length ≤ sizeLine) ∧ newL fz ((Txt.split s b).map .str) M Q
    | _ => False
  | _, _, _ => False
end TL

set_option Elab.async false
set_option linter.all false
set_option maxRecDepth 100000
set_option maxHeartbeats 2000000
/-! The small language and what each piece asks. -/
namespace TL
open PySem PySem.Spec PyProof.Rows L2

/-- a target: a name by its slot, or several -/
inductive Tg where
  | nm (i : Nat)
  | tp (ts : List Tg)
mutual
@[simp] def putT : Tg → D → En → Mm → (En → Prop) → Prop
  | .nm i, d, env, _, k => k (env.set i (some d))
  | .tp ts, d, env, M, k => match d with
    | .tup xs => putTs ts xs env M k
    | _ => False
@[simp] def putTs : List Tg → List D → En → Mm → (En → Prop) → Prop
  | [], [], env, _, k => k env
  | t :: ts, d :: ds, env, M, k => putT t d env M fun env' => putTs ts ds env' M k
  | _, _, _, _, _ => False
end
mutual
@[simp] def Tg.slots : Tg → List Nat
  | .nm i => [i]
  | .tp ts => slotss ts
@[simp] def slotss : List Tg → List Nat
  | [] => []
  | t :: ts => t.slots ++ slotss ts
end
@[simp] def wipeE (env : En) : List Nat → En
  | [] => env
  | i :: is => (wipeE env is).set i none

/-- what is walked: the items; what must stand meanwhile -/
structure Src where
  g : Mm → Prop
  xs : List D
def grd (d : D) (xs : List D) (M : Mm) : Prop := match d with
  | .ref p => M p = some (.lst xs)
  | _ => True
def enumD : Nat → List D → List D
  | _, [] => []
  | n, x :: r => .tup [.int (n : Int), x] :: enumD (n + 1) r
def zipD : List D → List D → List D
  | x :: r, y :: q => .tup [x, y] :: zipD r q
  | _, _ => []
def rangeD (lo : Int) : Nat → List D
  | 0 => []
  | n + 1 => .int lo :: rangeD (lo + 1) n
def rangeC (lo c : Int) : Nat → List D
  | 0 => []
  | n + 1 => .int lo :: rangeC (lo + c) c n

mutual
inductive E where
  | v (i : Nat)
  | c (d : D)
  | g (x : Str) (d : D)
  | bin (o : Operator) (fz : Bool) (a b : E)
  | neg (a : E)
  | not (a : E)
  | cmp (o : CmpOp) (a b : E)
  | chn (o p : CmpOp) (a b c : E)
  | and (es : Es)
  | or (es : Es)
  | ite (t a b : E)
  | tup (es : Es)
  | lst (fz : Bool) (es : Es)
  | ix (a i : E)
  | sl (fz : Bool) (a : E) (lo hi : Eo)
  | rev (fz : Bool) (a : E)
  | bi (f : BI) (fz : Bool) (es : Es)
  | isi (a : E) (T : Str) (cs : List Str)
  | call (f : Str) (c : Contract) (es : Es)
  | callk (f : Str) (c : Contract) (es : Es) (ks : Ks) (pm : List Nat)
  | mk (C : Str) (c : Contract) (es : Es)
  | mkk (C : Str) (c : Contract) (es : Es) (ks : Ks) (pm : List Nat)
  | fld (a : E) (C f : Str)
  | prop (a : E) (C f : Str) (c : Contract)
  | meth (a : E) (C m : Str) (c : Contract) (es : Es)
  | bm (m : BM) (fz : Bool) (a : E) (es : Es)
  | comp (fz : Bool) (t : Tg) (it : It) (cond : Eo) (elt : E)
  | dnew
  | lr1 (fz : Bool) (a : E)
  | lr2 (fz : Bool) (a b : E)
  | lz (fz : Bool) (a b : E)
  | ueq (C : Str) (c : Contract) (a b : E)
  | skabs (fz : Bool) (a : E)
  | lenset (a : E)
inductive Es where
  | nil
  | cons (e : E) (r : Es)
  | star (e : E) (r : Es)
inductive Ks where
  | nil
  | cons (k : Str) (e : E) (r : Ks)
inductive Eo where
  | none
  | some (e : E)
inductive It where
  | seq (e : E)
  | rng1 (a : E)
  | rng2 (a b : E)
  | enum (a : E)
  | zip (a b : E)
end

@[simp] def esLen : Es → Nat
  | .nil => 0
  | .cons _ r => esLen r + 1
  | .star _ r => esLen r + 1
def esNil : Es → Bool
  | .nil => true
  | _ => false
@[simp] def ksNames : Ks → List Str
  | .nil => []
  | .cons k _ r => k :: ksNames r
/-- the comprehension's list, turn by turn -/
def compGo (step : D → List D → Mm → (List D → Mm → Prop) → Prop) (g : Mm → Prop) : List D → List D → Mm → (List D → Mm → Prop) → Prop
  | [], acc, M, Q => g M ∧ Q acc M
  | x :: r, acc, M, Q => g M ∧ step x acc M fun acc' M' => compGo step g r acc' M' Q
def noX : XD := fun _ _ _ => False
@[simp] def optI : Option D → (Option Int → Prop) → Prop
  | none, k => k none
  | some (.int i), k => k (some i)
  | _, _ => False
def isiB (T : Str) (t : String) : Bool := T == Str.ofString t || (t == "bool" && T == ("int" : Str))
/-- isinstance(d, T): T a built-in class, or an own one without classes below it -/
@[simp] def isiK (M : Mm) (d : D) (T : Str) (cs : List Str) (k : Bool → Prop) : Prop :=
  match d with
  | .non => k (isiB T "NoneType")
  | .bl _ => k (isiB T "bool")
  | .int _ => k (isiB T "int")
  | .str _ => k (isiB T "str")
  | .flt _ => k (isiB T "float")
  | .tup _ => k (isiB T "tuple")
  | .lst _ => k (isiB T "list")
  | .klst _ => k (isiB T "list")
  | .ref p => match M p with
    | some (.lst _) => k (isiB T "list")
    | some (.dct _) => k (isiB T "dict")
    | some (.ins c _) => c ∈ cs ∧ k (decide (c = T))
    | none => False
  | .glb _ => False
/-- an instance of the class -/
def insK (M : Mm) (d : D) (C : Str) (k : Addr → List (Str × D) → Prop) : Prop :=
  match d with
  | .ref p => match M p with
    | some (.ins c fs) => c = C ∧ k p fs
    | _ => False
  | _ => False
/-- what an own == may stand against here: a tuple, or an instance of the class -/
def ueqOk (M : Mm) (v : D) (C : Str) : Prop := match v with
  | .tup _ => True
  | .ref p => match M p with
    | some (.ins c _) => c = C
    | _ => False
  | _ => False
theorem insK_inv {M : Mm} {d : D} {C : Str} {k : Addr → List (Str × D) → Prop} (h : insK M d C k) : ∃ p fs, d = .ref p ∧ M p = some (.ins C fs) ∧ k p fs := by
  cases d with
  | ref p =>
    have h' : (match M p with | some (.ins c fs) => c = C ∧ k p fs | _ => False) := h
    split at h'
    · rename_i c fs e; obtain ⟨rfl, h'⟩ := h'; exact ⟨p, fs, rfl, e, h'⟩
    · exact h'.elim
  | _ => exact (show False from h).elim
def fldK (M : Mm) (d : D) (C f : Str) (k : D → Prop) : Prop := insK M d C fun _ fs => optK (fs.lookup f) k
def rgOk (a b : Int) : Prop := -(2 ^ 62) ≤ a ∧ a < 2 ^ 62 ∧ -(2 ^ 62) ≤ b ∧ b < 2 ^ 62 ∧ (b - a).toNat ≤ 2 ^ 24
@[simp] def varK (env : En) (i : Nat) (k : D → Prop) : Prop := match env[i]? with
  | some (some d) => k d
  | _ => False
/-- what is walked by a for -/
def itK (M : Mm) (d : D) (k : Src → Prop) : Prop := match d with
  | .str s => k ⟨fun _ => True, s.cps.toList.map fun c => .str ⟨#[c]⟩⟩
  | d => someK (seqOf M d) fun xs => k ⟨grd d xs, xs⟩
def zipK (M : Mm) (u v : D) (k : Src → Prop) : Prop := match u, v with
  | .tup xs, .tup ys => k ⟨fun _ => True, zipD xs ys⟩
  | u, v => someK (lstOf M u) fun xs => someK (lstOf M v) fun ys => k ⟨fun M => grd u xs M ∧ grd v ys M, zipD xs ys⟩
@[simp] def permD (ds : List D) (pm : List Nat) : List D := pm.map fun i => ds.getD i .non
/-- a new instance, then its __init__ -/
def mkC (C : Str) (c : Contract) (ds : List D) (M : Mm) (x : XD) (Q : KD) : Prop :=
  ∀ p, M p = none → c (.ref p :: ds) (mput M p (.ins C [])) x fun d M' => d = .non ∧ Q (.ref p) M'

mutual
@[simp] def wpE : E → XD → En → Mm → KD → Prop
  | .v i, _, env, M, Q => varK env i fun d => Q d M
  | .c d, _, _, M, Q => Q d M
  | .g _ d, _, _, M, Q => Q d M
  | .bin o fz a b, x, env, M, Q => wpE a x env M fun u M1 => wpE b x env M1 fun v M2 => binD o fz u v M2 Q
  | .neg a, x, env, M, Q => wpE a x env M fun u M1 => u.asI fun i => Q (.int (-i)) M1
  | .not a, x, env, M, Q => wpE a x env M fun u M1 => u.asB fun b => Q (.bl (!b)) M1
  | .cmp o a b, x, env, M, Q => wpE a x env M fun u M1 => wpE b x env M1 fun v M2 => cmpK o M2 u v fun r => Q (.bl r) M2
  | .chn o p a b c, x, env, M, Q => wpE a x env M fun u M1 => wpE b x env M1 fun v M2 => cmpK o M2 u v fun r =>
      if r = true then wpE c x env M2 fun w M3 => cmpK p M3 v w fun r => Q (.bl r) M3 else Q (.bl false) M2
  | .and es, x, env, M, Q => wpAnd es x env M Q
  | .or es, x, env, M, Q => wpOr es x env M Q
  | .ite t a b, x, env, M, Q => wpE t x env M fun u M1 => u.asB fun r => if r = true then wpE a x env M1 Q else wpE b x env M1 Q
  | .tup es, x, env, M, Q => wpEs es x env M fun ds M1 => ds.length ≤ sizeLine ∧ Q (.tup ds) M1
  | .lst fz es, x, env, M, Q => wpEs es x env M fun ds M1 => ds.length ≤ sizeLine ∧ newL fz ds M1 Q
  | .ix a i, x, env, M, Q => wpE a x env M fun u M1 => wpE i x env M1 fun v M2 => ixK M2 u v fun d => Q d M2
  | .sl fz a lo hi, x, env, M, Q => wpE a x env M fun u M1 => wpEo lo x env M1 fun l M2 => optI l fun l => wpEo hi x env M2 fun h M3 => optI h fun h => slK fz M3 u l h Q
  | .rev fz a, x, env, M, Q => wpE a x env M fun u M1 => revK fz M1 u Q
  | .bi f fz es, x, env, M, Q => wpEs es x env M fun ds M1 => biD f fz ds M1 Q
  | .isi a T cs, x, env, M, Q => wpE a x env M fun u M1 => isiK M1 u T cs fun r => Q (.bl r) M1
  | .call _ c es, x, env, M, Q => wpEs es x env M fun ds M1 => c ds M1 x Q
  | .callk _ c es ks pm, x, env, M, Q => wpEs es x env M fun ds M1 => wpKs ks x env M1 fun vs M2 => ds.length = esLen es ∧ vs.length = (ksNames ks).length ∧ c (permD (ds ++ vs) pm) M2 x Q
  | .mk C c es, x, env, M, Q => wpEs es x env M fun ds M1 => mkC C c ds M1 x Q
  | .mkk C c es ks pm, x, env, M, Q => wpEs es x env M fun ds M1 => wpKs ks x env M1 fun vs M2 => ds.length = esLen es ∧ vs.length = (ksNames ks).length ∧ mkC C c (permD (ds ++ vs) pm) M2 x Q
  | .fld a C f, x, env, M, Q => wpE a x env M fun u M1 => fldK M1 u C f fun d => Q d M1
  | .prop a C _ c, x, env, M, Q => wpE a x env M fun u M1 => insK M1 u C fun _ _ => c [u] M1 noX Q
  | .meth a C m c es, x, env, M, Q => wpE a x env M fun u M1 => insK M1 u C fun _ fs => fs.lookup m = none ∧ wpEs es x env M1 fun ds M2 => c (u :: ds) M2 x Q
  | .bm m fz a es, x, env, M, Q => wpE a x env M fun u M1 => someK (tyOf M1 u) fun ty => okM ty m = true ∧ wpEs es x env M1 fun ds M2 => bmD ty m fz u ds M2 Q
  | .comp fz t it cond elt, x, env, M, Q => wpIt it x env M fun src M1 => src.xs.length ≤ sizeLine ∧
      compGo (fun d acc M k => putT t d (wipeE env t.slots) M fun env1 => wpCd cond noX env1 M fun r M2 => if r = true then wpE elt noX env1 M2 fun y M3 => k (acc ++ [y]) M3 else k acc M2)
        src.g src.xs [] M1 fun acc M2 => newL fz acc M2 Q
  | .dnew, _, _, M, Q => ∀ p, M p = none → Q (.ref p) (mput M p (.dct []))
  | .lr1 fz a, x, env, M, Q => wpE a x env M fun u M1 => u.asI fun n => rgOk 0 n ∧ newL fz (rangeD 0 n.toNat) M1 Q
  | .lr2 fz a b, x, env, M, Q => wpE a x env M fun u M1 => wpE b x env M1 fun v M2 => u.asI fun l => v.asI fun h => rgOk l h ∧ newL fz (rangeD l (h - l).toNat) M2 Q
  | .lz fz a b, x, env, M, Q => wpE a x env M fun u M1 => wpE b x env M1 fun v M2 => someK (lstOf M2 u) fun xs => someK (lstOf M2 v) fun ys => (zipD xs ys).length ≤ sizeLine ∧ newL fz (zipD xs ys) M2 Q
  | .ueq C c a b, x, env, M, Q => wpE a x env M fun u M1 => wpE b x env M1 fun v M2 => insK M2 u C fun _ _ => ueqOk M2 v C ∧ c [u, v] M2 noX fun d M' => d.asB fun r => Q (.bl r) M'
  | .skabs fz a, x, env, M, Q => wpE a x env M fun u M1 => oneInts u M1 fun ns => newL fz ((sortA ns).map .int) M1 Q
  | .lenset a, x, env, M, Q => wpE a x env M fun u M1 => oneInts u M1 fun ns => ns.Nodup ∧ ns.length ≤ 4000 ∧ Q (.int ns.length) M1
@[simp] def wpEs : Es → XD → En → Mm → (List D → Mm → Prop) → Prop
  | .nil, _, _, M, Q => Q [] M
  | .cons e r, x, env, M, Q => wpE e x env M fun d M1 => wpEs r x env M1 fun ds M2 => Q (d :: ds) M2
  | .star e r, x, env, M, Q => wpE e x env M fun d M1 => someK (seqOf M1 d) fun xs => wpEs r x env M1 fun ds M2 => Q (xs ++ ds) M2
@[simp] def wpAnd : Es → XD → En → Mm → KD → Prop
  | .cons e .nil, x, env, M, Q => wpE e x env M fun u M1 => u.asB fun b => Q (.bl b) M1
  | .cons e r, x, env, M, Q => wpE e x env M fun u M1 => u.asB fun b => if b = true then wpAnd r x env M1 Q else Q (.bl false) M1
  | _, _, _, _, _ => False
@[simp] def wpOr : Es → XD → En → Mm → KD → Prop
  | .cons e .nil, x, env, M, Q => wpE e x env M fun u M1 => u.asB fun b => Q (.bl b) M1
  | .cons e r, x, env, M, Q => wpE e x env M fun u M1 => u.asB fun b => if b = true then Q (.bl true) M1 else wpOr r x env M1 Q
  | _, _, _, _, _ => False
@[simp] def wpKs : Ks → XD → En → Mm → (List D → Mm → Prop) → Prop
  | .nil, _, _, M, Q => Q [] M
  | .cons _ e r, x, env, M, Q => wpE e x env M fun d M1 => wpKs r x env M1 fun ds M2 => Q (d :: ds) M2
@[simp] def wpEo : Eo → XD → En → Mm → (Option D → Mm → Prop) → Prop
  | .none, _, _, M, Q => Q none M
  | .some e, x, env, M, Q => wpE e x env M fun d M1 => Q (some d) M1
@[simp] def wpCd : Eo → XD → En → Mm → (Bool → Mm → Prop) → Prop
  | .none, _, _, M, Q => Q true M
  | .some e, x, env, M, Q => wpE e x env M fun d M1 => d.asB fun b => Q b M1
@[simp] def wpIt : It → XD → En → Mm → (Src → Mm → Prop) → Prop
  | .seq e, x, env, M, Q => wpE e x env M fun d M1 => itK M1 d fun src => Q src M1
  | .rng1 a, x, env, M, Q => wpE a x env M fun u M1 => u.asI fun n => -(2 ^ 62) ≤ n ∧ n < 2 ^ 62 ∧ Q ⟨fun _ => True, rangeD 0 n.toNat⟩ M1
  | .rng2 a b, x, env, M, Q => wpE a x env M fun u M1 => wpE b x env M1 fun v M2 => u.asI fun l => v.asI fun h => -(2 ^ 62) ≤ l ∧ l < 2 ^ 62 ∧ -(2 ^ 62) ≤ h ∧ h < 2 ^ 62 ∧ Q ⟨fun _ => True, rangeD l (h - l).toNat⟩ M2
  | .enum a, x, env, M, Q => wpE a x env M fun u M1 => someK (seqOf M1 u) fun xs => Q ⟨grd u xs, enumD 0 xs⟩ M1
  | .zip a b, x, env, M, Q => wpE a x env M fun u M1 => wpE b x env M1 fun v M2 => zipK M2 u v fun src => Q src M2
end

/-! ### statements -/
inductive S where
  | asg (t : Tg) (e : E)
  | par (is : List Nat) (es : Es)
  | fld (o : E) (C f : Str) (e : E)
  | sub (o i e : E)
  | ex (e : E)
  | ret (e : Eo)
  | ite (t : E) (a b : List S)
  | whl (t : E) (a : List S)
  | for_ (t : Tg) (it : It) (a : List S)
  | pass | brk | cont
  | never
  | raise_ (C : Str) (e : E)

def forGo (body : D → En → Mm → (En → Mm → Prop) → Prop) (g : Mm → Prop) (nx : En → Mm → Prop) : List D → En → Mm → Prop
  | [], env, M => g M ∧ nx env M
  | x :: r, env, M => g M ∧ body x env M fun env' M' => forGo body g nx r env' M'
@[simp] def parE (is : List Nat) (ds : List D) (env : En) : En := (is.zip ds).foldl (fun env p => env.set p.1 (some p.2)) env
/-- o.f = d -/
def putF' (f : Str) (v : D) : List (Str × D) → List (Str × D)
  | [] => [(f, v)]
  | (g, x) :: r => if g = f then (g, v) :: r else (g, x) :: putF' f v r
def sfK (M : Mm) (o : D) (C f : Str) (d : D) (k : Mm → Prop) : Prop := insK M o C fun p fs => fs.length < 1000 ∧ k (mput M p (.ins C (putF' f d fs)))

mutual
@[simp] def wpS : S → Fin → En → Mm → Prop
  | .asg t e, D, env, M => wpE e (D.ex env) env M fun d M1 => putT t d env M1 fun env1 => D.nx env1 M1
  | .par is es, D, env, M => wpEs es (D.ex env) env M fun ds M1 => ds.length = is.length ∧ D.nx (parE is ds env) M1
  | .fld o C f e, D, env, M => wpE e (D.ex env) env M fun d M1 => wpE o (D.ex env) env M1 fun u M2 => sfK M2 u C f d fun M3 => D.nx env M3
  | .sub o i e, D, env, M => wpE e (D.ex env) env M fun d M1 => wpE o (D.ex env) env M1 fun u M2 => wpE i (D.ex env) env M2 fun v M3 => setK M3 u v d fun M4 => D.nx env M4
  | .ex e, D, env, M => wpE e (D.ex env) env M fun _ M1 => D.nx env M1
  | .ret .none, D, _, M => D.rt .non M
  | .ret (.some e), D, env, M => wpE e (D.ex env) env M D.rt
  | .ite t a b, D, env, M => wpE t (D.ex env) env M fun u M1 => u.asB fun r => if r = true then wpSs a D env M1 else wpSs b D env M1
  | .whl t a, D, env, M => ∃ W : Nat → En → Mm → Prop, (∃ m, W m env M) ∧ ∀ m env M, W m env M → wpE t (D.ex env) env M fun u M1 => u.asB fun r =>
      if r = true then wpSs a { D with nx := fun env M => ∃ m', m' < m ∧ W m' env M, ct := fun env M => ∃ m', m' < m ∧ W m' env M, bk := D.nx } env M1 else D.nx env M1
  | .for_ t it a, D, env, M => wpIt it (D.ex env) env M fun src M1 =>
      forGo (fun d env M k => putT t d env M fun env1 => wpSs a { D with nx := k, ct := k, bk := D.nx } env1 M) src.g D.nx src.xs env M1
  | .pass, D, env, M => D.nx env M
  | .brk, D, env, M => D.bk env M
  | .cont, D, env, M => D.ct env M
  | .never, _, _, _ => False
  | .raise_ C e, D, env, M => wpE e (D.ex env) env M fun d M1 => D.ex env C d M1
@[simp] def wpSs : List S → Fin → En → Mm → Prop
  | [], D, env, M => D.nx env M
  | s :: r, D, env, M => wpS s { D with nx := fun env M => wpSs r D env M } env M
end
end TL

set_option Elab.async false
set_option linter.all false
set_option maxRecDepth 100000
set_option maxHeartbeats 2000000
/-! What is asked of trees, as HandS reads it. -/
namespace TL
open PySem PySem.Spec PyProof.Rows L2

/-- a def's entry; what is wanted of exceptions -/
structure Bnd where
  t0 : Sta
  ex : En → XD
structure COk (W : Wd) (k : Nat) (X : Cx) : Prop where
  P : X.prog = W.P
  w : X.w = W.w
  K : X.K = W.K
  mg : X.mg = W.mg
  base : X.base = W.base
  room : Room k X.A
  gd : X.A.guards = some []
  calm : X.calm = true
  nd : X.N.Nodup
theorem COk.hu {W : Wd} {k : Nat} {X : Cx} (c : COk W k X) : X.A.units + 64 < cLine := c.room.units
theorem COk.hu1 {W : Wd} {k : Nat} {X : Cx} (c : COk W k X) : X.A.units + 1 < cLine := by have := c.room.units; omega

def REnv (W : Wd) (t : Sta) (env : En) (σ : L2.St) : Prop :=
  env.length = σ.length ∧ ∀ (i : Nat) (d : D), env[i]? = some (some d) → ∃ v : V, σ[i]? = some (some v) ∧ Rep W t d v
theorem REnv.ext {W : Wd} {t t' : Sta} {env : En} {σ : L2.St} (h : REnv W t env σ) (e : Fst t t') : REnv W t' env σ :=
  ⟨h.1, fun i d q => let ⟨v, h1, h2⟩ := h.2 i d q; ⟨v, h1, h2.ext e⟩⟩
theorem REnv.set {W : Wd} {t : Sta} {env : En} {σ : L2.St} {d : D} {v : V} (h : REnv W t env σ) (i : Nat) (r : Rep W t d v) : REnv W t (env.set i (some d)) (σ.set i (some v)) := by
  refine ⟨by simpa using h.1, fun j x q => ?_⟩
  by_cases e : i = j
  · subst e
    have hi : i < env.length := by
      by_cases hi : i < env.length
      · exact hi
      · rw [List.getElem?_eq_none (by simpa using hi)] at q; cases q
    rw [List.getElem?_set_self hi] at q; cases q
    exact ⟨v, by rw [List.getElem?_set_self (by rw [← h.1]; exact hi)], r⟩
  · rw [List.getElem?_set_ne e] at q
    obtain ⟨u, h1, h2⟩ := h.2 j x q
    exact ⟨u, by rw [List.getElem?_set_ne e]; exact h1, h2⟩
theorem REnv.wipe {W : Wd} {t : Sta} {env : En} {σ : L2.St} (h : REnv W t env σ) : ∀ is : List Nat, REnv W t (wipeE env is) (wipe σ is)
  | [] => h
  | i :: is => by
    have ih := REnv.wipe h is
    unfold wipeE L2.wipe
    refine ⟨by simpa using ih.1, fun j x q => ?_⟩
    by_cases e : i = j
    · subst e
      by_cases hi : i < (wipeE env is).length
      · rw [List.getElem?_set_self hi] at q; cases q
      · rw [List.getElem?_eq_none (by simpa using hi)] at q; cases q
    · rw [List.getElem?_set_ne e] at q
      obtain ⟨u, h1, h2⟩ := ih.2 j x q
      exact ⟨u, by rw [List.getElem?_set_ne e]; exact h1, h2⟩

/-- an exception of the program's own -/
def XRep (W : Wd) (t : Sta) (n : Str) (d : D) (cls : Value) (dd : Option Addr) : Prop :=
  ∃ C d0 v, W.mg n = some (.ref C) ∧ cls = .ref C ∧ dd = some d0 ∧ t.H d0 = some (.xd [(("value" : Str), v)]) ∧ Rep W t d v
def wX (W : Wd) (B : Bnd) : WX := fun cls dd σ H => ∃ env t n d, t.H = H ∧ Ext B.t0 t ∧ Good W t ∧ REnv W t env σ ∧ XRep W t n d cls dd ∧ B.ex env n d t.M

/-- the continuation: any later state that holds it -/
abbrev Lat (W : Wd) (t : Sta) (Qp : KD) (Q : VK) : Prop := ∀ d v t', Ext t t' → Good W t' → Rep W t' d v → Qp d t'.M → Q v t'.H
def tE (W : Wd) (B : Bnd) (p : XD → En → Mm → KD → Prop) : TE := fun σ H Q => ∃ env t Qp, t.H = H ∧ Ext B.t0 t ∧ Good W t ∧ REnv W t env σ ∧ p (B.ex env) env t.M Qp ∧ Lat W t Qp Q
def tA (W : Wd) (B : Bnd) (p : XD → En → Mm → (List D → Mm → Prop) → Prop) : TA := fun σ H Q => ∃ env t Qp, t.H = H ∧ Ext B.t0 t ∧ Good W t ∧ REnv W t env σ ∧ p (B.ex env) env t.M Qp ∧
  ∀ ds vs t', Ext t t' → Good W t' → Reps W t' ds vs → Qp ds t'.M → Q vs t'.H
/-- a test: the value's own truth, a bool -/
def tB' (W : Wd) (B : Bnd) (p : XD → En → Mm → KD → Prop) : TT := fun σ H Q => ∃ (env : En) (t : Sta) (Qp : Bool → Mm → Prop), t.H = H ∧ Ext B.t0 t ∧ Good W t ∧ REnv W t env σ ∧ p (B.ex env) env t.M (fun d M => d.asB fun b => Qp b M) ∧
  ∀ b t', Ext t t' → Good W t' → Qp b t'.M → Q b t'.H

/-! operations by values -/
def l2 (W : Wd) (q : D → D → Mm → KD → Prop) : R2 := fun x y H Q => ∃ dx dy t Qp, t.H = H ∧ Good W t ∧ Rep W t dx x ∧ Rep W t dy y ∧ q dx dy t.M Qp ∧ Lat W t Qp Q
def l1 (W : Wd) (q : D → Mm → KD → Prop) : V → Hp → VK → Prop := fun x H Q => ∃ dx t Qp, t.H = H ∧ Good W t ∧ Rep W t dx x ∧ q dx t.M Qp ∧ Lat W t Qp Q
def lL (W : Wd) (q : List D → Mm → KD → Prop) : List V → Hp → VK → Prop := fun xs H Q => ∃ ds t Qp, t.H = H ∧ Good W t ∧ Reps W t ds xs ∧ q ds t.M Qp ∧ Lat W t Qp Q
def lM (W : Wd) (q : D → List D → Mm → KD → Prop) : V → List V → Hp → VK → Prop := fun x xs H Q => ∃ dx ds t Qp, t.H = H ∧ Good W t ∧ Rep W t dx x ∧ Reps W t ds xs ∧ q dx ds t.M Qp ∧ Lat W t Qp Q

theorem _root_.L2.PE.imp {X : Cx} {e : Expr} {t t' : TE} (h : PE X e t) (i : ∀ σ H Q, t' σ H Q → t σ H Q) : PE X e t' := ⟨fun pins s σ H Q I q => h.run pins s σ H Q I (i σ H Q q)⟩
theorem _root_.L2.PT.imp {X : Cx} {e : Expr} {t t' : TT} (h : PT X e t) (i : ∀ σ H Q, t' σ H Q → t σ H Q) : PT X e t' := ⟨fun pins s σ H Q I q => h.run pins s σ H Q I (i σ H Q q)⟩
theorem _root_.L2.PW.imp {X : Cx} {e : Expr} {t t' : TT} (h : PW X e t) (i : ∀ σ H Q, t' σ H Q → t σ H Q) : PW X e t' := ⟨fun wh pins s σ H Q I q => h.run wh pins s σ H Q I (i σ H Q q)⟩
theorem _root_.L2.PA.imp {X : Cx} {e : List Expr} {t t' : TA} (h : PA X e t) (i : ∀ σ H Q, t' σ H Q → t σ H Q) : PA X e t' := ⟨fun pos pins s σ H Q I q => h.run pos pins s σ H Q I (i σ H Q q)⟩
theorem _root_.L2.PS.imp {X : Cx} {e : Stmt} {t t' : TS} (h : PS X e t) (i : ∀ D σ H, t' D σ H → t D σ H) : PS X e t' := ⟨fun pins s σ H Q I q => h.run pins s σ H Q I (i Q σ H q)⟩
theorem _root_.L2.PSs.imp {X : Cx} {e : List Stmt} {t t' : TS} (h : PSs X e t) (i : ∀ D σ H, t' D σ H → t D σ H) : PSs X e t' := ⟨fun pins s σ H Q I q => h.run pins s σ H Q I (i Q σ H q)⟩

section
variable {W : Wd} {B : Bnd}
/-- one reading, then what follows it -/
theorem tE_bind {p : XD → En → Mm → KD → Prop} {σ : L2.St} {H : Hp} {Q : VK} {env : En} {t : Sta} {Qp : KD} (hH : t.H = H) (he : Ext B.t0 t) (g : Good W t) (r : REnv W t env σ) (h : p (B.ex env) env t.M Qp)
    (k : ∀ d v t', Ext t t' → Ext B.t0 t' → Good W t' → REnv W t' env σ → Rep W t' d v → Qp d t'.M → Q v t'.H) : tE W B p σ H Q :=
  ⟨env, t, Qp, hH, he, g, r, h, fun d v t' e g' rd q => k d v t' e (he.trans e) g' (r.ext (e.fst g)) rd q⟩
theorem tA_bind {p : XD → En → Mm → (List D → Mm → Prop) → Prop} {σ : L2.St} {H : Hp} {Q : List V → Hp → Prop} {env : En} {t : Sta} {Qp : List D → Mm → Prop} (hH : t.H = H) (he : Ext B.t0 t) (g : Good W t) (r : REnv W t env σ) (h : p (B.ex env) env t.M Qp)
    (k : ∀ ds vs t', Ext t t' → Ext B.t0 t' → Good W t' → REnv W t' env σ → Reps W t' ds vs → Qp ds t'.M → Q vs t'.H) : tA W B p σ H Q :=
  ⟨env, t, Qp, hH, he, g, r, h, fun d v t' e g' rd q => k d v t' e (he.trans e) g' (r.ext (e.fst g)) rd q⟩
/-- two operands, one operation -/
theorem tE_two {p q : XD → En → Mm → KD → Prop} {f : D → D → Mm → KD → Prop} {σ : L2.St} {H : Hp} {Q : VK}
    (h : tE W B (fun x env M Q => p x env M fun u M1 => q x env M1 fun v M2 => f u v M2 Q) σ H Q) : tOp (l2 W f) (tE W B p) (tE W B q) σ H Q := by
  obtain ⟨env, t, Qp, rfl, he, g, r, h, l⟩ := h
  refine tE_bind rfl he g r h fun d v t1 e1 he1 g1 r1 rd h1 => tE_bind rfl he1 g1 r1 h1 fun d2 v2 t2 e2 he2 g2 r2 rd2 h2 => ?_
  exact ⟨d, d2, t2, Qp, rfl, g2, rd.ext (e2.fst g1), rd2, h2, fun d3 v3 t3 e3 g3 rd3 q3 => l d3 v3 t3 (e1.trans (e2.trans e3)) g3 rd3 q3⟩
theorem tE_one {p : XD → En → Mm → KD → Prop} {f : D → Mm → KD → Prop} {σ : L2.St} {H : Hp} {Q : VK}
    (h : tE W B (fun x env M Q => p x env M fun u M1 => f u M1 Q) σ H Q) : tUn (l1 W f) (tE W B p) σ H Q := by
  obtain ⟨env, t, Qp, rfl, he, g, r, h, l⟩ := h
  refine tE_bind rfl he g r h fun d v t1 e1 he1 g1 r1 rd h1 => ?_
  exact ⟨d, t1, Qp, rfl, g1, rd, h1, fun d3 v3 t3 e3 g3 rd3 q3 => l d3 v3 t3 (e1.trans e3) g3 rd3 q3⟩
/-- .. of arguments -/
theorem tE_args {p : XD → En → Mm → (List D → Mm → Prop) → Prop} {f : List D → Mm → KD → Prop} {σ : L2.St} {H : Hp} {Q : VK}
    (h : tE W B (fun x env M Q => p x env M fun u M1 => f u M1 Q) σ H Q) : tCB (lL W f) (tA W B p) σ H Q := by
  obtain ⟨env, t, Qp, rfl, he, g, r, h, l⟩ := h
  refine tA_bind rfl he g r h fun d v t1 e1 he1 g1 r1 rd h1 => ?_
  exact ⟨d, t1, Qp, rfl, g1, rd, h1, fun d3 v3 t3 e3 g3 rd3 q3 => l d3 v3 t3 (e1.trans e3) g3 rd3 q3⟩
end
end TL

set_option Elab.async false
set_option linter.all false
set_option maxRecDepth 100000
set_option maxHeartbeats 4000000
/-! Operations by values keep what they ask. -/
namespace TL
open PySem PySem.Spec PyProof.Rows L2

section
variable {W : Wd} {k : Nat} {X : Cx}
/-- an answer that makes nothing -/
theorem lat0 {t : Sta} {Qp : KD} {Q : VK} {d : D} {v : V} (g : Good W t) (l : Lat W t Qp Q) (r : Rep W t d v) (q : Qp d t.M) : Q v t.H := l d v t Ext.refl g r q
theorem latI {t : Sta} {Qp : KD} {Q : VK} {i : Int} (g : Good W t) (l : Lat W t Qp Q) (q : Qp (.int i) t.M) : Q (.int i) t.H := lat0 g l (by simp only [Rep]) q
theorem latB {t : Sta} {Qp : KD} {Q : VK} {b : Bool} (g : Good W t) (l : Lat W t Qp Q) (q : Qp (.bl b) t.M) : Q (.bl b) t.H := lat0 g l (by simp only [Rep]) q
theorem latS {t : Sta} {Qp : KD} {Q : VK} {s : Str} (g : Good W t) (l : Lat W t Qp Q) (hz : s.length ≤ sizeLine) (q : Qp (.str s) t.M) : Q (.str s) t.H := lat0 g l (by simp only [Rep]; exact ⟨trivial, hz⟩) q
theorem newL_use {fz : Bool} {xs : List D} {vs : List V} {t : Sta} {Qp : KD} {Q : VK} {p : Addr} (g : Good W t) (l : Lat W t Qp Q) (h : newL fz xs t.M Qp) (n : t.H p = none) (hl : vs.length ≤ sizeLine) (r : Reps W t xs vs) : Q (.ref p) (upd t.H p (.lst vs)) := by
  unfold newL at h
  cases fz with
  | true =>
    rw [if_pos rfl] at h
    exact l _ _ _ (Ext.add n) (g.add n) (Rep.newLst n hl r) h
  | false =>
    rw [if_neg (by decide)] at h
    exact l _ _ _ (Ext.newM n) (g.newM n (POk.newLst n hl r)) Rep.ref (h p (g.fresh n))
theorem newT_use {xs : List D} {vs : List V} {t : Sta} {Qp : KD} {Q : VK} {p : Addr} (g : Good W t) (l : Lat W t Qp Q) (h : Qp (.tup xs) t.M) (n : t.H p = none) (hl : vs.length ≤ sizeLine) (r : Reps W t xs vs) : Q (.ref p) (upd t.H p (.tup vs)) :=
  l _ _ _ (Ext.add n) (g.add n) (Rep.newTup n hl r) h
theorem repI {t : Sta} {i : Int} {v : V} (h : Rep W t (.int i) v) : v = .int i := by simpa only [Rep] using h
theorem repB {t : Sta} {i : Bool} {v : V} (h : Rep W t (.bl i) v) : v = .bl i := by simpa only [Rep] using h
theorem repS {t : Sta} {i : Str} {v : V} (h : Rep W t (.str i) v) : v = .str i ∧ i.length ≤ sizeLine := by simpa only [Rep] using h
theorem repN {t : Sta} {v : V} (h : Rep W t .non v) : v = .non := by simpa only [Rep] using h
theorem repR {t : Sta} {a : Addr} {v : V} (h : Rep W t (.ref a) v) : v = .ref a := by simpa only [Rep] using h

/-! ### + and the rest -/
theorem op_addD (c : COk W k X) (fz : Bool) : OpR X (binaryOp .Add) (l2 W (opAdd fz)) := by
  intro pins s σ H x y v u Q I rx ry h
  obtain ⟨dx, dy, t, Qp, rfl, g, hx, hy, q, l⟩ := h
  have lists : ∀ a b, catOf t.M dx = some a → catOf t.M dy = some b → a.length + b.length ≤ sizeLine → newL fz (a ++ b) t.M Qp → wpAny (model X.prog X.w) X.A (binaryOp .Add v u) (EP X pins σ Q) X.xe s := by
    intro a b ea eb hl hn
    obtain ⟨p1, vs1, rfl, h1, z1, r1⟩ := catOf_at g hx ea
    obtain ⟨p2, vs2, rfl, h2, z2, r2⟩ := catOf_at g hy eb
    refine op_cat pins s σ t.H _ _ v u Q I rx ry ⟨p1, p2, vs1, vs2, rfl, rfl, h1, h2, ?_, fun p n => ?_⟩
    · rw [r1.length, r2.length]; exact hl
    · exact newL_use g l hn n (by rw [List.length_append, r1.length, r2.length]; exact hl) (r1.append r2)
  have gen : (match catOf t.M dx, catOf t.M dy with | some a, some b => a.length + b.length ≤ sizeLine ∧ newL fz (a ++ b) t.M Qp | _, _ => False) → wpAny (model X.prog X.w) X.A (binaryOp .Add v u) (EP X pins σ Q) X.xe s := by
    intro h
    split at h
    · rename_i a b ea eb; exact lists a b ea eb h.1 h.2
    · exact h.elim
  unfold opAdd at q
  split at q
  · have := repI hx; subst this; have := repI hy; subst this
    exact op_add pins s σ t.H _ _ v u Q I rx ry ⟨_, _, rfl, rfl, latI g l q⟩
  · obtain ⟨rfl, z1⟩ := repS hx; obtain ⟨rfl, z2⟩ := repS hy
    refine op_add_str pins s σ t.H _ _ v u Q I rx ry ⟨_, _, rfl, rfl, q.1, latS g l ?_ q.2⟩
    rw [PySem.strLen_append]; exact q.1
  · rename_i a b
    obtain ⟨p1, vs1, rfl, h1, z1, r1⟩ := tupAt hx
    obtain ⟨p2, vs2, rfl, h2, z2, r2⟩ := tupAt hy
    refine op_catA pins s σ t.H _ _ v u Q I rx ry ⟨p1, p2, vs1, vs2, rfl, rfl, by rw [c.K]; exact h1, by rw [c.K]; exact h2, ?_, fun e => ?_, fun e e2 => ?_, fun e e2 p n => ?_⟩
    · rw [r1.length, r2.length]; exact q.1
    · have e' : a = [] := List.eq_nil_of_length_eq_zero (by rw [← r1.length, e]; rfl)
      subst e'
      exact lat0 g l hy q.2
    · have e' : b = [] := List.eq_nil_of_length_eq_zero (by rw [← r2.length, e2]; rfl)
      subst e'
      have q' := q.2
      rw [List.append_nil] at q'
      exact lat0 g l hx q'
    · exact newT_use g l q.2 n (by rw [List.length_append, r1.length, r2.length]; exact q.1) (r1.append r2)
  · exact gen q
theorem op_binD (c : COk W k X) (o : Operator) (fz : Bool) (ho : (match o with | .Add => true | .Sub => true | .Mult => true | .FloorDiv => true | .Mod => true | .Pow => true | .LShift => true | .RShift => true | _ => false) = true) : OpR X (binaryOp o) (l2 W (binD o fz)) := by
  cases o with
  | Add => exact op_addD c fz
  | Sub =>
    intro pins s σ H x y v u Q I rx ry h
    obtain ⟨dx, dy, t, Qp, rfl, g, hx, hy, q, l⟩ := h
    obtain ⟨i, rfl, q1⟩ := D.asI_inv q
    obtain ⟨j, rfl, q⟩ := D.asI_inv q1
    have := repI hx; subst this; have := repI hy; subst this
    exact op_sub pins s σ t.H _ _ v u Q I rx ry ⟨_, _, rfl, rfl, latI g l q⟩
  | Mult =>
    intro pins s σ H x y v u Q I rx ry h
    obtain ⟨dx, dy, t, Qp, rfl, g, hx, hy, q, l⟩ := h
    obtain ⟨i, rfl, q1⟩ := D.asI_inv q
    obtain ⟨j, rfl, q⟩ := D.asI_inv q1
    have := repI hx; subst this; have := repI hy; subst this
    exact op_mulW pins s σ t.H _ _ v u Q I rx ry ⟨_, _, rfl, rfl, q.1, latI g l q.2⟩
  | FloorDiv =>
    intro pins s σ H x y v u Q I rx ry h
    obtain ⟨dx, dy, t, Qp, rfl, g, hx, hy, q, l⟩ := h
    obtain ⟨i, rfl, q1⟩ := D.asI_inv q
    obtain ⟨j, rfl, q⟩ := D.asI_inv q1
    have := repI hx; subst this; have := repI hy; subst this
    exact op_fdivW pins s σ t.H _ _ v u Q I rx ry ⟨_, _, rfl, rfl, q.1, latI g l q.2⟩
  | Mod =>
    intro pins s σ H x y v u Q I rx ry h
    obtain ⟨dx, dy, t, Qp, rfl, g, hx, hy, q, l⟩ := h
    obtain ⟨i, rfl, q1⟩ := D.asI_inv q
    obtain ⟨j, rfl, q⟩ := D.asI_inv q1
    have := repI hx; subst this; have := repI hy; subst this
    exact op_mod pins s σ t.H _ _ v u Q I rx ry ⟨_, _, rfl, rfl, q.1, latI g l q.2⟩
  | Pow =>
    intro pins s σ H x y v u Q I rx ry h
    obtain ⟨dx, dy, t, Qp, rfl, g, hx, hy, q, l⟩ := h
    obtain ⟨i, rfl, q1⟩ := D.asI_inv q
    obtain ⟨j, rfl, q⟩ := D.asI_inv q1
    have := repI hx; subst this; have := repI hy; subst this
    obtain ⟨ti, rfl⟩ := rx
    obtain ⟨tj, rfl⟩ := ry
    have b : Builtin.Int.intBits i ≤ i.natAbs.log2 + 1 := by unfold Builtin.Int.intBits; split <;> omega
    refine pow_int q.1.1 (Int.le_trans (Int.mul_le_mul_of_nonneg_right (by omega) q.1.1) q.1.2) ⟨.int _, t.H, I.tok _, ⟨_, rfl⟩, latI g l q.2⟩
  | LShift =>
    intro pins s σ H x y v u Q I rx ry h
    obtain ⟨dx, dy, t, Qp, rfl, g, hx, hy, q, l⟩ := h
    obtain ⟨i, rfl, q1⟩ := D.asI_inv q
    obtain ⟨j, rfl, q⟩ := D.asI_inv q1
    have := repI hx; subst this; have := repI hy; subst this
    exact op_shl pins s σ t.H _ _ v u Q I rx ry ⟨_, _, rfl, rfl, q.1, latI g l q.2⟩
  | RShift =>
    intro pins s σ H x y v u Q I rx ry h
    obtain ⟨dx, dy, t, Qp, rfl, g, hx, hy, q, l⟩ := h
    obtain ⟨i, rfl, q1⟩ := D.asI_inv q
    obtain ⟨j, rfl, q⟩ := D.asI_inv q1
    have := repI hx; subst this; have := repI hy; subst this
    exact op_shr pins s σ t.H _ _ v u Q I rx ry ⟨_, _, rfl, rfl, q.1, latI g l q.2⟩
  | _ => cases ho
theorem un_negD (c : COk W k X) : UnR X (unaryOp .USub) (l1 W fun u M Q => u.asI fun i => Q (.int (-i)) M) := by
  intro pins s σ H x v Q I rx h
  obtain ⟨dx, t, Qp, rfl, g, hx, q, l⟩ := h
  cases dx with
  | int i =>
    have := repI hx; subst this
    exact un_neg pins s σ t.H _ v Q I rx ⟨_, rfl, latI g l q⟩
  | _ => exact (show False from q).elim
end
end TL

set_option Elab.async false
set_option linter.all false
set_option maxRecDepth 100000
set_option maxHeartbeats 4000000
/-! Comparisons, memberships, dicts. -/
namespace TL
open PySem PySem.Spec PyProof.Rows L2
section
variable {W : Wd} {t : Sta}
mutual
theorem Rep.dp : ∀ {d : D} {v : V}, Rep W t d v → d.plain = true → Dp W.K t.H v d.py
  | .non, v, h, _ => by cases repN h; simp only [D.py]; exact .non
  | .bl b, v, h, _ => by cases repB h; simp only [D.py]; exact .bl b
  | .int i, v, h, _ => by cases repI h; simp only [D.py]; exact .int i
  | .str s, v, h, _ => by cases (repS h).1; simp only [D.py]; exact .str s
  | .tup xs, v, h, p => by
    obtain ⟨a, vs, rfl, h1, _, h3⟩ := tupAt h
    simp only [D.plain] at p
    simp only [D.py]
    exact .tup h1 (Reps.dp h3 p)
  | .lst xs, v, h, p => by
    obtain ⟨a, vs, rfl, h1, _, h3⟩ := lstAt h
    simp only [D.plain] at p
    simp only [D.py]
    exact .lst (.of h1) (Reps.dp h3 p)
  | .klst xs, v, h, p => by
    obtain ⟨a, vs, rfl, h1, _, h3⟩ := klstAt h
    simp only [D.plain] at p
    simp only [D.py]
    exact .lst h1 (Reps.dp h3 p)
  | .flt _, _, _, p => by simp only [D.plain] at p; cases p
  | .ref _, _, _, p => by simp only [D.plain] at p; cases p
  | .glb _, _, _, p => by simp only [D.plain] at p; cases p
theorem Reps.dp : ∀ {ds : List D} {vs : List V}, Reps W t ds vs → plains ds = true → DpAll W.K t.H vs (pys ds)
  | [], vs, h, _ => by cases Reps.nil_inv h; simp only [pys]; exact .nil
  | d :: ds, vs, h, p => by
    obtain ⟨v, r, rfl, h1, h2⟩ := Reps.cons_inv h
    simp only [plains, Bool.and_eq_true] at p
    simp only [pys]
    exact .cons (Rep.dp h1 p.1) (Reps.dp h2 p.2)
end
mutual
theorem canLay_py : ∀ d : D, d.plain = true → d.py.canLay0 = true
  | .non, _ => by simp only [D.py, PyData.canLay0]
  | .bl _, _ => by simp only [D.py, PyData.canLay0]
  | .int _, _ => by simp only [D.py, PyData.canLay0]
  | .str s, p => by simp only [D.plain] at p; simp only [D.py, PyData.canLay0]; exact p
  | .tup xs, p => by simp only [D.plain] at p; simp only [D.py, PyData.canLay0]; exact canLay_pys xs p
  | .lst xs, p => by simp only [D.plain] at p; simp only [D.py, PyData.canLay0]; exact canLay_pys xs p
  | .klst xs, p => by simp only [D.plain] at p; simp only [D.py, PyData.canLay0]; exact canLay_pys xs p
  | .flt _, p => by simp only [D.plain] at p; cases p
  | .ref _, p => by simp only [D.plain] at p; cases p
  | .glb _, p => by simp only [D.plain] at p; cases p
theorem canLay_pys : ∀ ds : List D, plains ds = true → PyData.canLayAll0 (pys ds) = true
  | [], _ => by simp only [pys, PyData.canLayAll0]
  | d :: ds, p => by
    simp only [plains, Bool.and_eq_true] at p
    simp only [pys, PyData.canLayAll0, Bool.and_eq_true]
    exact ⟨canLay_py d p.1, canLay_pys ds p.2⟩
end
mutual
theorem depth_py : ∀ d : D, d.py.depth ≤ d.deep + 1
  | .tup xs => by simp only [D.py, PyData.depth, D.deep]; have := depth_pys xs; omega
  | .lst xs => by simp only [D.py, PyData.depth, D.deep]; have := depth_pys xs; omega
  | .klst xs => by simp only [D.py, PyData.depth, D.deep]; have := depth_pys xs; omega
  | .non => by simp only [D.py, PyData.depth]; omega
  | .bl _ => by simp only [D.py, PyData.depth]; omega
  | .int _ => by simp only [D.py, PyData.depth]; omega
  | .str _ => by simp only [D.py, PyData.depth]; omega
  | .flt _ => by simp only [D.py, PyData.depth]; omega
  | .ref _ => by simp only [D.py, PyData.depth]; omega
  | .glb _ => by simp only [D.py, PyData.depth]; omega
theorem depth_pys : ∀ ds : List D, PyData.depthAll (pys ds) ≤ deeps ds + 1
  | [] => by simp only [pys, PyData.depthAll]; omega
  | d :: ds => by
    simp only [pys, PyData.depthAll, deeps]
    have h1 := depth_py d
    have h2 := depth_pys ds
    omega
end
theorem pok_shaped {d : D} (p : d.pok = true) : SeqAt.shaped d.py = true := by
  unfold D.pok at p
  simp only [Bool.and_eq_true, decide_eq_true_eq] at p
  unfold SeqAt.shaped
  simp only [Bool.and_eq_true, decide_eq_true_eq]
  have := depth_py d
  exact ⟨canLay_py d p.1, by omega⟩
theorem pok_plain {d : D} (p : d.pok = true) : d.plain = true := by
  unfold D.pok at p
  simp only [Bool.and_eq_true] at p
  exact p.1
/-- as it is now -/
theorem now_dp {d : D} {v : V} (g : Good W t) (h : Rep W t d v) (p : (now t.M d).plain = true) : Dp W.K t.H v (now t.M d).py := by
  cases d with
  | ref a =>
    have hv := repR h
    subst hv
    cases e : t.M a with
    | none =>
      have e2 : now t.M (.ref a) = .ref a := by simp only [now, e]
      rw [e2] at p; simp only [D.plain] at p; cases p
    | some o =>
      cases o with
      | lst xs =>
        have e2 : now t.M (.ref a) = .lst xs := by simp only [now, e]
        rw [e2] at p ⊢
        obtain ⟨vs, h1, h2, h3⟩ := g.at_ a _ e
        simp only [D.plain] at p
        simp only [D.py]
        exact .lst (.of h1) (h3.dp p)
      | dct _ =>
        have e2 : now t.M (.ref a) = .ref a := by simp only [now, e]
        rw [e2] at p; simp only [D.plain] at p; cases p
      | ins _ _ =>
        have e2 : now t.M (.ref a) = .ref a := by simp only [now, e]
        rw [e2] at p; simp only [D.plain] at p; cases p
  | _ => exact h.dp p

/-! entries -/
theorem RepKs.get {κ : Type} [DecidableEq κ] : ∀ {ds : List (κ × D)} {vs : List (κ × V)} (q : κ), RepKs W t ds vs → (kget ds q = none ∧ valV vs q = none) ∨ ∃ d v, kget ds q = some d ∧ valV vs q = some v ∧ Rep W t d v
  | [], vs, q, h => by
    have e : vs = [] := h
    subst e
    exact .inl ⟨rfl, rfl⟩
  | (k, d) :: ds, vs, q, h => by
    obtain ⟨v, r, rfl, h1, h2⟩ := h
    by_cases e : k = q
    · refine .inr ⟨d, v, ?_, valV_pos e, h1⟩
      simp [kget, e]
    · have e1 : kget ((k, d) :: ds) q = kget ds q := by simp [kget, List.find?_cons, e]
      rw [e1, valV_neg (p := (k, v)) e]
      exact RepKs.get q h2
theorem RepKs.any {κ : Type} [DecidableEq κ] {q : κ} : ∀ {ds : List (κ × D)} {vs : List (κ × V)}, RepKs W t ds vs → (ds.any fun kv => decide (kv.1 = q)) = (vs.any fun kv => decide (kv.1 = q))
  | [], vs, h => by
    have e : vs = [] := h
    subst e; rfl
  | (k, d) :: ds, vs, h => by
    obtain ⟨v, r, rfl, h1, h2⟩ := h
    simp only [List.any_cons, RepKs.any h2]
theorem RepKs.mapk {κ : Type} [DecidableEq κ] {q : κ} {d0 : D} {v0 : V} (r0 : Rep W t d0 v0) : ∀ {ds : List (κ × D)} {vs : List (κ × V)}, RepKs W t ds vs → RepKs W t (ds.map fun kv => if kv.1 = q then (kv.1, d0) else kv) (vs.map fun kv => if kv.1 = q then (kv.1, v0) else kv)
  | [], vs, h => by
    have e : vs = [] := h
    subst e; exact rfl
  | (k, d) :: ds, vs, h => by
    obtain ⟨v, r, rfl, h1, h2⟩ := h
    simp only [List.map_cons]
    by_cases e : k = q
    · simp only [e, if_true]
      exact ⟨v0, _, rfl, r0, RepKs.mapk r0 h2⟩
    · simp only [e, if_false]
      exact ⟨v, _, rfl, h1, RepKs.mapk r0 h2⟩
theorem RepKs.app {κ : Type} {q : κ} {d0 : D} {v0 : V} (r0 : Rep W t d0 v0) : ∀ {ds : List (κ × D)} {vs : List (κ × V)}, RepKs W t ds vs → RepKs W t (ds ++ [(q, d0)]) (vs ++ [(q, v0)])
  | [], vs, h => by
    have e : vs = [] := h
    subst e; exact ⟨v0, [], rfl, r0, rfl⟩
  | (k, d) :: ds, vs, h => by
    obtain ⟨v, r, rfl, h1, h2⟩ := h
    exact ⟨v, _, rfl, h1, RepKs.app r0 h2⟩
theorem RepKs.put {κ : Type} [DecidableEq κ] {q : κ} {d0 : D} {v0 : V} (r0 : Rep W t d0 v0) {ds : List (κ × D)} {vs : List (κ × V)} (h : RepKs W t ds vs) : RepKs W t (kput ds q d0) (L2.putK vs q v0) := by
  unfold kput L2.putK
  rw [h.any (q := q)]
  split
  · exact h.mapk r0
  · exact h.app r0
theorem kput_len {κ : Type} [DecidableEq κ] (ds : List (κ × V)) (q : κ) (d : V) : (L2.putK ds q d).length ≤ ds.length + 1 := by
  unfold L2.putK
  split
  · rw [List.length_map]; omega
  · rw [List.length_append]; exact Nat.le_refl _
theorem keyOf_at {d : D} {v : V} {q : Key} (h : Rep W t d v) (e : keyOf d = some q) : v = kV q := by
  cases d with
  | int i => cases e; exact repI h
  | str i => cases e; exact (repS h).1
  | _ => cases e
theorem dctOf_at {d : D} {v : V} {kvs : List (Key × D)} (g : Good W t) (h : Rep W t d v) (e : dctOf t.M d = some kvs) : ∃ a vs, d = .ref a ∧ v = .ref a ∧ t.M a = some (.dct kvs) ∧ t.H a = some (.dK vs) ∧ vs.length ≤ sizeLine ∧ RepKs W t kvs vs := by
  cases d with
  | ref a =>
    have hv := repR h
    subst hv
    unfold dctOf at e
    dsimp only at e
    split at e
    · rename_i q
      cases e
      obtain ⟨vs, h1, h2, h3⟩ := g.at_ a _ q
      exact ⟨a, vs, rfl, rfl, q, h1, h2, h3⟩
    · cases e
  | _ => cases e
theorem dctOf_none {M : Mm} {d : D} {xs : List D} (e : seqOf M d = some xs) : dctOf M d = none := by
  cases d with
  | ref a =>
    have e' : (match M a with | some (.lst xs) => some xs | _ => none) = some xs := e
    show (match M a with | some (.dct kvs) => some kvs | _ => none) = none
    split at e'
    · rename_i q; rw [q]
    · cases e'
  | _ => rfl

/-! flat things -/
theorem flat_at {d : D} {v : V} (h : Rep W t d v) (f : d.flat = true) : flatV v = true := by
  cases d with
  | non => cases repN h; rfl
  | bl _ => cases repB h; rfl
  | int _ => cases repI h; rfl
  | str _ => cases (repS h).1; rfl
  | _ => cases f
theorem flats_at : ∀ {ds : List D} {vs : List V}, Reps W t ds vs → ds.all D.flat = true → vs.all flatV = true
  | [], vs, h, _ => by cases Reps.nil_inv h; rfl
  | d :: ds, vs, h, f => by
    obtain ⟨v, r, rfl, h1, h2⟩ := Reps.cons_inv h
    simp only [List.all_cons, Bool.and_eq_true] at f ⊢
    exact ⟨flat_at h1 f.1, flats_at h2 f.2⟩
theorem flatEq_at {d e : D} {v w : V} (h : Rep W t d v) (h2 : Rep W t e w) (f : d.flat = true) (f2 : e.flat = true) : eqV v w = flatEq d e := by
  cases d with
  | non => cases repN h; cases e with
    | non => cases repN h2; rfl
    | bl _ => cases repB h2; rfl
    | int _ => cases repI h2; rfl
    | str _ => cases (repS h2).1; rfl
    | _ => cases f2
  | bl _ => cases repB h; cases e with
    | non => cases repN h2; rfl
    | bl _ => cases repB h2; rfl
    | int _ => cases repI h2; rfl
    | str _ => cases (repS h2).1; rfl
    | _ => cases f2
  | int _ => cases repI h; cases e with
    | non => cases repN h2; rfl
    | bl _ => cases repB h2; rfl
    | int _ => cases repI h2; rfl
    | str _ => cases (repS h2).1; rfl
    | _ => cases f2
  | str _ => cases (repS h).1; cases e with
    | non => cases repN h2; rfl
    | bl _ => cases repB h2; rfl
    | int _ => cases repI h2; rfl
    | str _ => cases (repS h2).1; rfl
    | _ => cases f2
  | _ => cases f
theorem inV_at {d : D} {v : V} (h : Rep W t d v) (f : d.flat = true) : ∀ {ds : List D} {vs : List V}, Reps W t ds vs → ds.all D.flat = true → inV v vs = ds.any fun z => flatEq z d
  | [], vs, h, _ => by cases Reps.nil_inv h; rfl
  | e :: ds, vs, g, fs => by
    obtain ⟨w, r, rfl, h1, h2⟩ := Reps.cons_inv g
    simp only [List.all_cons, Bool.and_eq_true] at fs
    unfold inV
    simp only [List.any_cons]
    rw [flatEq_at h1 h fs.1 f, ← inV_at h f h2 fs.2]
    rfl
end

section
variable {W : Wd} {k : Nat} {X : Cx}
/-- the comparisons of two ints -/
theorem cmpI {o : CmpOp} {g : Int → Int → Bool} (ho : OpR X (compareOp o) (rI0 fun i j => .bl (g i j))) : OpR X (compareOp o) (l2 W fun x y M Q => x.asI fun i => y.asI fun j => Q (.bl (g i j)) M) := by
  intro pins s σ H x y v u Q I rx ry h
  obtain ⟨dx, dy, t, Qp, rfl, gd, hx, hy, q, l⟩ := h
  obtain ⟨i, rfl, q1⟩ := D.asI_inv q
  obtain ⟨j, rfl, q⟩ := D.asI_inv q1
  have := repI hx; subst this; have := repI hy; subst this
  exact ho pins s σ t.H _ _ v u Q I rx ry ⟨_, _, rfl, rfl, latB gd l q⟩
theorem op_eqT (c : COk W k X) (neg : Bool) : OpR X (compareOp (if neg then .NotEq else .Eq)) (l2 W fun x y M Q => eqK M x y fun b => Q (.bl (if neg then !b else b)) M) := by
  intro pins s σ H x y v u Q I rx ry h
  obtain ⟨dx, dy, t, Qp, rfl, gd, hx, hy, q, l⟩ := h
  have fin : ∀ b : Bool, scal x y = true → decide (x = y) = b → Qp (.bl (if neg then !b else b)) t.M → wpAny (model X.prog X.w) X.A (compareOp (if neg then .NotEq else .Eq) v u) (EP X pins σ Q) X.xe s := by
    intro b hs e hq
    subst e
    cases neg with
    | true => exact op_ne pins s σ t.H _ _ v u Q I rx ry ⟨hs, latB gd l hq⟩
    | false => exact op_eq pins s σ t.H _ _ v u Q I rx ry ⟨hs, latB gd l hq⟩
  have gen : eqP (now t.M dx) (now t.M dy) (fun b => Qp (.bl (if neg then !b else b)) t.M) → wpAny (model X.prog X.w) X.A (compareOp (if neg then .NotEq else .Eq) v u) (EP X pins σ Q) X.xe s := by
    rintro ⟨p1, p2, hq⟩
    have d1 := now_dp gd hx (pok_plain p1)
    have d2 := now_dp gd hy (pok_plain p2)
    rw [← c.K] at d1 d2
    cases neg with
    | true => exact op_neD c.hu pins s σ t.H _ _ v u Q I rx ry ⟨_, _, d1, d2, pok_shaped p1, pok_shaped p2, latB gd l hq⟩
    | false => exact op_eqD c.hu pins s σ t.H _ _ v u Q I rx ry ⟨_, _, d1, d2, pok_shaped p1, pok_shaped p2, latB gd l hq⟩
  unfold eqK at q
  split at q
  · have := repI hx; subst this; have := repI hy; subst this
    exact fin _ rfl (by simp) q
  · obtain ⟨rfl, _⟩ := repS hx; obtain ⟨rfl, _⟩ := repS hy
    exact fin _ rfl (by simp) q
  · have := repB hx; subst this; have := repB hy; subst this
    exact fin _ rfl (by simp) q
  · exact gen q
theorem op_inT (c : COk W k X) (neg : Bool) : OpR X (compareOp (if neg then .NotIn else .In)) (l2 W fun x y M Q => inK M x y fun b => Q (.bl (if neg then !b else b)) M) := by
  intro pins s σ H x y v u Q I rx ry h
  obtain ⟨dx, dy, t, Qp, rfl, gd, hx, hy, q, l⟩ := h
  unfold inK at q
  split at q
  · rename_i a b
    obtain ⟨rfl, _⟩ := repS hx; obtain ⟨rfl, _⟩ := repS hy
    obtain ⟨h1, hq⟩ := q
    obtain ⟨⟨ls⟩⟩ := a
    match ls, h1 with
    | [z], _ =>
      cases neg with
      | true => exact op_notIn_sign pins s σ t.H _ _ v u Q I rx ry ⟨z, b, rfl, rfl, latB gd l hq⟩
      | false => exact op_in_sign pins s σ t.H _ _ v u Q I rx ry ⟨z, b, rfl, rfl, latB gd l hq⟩
  · split at q
    · rename_i kvs kk ed ek
      obtain ⟨a, vs, rfl, rfl, _, h1, h2, h3⟩ := dctOf_at gd hy ed
      have ey := keyOf_at hx ek
      have hs : (kget kvs kk).isSome = (valV vs kk).isSome := by
        rcases h3.get kk with ⟨e1, e2⟩ | ⟨d, w, e1, e2, _⟩ <;> rw [e1, e2] <;> rfl
      rw [hs] at q
      subst ey
      obtain rfl : u = Value.ref a := ry
      cases neg with
      | true => exact d_notIn c.hu1 I (DGet.k (k := kk) h1) rx fun s3 I3 => ⟨.bl _, t.H, I3, rfl, latB gd l q⟩
      | false => exact d_in c.hu1 I (DGet.k (k := kk) h1) rx fun s3 I3 => ⟨.bl _, t.H, I3, rfl, latB gd l q⟩
    · exact q.elim
    · split at q
      · rename_i xs es
        obtain ⟨a, vs, rfl, h1, _, h3⟩ := seqOf_at gd hy es
        obtain ⟨f1, f2, hq⟩ := q
        have hs := inV_at hx f1 h3 f2
        rw [← hs] at hq
        rw [← c.K] at h1
        cases neg with
        | true => exact op_notIn_seq pins s σ t.H _ _ v u Q I rx ry ⟨a, vs, rfl, h1, flat_at hx f1, flats_at h3 f2, latB gd l hq⟩
        | false => exact op_in_seq pins s σ t.H _ _ v u Q I rx ry ⟨a, vs, rfl, h1, flat_at hx f1, flats_at h3 f2, latB gd l hq⟩
      · exact q.elim
theorem isN_at {t : Sta} {d : D} {v : V} (h : Rep W t d v) (n : d ≠ .non) (ng : ∀ x, d ≠ .glb x) : v ≠ .non := by
  cases d with
  | non => exact absurd rfl n
  | bl _ => cases repB h; simp
  | int _ => cases repI h; simp
  | str _ => cases (repS h).1; simp
  | flt b => have e : v = .flt b := by simpa only [Rep] using h
             subst e; simp
  | tup _ => obtain ⟨_, _, rfl, _⟩ := tupAt h; simp
  | lst _ => obtain ⟨_, _, rfl, _⟩ := lstAt h; simp
  | klst _ => obtain ⟨_, _, rfl, _⟩ := klstAt h; simp
  | ref _ => cases repR h; simp
  | glb x => exact absurd rfl (ng x)
theorem op_isT (c : COk W k X) (neg : Bool) : OpR X (compareOp (if neg then .IsNot else .Is)) (l2 W fun x y M Q => cmpK (if neg then .IsNot else .Is) M x y fun b => Q (.bl b) M) := by
  intro pins s σ H x y v u Q I rx ry h
  obtain ⟨dx, dy, t, Qp, rfl, gd, hx, hy, q, l⟩ := h
  have fin : ∀ b : Bool, y = .non → decide (x = .non) = b → Qp (.bl (if neg then !b else b)) t.M → wpAny (model X.prog X.w) X.A (compareOp (if neg then .IsNot else .Is) v u) (EP X pins σ Q) X.xe s := by
    intro b hs e hq
    subst e
    cases neg with
    | true => exact op_notN pins s σ t.H _ _ v u Q I rx ry ⟨hs, latB gd l hq⟩
    | false => exact op_isN pins s σ t.H _ _ v u Q I rx ry ⟨hs, latB gd l hq⟩
  cases neg with
  | true =>
    unfold cmpK at q
    simp only [if_true] at q
    split at q
    · exact fin true (repN hy) (by rw [repN hx]; rfl) q
    · exact q.elim
    · rename_i h1 h2
      refine fin false (repN hy) ?_ q
      exact decide_eq_false (isN_at hx (fun e => h1 e) (fun z e => h2 z e))
    · exact q.elim
  | false =>
    unfold cmpK at q
    simp only [Bool.false_eq_true, if_false] at q
    split at q
    · exact fin true (repN hy) (by rw [repN hx]; rfl) q
    · exact q.elim
    · rename_i h1 h2
      refine fin false (repN hy) ?_ q
      exact decide_eq_false (isN_at hx (fun e => h1 e) (fun z e => h2 z e))
    · exact q.elim
theorem op_cmpD (c : COk W k X) (o : CmpOp) : OpR X (compareOp o) (l2 W fun x y M Q => cmpK o M x y fun b => Q (.bl b) M) := by
  cases o with
  | Eq => exact op_eqT c false
  | NotEq => exact op_eqT c true
  | Lt => exact cmpI op_lt
  | LtE => exact cmpI op_le
  | Gt => exact cmpI op_gt
  | GtE => exact cmpI op_ge
  | Is => exact op_isT c false
  | IsNot => exact op_isT c true
  | In => exact op_inT c false
  | NotIn => exact op_inT c true
end
end TL

set_option Elab.async false
set_option linter.all false
set_option maxRecDepth 100000
set_option maxHeartbeats 4000000
/-! Subscripts, slices, stores. -/
namespace TL
open PySem PySem.Spec PyProof.Rows L2
section
variable {W : Wd} {k : Nat} {X : Cx}
/-- a dict's entry -/
theorem ix_dict (hu : X.A.units + 1 < cLine) : IxR X (fun x y H Q => ∃ a v, x = .ref a ∧ DGet H a y (some v) ∧ Q v H) := by
  intro value slice pins s σ H x y v u Q I rx ry h hs
  obtain ⟨a, z, rfl, g, q⟩ := h
  obtain rfl : v = Value.ref a := rx
  exact tail_any (dict_typeIs I g) PySem.F.slot_dict_getitem.lookup (d_getItem hu I g ry fun w' s3 I3 rw' => ⟨z, H, I3, rw', q⟩) hs
theorem atI_rep {t : Sta} {ds : List D} {vs : List V} {i : Int} {d : D} (h : Reps W t ds vs) (e : atI ds i = some d) : ∃ v, atI vs i = some v ∧ Rep W t d v := by
  unfold atI at e ⊢
  rw [h.length]
  cases q : ixN ds.length i with
  | none => rw [q] at e; cases e
  | some j =>
    rw [q] at e
    obtain ⟨v, h1, h2⟩ := h.get (show ds[j]? = some d from e)
    exact ⟨v, h1, h2⟩
theorem ix_D (c : COk W k X) : IxR X (l2 W fun x y M Q => ixK M x y fun d => Q d M) := by
  intro value slice pins s σ H x y v u Q I rx ry h hs
  obtain ⟨dx, dy, t, Qp, rfl, gd, hx, hy, q, l⟩ := h
  unfold ixK at q
  split at q
  · rename_i z i
    obtain ⟨rfl, hz⟩ := repS hx
    have := repI hy; subst this
    split at q
    · rename_i ch ec
      exact ix_str value slice pins s σ t.H _ _ v u Q I rx ry ⟨z, i, ch, rfl, rfl, hz, ec, latS gd l (by show 1 ≤ sizeLine; decide) q⟩ hs
    · exact q.elim
  · split at q
    · rename_i kvs kk ed ek
      obtain ⟨a, vs, rfl, rfl, _, h1, h2, h3⟩ := dctOf_at gd hx ed
      have ey := keyOf_at hy ek
      subst ey
      obtain ⟨d, e, q⟩ := optK_inv q
      rcases h3.get kk with ⟨e1, e2⟩ | ⟨d', w, e1, e2, r⟩
      · rw [e1] at e; cases e
      · rw [e1] at e; cases e
        have g := DGet.k (k := kk) h1
        rw [e2] at g
        exact ix_dict c.hu1 value slice pins s σ t.H _ _ v u Q I rx ry ⟨a, w, rfl, g, lat0 gd l r q⟩ hs
    · exact q.elim
    · split at q
      · rename_i xs i es _
        obtain ⟨a, vs, rfl, h1, _, h3⟩ := seqOf_at gd hx es
        have := repI hy; subst this
        obtain ⟨d, e, q⟩ := optK_inv q
        obtain ⟨w, e2, r⟩ := atI_rep h3 e
        rw [← c.K] at h1
        rcases h1 with h1 | h1
        · exact ix_list value slice pins s σ t.H _ _ v u Q I rx ry ⟨a, vs, i, w, rfl, rfl, h1, e2, lat0 gd l r q⟩ hs
        · exact ix_tup value slice pins s σ t.H _ _ v u Q I rx ry ⟨a, vs, i, w, rfl, rfl, h1, e2, lat0 gd l r q⟩ hs
      · exact q.elim
theorem cut_rep {t : Sta} {ds : List D} {vs : List V} (h : Reps W t ds vs) (lo hi : Option Int) : Reps W t (cutD ds lo hi) (cutV vs lo hi) := by
  unfold cutD cutV
  rw [h.length]
  exact (h.drop _).take _
theorem cutS_len (z : Str) (lo hi : Option Int) : (cutS z lo hi).length ≤ z.length := by
  unfold cutS Str.length
  simp only [List.size_toArray, List.length_take, List.length_drop, Array.length_toList]
  omega
/-- a slice by values -/
def lSl (W : Wd) (fz : Bool) : V → Option Int → Option Int → Hp → VK → Prop := fun x lo hi H Q => ∃ dx t Qp, t.H = H ∧ Good W t ∧ Rep W t dx x ∧ slK fz t.M dx lo hi Qp ∧ Lat W t Qp Q
theorem sl_D (c : COk W k X) (fz : Bool) : SlR X (lSl W fz) := by
  intro pins s σ H x v vl vu lo hi sl Q I rx hs pl pu h
  obtain ⟨dx, t, Qp, rfl, gd, hx, q, l⟩ := h
  unfold slK at q
  split at q
  · obtain ⟨rfl, hz⟩ := repS hx
    exact sl_str pins s σ t.H _ v vl vu lo hi sl Q I rx hs pl pu ⟨_, rfl, hz, latS gd l (Nat.le_trans (cutS_len _ _ _) hz) q⟩
  · rename_i xs
    obtain ⟨a, vs, rfl, h1, h2, h3⟩ := tupAt hx
    rw [← c.K] at h1
    refine sl_tupA pins s σ t.H _ v vl vu lo hi sl Q I rx hs pl pu ⟨a, vs, rfl, h1, fun e => ?_, fun e p n => ?_⟩
    · have e' : cutD xs lo hi = xs := by
        rw [h3.length] at e
        unfold cutD
        rw [e.1, e.2, List.drop_zero]
        exact List.take_of_length_le (by omega)
      rw [e'] at q
      exact lat0 gd l hx q
    · exact newT_use gd l q n (Nat.le_trans (cutV_length _ _ _) h2) (cut_rep h3 lo hi)
  · split at q
    · rename_i xs es
      obtain ⟨a, vs, rfl, h1, h2, h3⟩ := lstOf_at gd hx es
      rw [← c.K] at h1
      exact sl_list pins s σ t.H _ v vl vu lo hi sl Q I rx hs pl pu ⟨a, vs, rfl, h1, fun p n => newL_use gd l q n (Nat.le_trans (cutV_length _ _ _) h2) (cut_rep h3 lo hi)⟩
    · exact q.elim
/-- o[i] = d by values -/
def lSet (W : Wd) : V → V → V → Hp → (Hp → Prop) → Prop := fun o i v H Q => ∃ (do_ di dv : D) (t : Sta) (Qp : Mm → Prop), t.H = H ∧ Good W t ∧ Rep W t do_ o ∧ Rep W t di i ∧ Rep W t dv v ∧ setK t.M do_ di dv Qp ∧
  ∀ t', Ext t t' → Good W t' → Qp t'.M → Q t'.H
theorem set_D (c : COk W k X) : PSet X (lSet W) := by
  intro pins s σ H o i v ov iv u Q I ro ri rv h
  obtain ⟨d1, d2, d3, t, Qp, rfl, gd, h1, h2, h3, q, l⟩ := h
  cases d1 with
  | ref p =>
    have := repR h1; subst this
    unfold setK at q
    dsimp only at q
    split at q
    · rename_i xs em
      obtain ⟨vs, a1, a2, a3⟩ := gd.at_ p _ em
      obtain ⟨j, rfl, q⟩ := D.asI_inv q
      have := repI h2; subst this
      obtain ⟨n, en, q⟩ := someK_inv q
      refine set_list pins s σ t.H _ _ v ov iv u Q I ro ri rv ⟨p, vs, j, n, rfl, rfl, a1, by rw [a3.length]; exact en, ?_⟩
      refine l (t.put p (.lst (vs.set n v)) (.lst (xs.set n d3))) (Ext.put em) (gd.put em ?_) q
      exact ⟨_, upd_same, by rw [List.length_set]; exact a2, (a3.set h3 n).ext (Fst.put (gd.nfM em))⟩
    · rename_i kvs em
      obtain ⟨vs, a1, a2, a3⟩ := gd.at_ p _ em
      obtain ⟨kk, ek, q⟩ := someK_inv q
      have := keyOf_at h2 ek; subst this
      obtain rfl : ov = Value.ref p := ro
      refine d_setItem c.hu1 I (DPut.k (k := kk) (v := v) a1 (by rw [a3.length]; exact q.1)) ri rv fun s' I' => ⟨_, I', ?_⟩
      refine l (t.put p (.dK (L2.putK vs kk v)) (.dct (kput kvs kk d3))) (Ext.put em) (gd.put em ?_) q.2
      refine ⟨_, upd_same, ?_, (a3.put h3).ext (Fst.put (gd.nfM em))⟩
      have := kput_len vs kk v
      have h := q.1
      rw [← a3.length] at h
      omega
    · exact q.elim
  | _ => exact (show False from q).elim
end
end TL

set_option Elab.async false
set_option linter.all false
set_option maxRecDepth 100000
set_option maxHeartbeats 4000000
/-! Built-in functions and methods by values. -/
namespace TL
open PySem PySem.Spec PyProof.Rows L2
section
variable {W : Wd} {t : Sta}
theorem ints_rep : ∀ {ds : List D} {vs : List V} {ns : List Int}, Reps W t ds vs → intsOf ds = some ns → vs = ns.map V.int
  | [], vs, ns, h, e => by cases Reps.nil_inv h; cases e; rfl
  | d :: ds, vs, ns, h, e => by
    obtain ⟨v, r, rfl, h1, h2⟩ := Reps.cons_inv h
    cases d with
    | int i =>
      obtain ⟨m, em, rfl⟩ := Option.map_eq_some_iff.mp (show (intsOf ds).map (i :: ·) = some ns from e)
      rw [ints_rep h2 em, repI h1]; rfl
    | _ => cases e
theorem bools_rep : ∀ {ds : List D} {vs : List V} {ns : List Bool}, Reps W t ds vs → boolsOf ds = some ns → vs = ns.map V.bl
  | [], vs, ns, h, e => by cases Reps.nil_inv h; cases e; rfl
  | d :: ds, vs, ns, h, e => by
    obtain ⟨v, r, rfl, h1, h2⟩ := Reps.cons_inv h
    cases d with
    | bl i =>
      obtain ⟨m, em, rfl⟩ := Option.map_eq_some_iff.mp (show (boolsOf ds).map (i :: ·) = some ns from e)
      rw [bools_rep h2 em, repB h1]; rfl
    | _ => cases e
theorem strs_rep : ∀ {ds : List D} {vs : List V} {ns : List Str}, Reps W t ds vs → strsOf ds = some ns → vs = ns.map V.str
  | [], vs, ns, h, e => by cases Reps.nil_inv h; cases e; rfl
  | d :: ds, vs, ns, h, e => by
    obtain ⟨v, r, rfl, h1, h2⟩ := Reps.cons_inv h
    cases d with
    | str i =>
      obtain ⟨m, em, rfl⟩ := Option.map_eq_some_iff.mp (show (strsOf ds).map (i :: ·) = some ns from e)
      rw [strs_rep h2 em, (repS h1).1]; rfl
    | _ => cases e
theorem reps_ints : ∀ ns : List Int, Reps W t (ns.map .int) (ns.map V.int)
  | [] => Reps.nil
  | n :: ns => Reps.cons (by simp only [Rep]) (reps_ints ns)
theorem keysI_rep : ∀ {ds : List (Key × D)} {vs : List (Key × V)} {ns : List Int}, RepKs W t ds vs → keysI ds = some ns → vs.map (·.1) = ns.map Sum.inl
  | [], vs, ns, h, e => by
    have e' : vs = [] := h
    subst e'; cases e; rfl
  | (q, d) :: ds, vs, ns, h, e => by
    obtain ⟨v, r, rfl, h1, h2⟩ := h
    cases q with
    | inl i =>
      obtain ⟨m, em, rfl⟩ := Option.map_eq_some_iff.mp (show (keysI ds).map (i :: ·) = some ns from e)
      simp only [List.map_cons, keysI_rep h2 em]
    | inr i => cases e
theorem insI_perm (x : Int) : ∀ ns : List Int, (insI x ns).Perm (x :: ns)
  | [] => .refl _
  | y :: r => by
    unfold insI
    split
    · exact .refl _
    · exact ((insI_perm x r).cons y).trans (.swap _ _ _)
theorem sortI_perm : ∀ ns : List Int, (sortI ns).Perm ns
  | [] => .refl _
  | x :: r => (insI_perm x (sortI r)).trans ((sortI_perm r).cons x)
theorem insI_sorted (x : Int) : ∀ {ns : List Int}, ns.Pairwise (· ≤ ·) → (insI x ns).Pairwise (· ≤ ·)
  | [], _ => by simp [insI]
  | y :: r, h => by
    obtain ⟨h1, h2⟩ := List.pairwise_cons.mp h
    unfold insI
    split
    · rename_i c
      refine List.pairwise_cons.mpr ⟨fun z hz => ?_, h⟩
      rcases List.mem_cons.mp hz with rfl | hz
      · exact c
      · exact Int.le_trans c (h1 z hz)
    · rename_i c
      refine List.pairwise_cons.mpr ⟨fun z hz => ?_, insI_sorted x h2⟩
      rcases List.mem_cons.mp ((insI_perm x r).mem_iff.mp hz) with rfl | hz
      · omega
      · exact h1 z hz
theorem sortI_sorted : ∀ ns : List Int, (sortI ns).Pairwise (· ≤ ·)
  | [] => .nil
  | x :: r => insI_sorted x (sortI_sorted r)
theorem sorted_uniq : ∀ {a b : List Int}, a.Perm b → a.Pairwise (· ≤ ·) → b.Pairwise (· ≤ ·) → a = b
  | [], b, p, _, _ => by rw [List.nil_perm.mp p]
  | x :: a, b, p, ha, hb => by
    cases b with
    | nil => exact absurd p.symm (by simp)
    | cons y b =>
      obtain ⟨a1, a2⟩ := List.pairwise_cons.mp ha
      obtain ⟨b1, b2⟩ := List.pairwise_cons.mp hb
      have e : x = y := by
        have h1 : x ∈ y :: b := p.mem_iff.mp List.mem_cons_self
        have h2 : y ∈ x :: a := p.mem_iff.mpr List.mem_cons_self
        rcases List.mem_cons.mp h1 with e | h1
        · exact e
        · rcases List.mem_cons.mp h2 with e | h2
          · exact e.symm
          · have := a1 y h2
            have := b1 x h1
            omega
      subst e
      rw [sorted_uniq (List.Perm.cons_inv p) a2 b2]
theorem maxL_spec : ∀ (x : Int) (r : List Int), maxL x r ∈ x :: r ∧ ∀ y ∈ x :: r, y ≤ maxL x r
  | x, [] => ⟨by simp [maxL], by simp [maxL]⟩
  | x, z :: r => by
    unfold maxL
    obtain ⟨h1, h2⟩ := maxL_spec (if z > x then z else x) r
    constructor
    · rcases List.mem_cons.mp h1 with e | h
      · rw [e]; split <;> simp
      · simp [h]
    · intro y hy
      have hx := h2 (if z > x then z else x) List.mem_cons_self
      rcases List.mem_cons.mp hy with rfl | hy
      · refine Int.le_trans ?_ hx
        split <;> omega
      · rcases List.mem_cons.mp hy with rfl | hy
        · refine Int.le_trans ?_ hx
          split <;> omega
        · exact h2 y (List.mem_cons_of_mem _ hy)
theorem minL_spec : ∀ (x : Int) (r : List Int), minL x r ∈ x :: r ∧ ∀ y ∈ x :: r, minL x r ≤ y
  | x, [] => ⟨by simp [minL], by simp [minL]⟩
  | x, z :: r => by
    unfold minL
    obtain ⟨h1, h2⟩ := minL_spec (if z < x then z else x) r
    constructor
    · rcases List.mem_cons.mp h1 with e | h
      · rw [e]; split <;> simp
      · simp [h]
    · intro y hy
      have hx := h2 (if z < x then z else x) List.mem_cons_self
      rcases List.mem_cons.mp hy with rfl | hy
      · refine Int.le_trans hx ?_
        split <;> omega
      · rcases List.mem_cons.mp hy with rfl | hy
        · refine Int.le_trans hx ?_
          split <;> omega
        · exact h2 y (List.mem_cons_of_mem _ hy)
theorem max_uniq {x : Int} {r : List Int} {m : Int} (h1 : m ∈ x :: r) (h2 : ∀ y ∈ x :: r, y ≤ m) : m = maxL x r := by
  obtain ⟨a, b⟩ := maxL_spec x r
  have := b m h1
  have := h2 _ a
  omega
theorem min_uniq {x : Int} {r : List Int} {m : Int} (h1 : m ∈ x :: r) (h2 : ∀ y ∈ x :: r, m ≤ y) : m = minL x r := by
  obtain ⟨a, b⟩ := minL_spec x r
  have := b m h1
  have := h2 _ a
  omega
end

section
variable {W : Wd} {k : Nat} {X : Cx}
/-- one argument -/
theorem c_one {f : Value} {q : D → Mm → KD → Prop} (h : ∀ (pins : List (Addr × Obj)) (s : Shared) (σ : L2.St) (t : Sta) (d : D) (v : V) (us : List Value) (Qp : KD) (Q : VK), L2.Inv X pins σ t.H s → Vals [v] us → Good W t → Rep W t d v → q d t.M Qp → Lat W t Qp Q →
    wpAny (model X.prog X.w) X.A (call f us) (EP X pins σ Q) X.xe s) : CallR X f (lL W fun ds M Q => arg1 ds fun x => q x M Q) := by
  intro pins s σ H xs us Q I r h'
  obtain ⟨ds, t, Qp, rfl, gd, hx, hq, l⟩ := h'
  obtain ⟨d, rfl, hq⟩ := arg1_inv hq
  obtain ⟨v, r', rfl, h1, h2⟩ := Reps.cons_inv hx
  cases Reps.nil_inv h2
  exact h pins s σ t d v us Qp Q I r gd h1 hq l
theorem c_two {f : Value} {q : D → D → Mm → KD → Prop} (h : ∀ (pins : List (Addr × Obj)) (s : Shared) (σ : L2.St) (t : Sta) (d e : D) (v w : V) (us : List Value) (Qp : KD) (Q : VK), L2.Inv X pins σ t.H s → Vals [v, w] us → Good W t → Rep W t d v → Rep W t e w → q d e t.M Qp → Lat W t Qp Q →
    wpAny (model X.prog X.w) X.A (call f us) (EP X pins σ Q) X.xe s) : CallR X f (lL W fun ds M Q => arg2 ds fun x y => q x y M Q) := by
  intro pins s σ H xs us Q I r h'
  obtain ⟨ds, t, Qp, rfl, gd, hx, hq, l⟩ := h'
  obtain ⟨d, e, rfl, hq⟩ := arg2_inv hq
  obtain ⟨v, r', rfl, h1, h2⟩ := Reps.cons_inv hx
  obtain ⟨w, r', rfl, h3, h4⟩ := Reps.cons_inv h2
  cases Reps.nil_inv h4
  exact h pins s σ t d e v w us Qp Q I r gd h1 h3 hq l
theorem ints_at {t : Sta} {d : D} {v : V} {q : List Int → Prop} (c : COk W k X) (gd : Good W t) (h : Rep W t d v) (hq : oneInts d t.M q) : ∃ a ns, v = .ref a ∧ SqL X.K t.H a (ns.map V.int) ∧ ns.length ≤ sizeLine ∧ q ns := by
  obtain ⟨ys, es, hq⟩ := someK_inv hq
  obtain ⟨ns, en, hq⟩ := someK_inv hq
  obtain ⟨a, vs, rfl, b1, b2, b3⟩ := lstOf_at gd h es
  rw [← c.K] at b1
  have e := ints_rep b3 en
  rw [e] at b1
  exact ⟨a, ns, rfl, b1, by rw [e, List.length_map] at b2; exact b2, hq⟩
theorem bools_at {t : Sta} {d : D} {v : V} {q : List Bool → Prop} (c : COk W k X) (gd : Good W t) (h : Rep W t d v) (hq : oneBools d t.M q) : ∃ a ns, v = .ref a ∧ SqL X.K t.H a (ns.map V.bl) ∧ q ns := by
  obtain ⟨ys, es, hq⟩ := someK_inv hq
  obtain ⟨ns, en, hq⟩ := someK_inv hq
  obtain ⟨a, vs, rfl, b1, b2, b3⟩ := lstOf_at gd h es
  rw [← c.K] at b1
  have e := bools_rep b3 en
  rw [e] at b1
  exact ⟨a, ns, rfl, b1, hq⟩
theorem c_len (c : COk W k X) : CallR X (.builtin "len") (lL W fun ds M Q => arg1 ds fun x => lenD x M Q) := c_one fun pins s σ t d v us Qp Q I r gd h1 q l => by
  unfold lenD at q
  split at q
  · obtain ⟨rfl, hz⟩ := repS h1
    exact call_len pins s σ t.H _ us Q I r ⟨_, _, rfl, ⟨hz, rfl⟩, latI gd l q⟩
  · split at q
    · rename_i kvs ed
      obtain ⟨a, vs, rfl, rfl, _, b1, b2, b3⟩ := dctOf_at gd h1 ed
      refine call_lenD pins s σ t.H _ us Q I r ⟨a, vs, rfl, b1, ?_⟩
      rw [b3.length]
      exact latI gd l q
    · obtain ⟨ys, es, q⟩ := someK_inv q
      obtain ⟨a, vs, rfl, b1, b2, b3⟩ := seqOf_at gd h1 es
      rw [← c.K] at b1
      refine call_len_seq pins s σ t.H _ us Q I r ⟨a, vs, rfl, b1, ?_⟩
      rw [b3.length]
      exact latI gd l q
theorem c_abs : CallR X (.builtin "abs") (lL W fun ds M Q => arg1 ds fun x => x.asI fun i => Q (.int (if i < 0 then -i else i)) M) := c_one fun pins s σ t d v us Qp Q I r gd h1 q l => by
  obtain ⟨i, rfl, q⟩ := D.asI_inv q
  cases repI h1
  exact call_abs pins s σ t.H _ us Q I r ⟨i, rfl, latI gd l q⟩
theorem c_str : CallR X (.type "str") (lL W fun ds M Q => arg1 ds fun x => strD x M Q) := c_one fun pins s σ t d v us Qp Q I r gd h1 q l => by
  unfold strD at q
  split at q
  · cases repI h1
    exact call_str_int pins s σ t.H _ us Q I r ⟨_, rfl, by have := q.1; omega, latS gd l (int_text_fits (by have := q.1; omega)) q.2⟩
  · obtain ⟨rfl, hz⟩ := repS h1
    exact SkE.call_str_str pins s σ t.H _ us Q I r ⟨_, rfl, latS gd l hz q⟩
  · exact q.elim
theorem c_int : CallR X (.type "int") (lL W fun ds M Q => arg1 ds fun x => intD x M Q) := c_one fun pins s σ t d v us Qp Q I r gd h1 q l => by
  unfold intD at q
  split at q
  · cases repI h1
    exact call_int1 pins s σ t.H _ us Q I r (.inl ⟨_, rfl, latI gd l q⟩)
  · cases repB h1
    exact call_int1 pins s σ t.H _ us Q I r (.inr ⟨_, rfl, latI gd l q⟩)
  · obtain ⟨rfl, hz⟩ := repS h1
    obtain ⟨n, en, hq⟩ := someK_inv q.2
    exact call_int_str pins s σ t.H _ us Q I r ⟨_, n, rfl, en, q.1, latI gd l hq⟩
  · exact q.elim
theorem c_tuple (c : COk W k X) : CallR X (.type "tuple") (lL W fun ds M Q => arg1 ds fun x => someK (seqOf M x) fun xs => Q (.tup xs) M) := c_one fun pins s σ t d v us Qp Q I r gd h1 q l => by
  obtain ⟨xs, es, q2⟩ := someK_inv q
  cases d with
  | tup ys =>
    cases es
    obtain ⟨a, vs, rfl, b1, b2, b3⟩ := tupAt h1
    rw [← c.K] at b1
    exact call_tuple_of pins s σ t.H _ us Q I r ⟨a, vs, rfl, .inr ⟨b1, lat0 gd l h1 q2⟩⟩
  | lst ys =>
    obtain ⟨a, vs, rfl, b1, b2, b3⟩ := lstOf_at gd h1 (show lstOf t.M (.lst ys) = some xs from es)
    rw [← c.K] at b1
    exact call_tuple_of pins s σ t.H _ us Q I r ⟨a, vs, rfl, .inl ⟨b1, fun p n => newT_use gd l q2 n b2 b3⟩⟩
  | klst ys =>
    obtain ⟨a, vs, rfl, b1, b2, b3⟩ := lstOf_at gd h1 (show lstOf t.M (.klst ys) = some xs from es)
    rw [← c.K] at b1
    exact call_tuple_of pins s σ t.H _ us Q I r ⟨a, vs, rfl, .inl ⟨b1, fun p n => newT_use gd l q2 n b2 b3⟩⟩
  | ref p =>
    obtain ⟨a, vs, rfl, b1, b2, b3⟩ := lstOf_at gd h1 (show lstOf t.M (.ref p) = some xs from es)
    rw [← c.K] at b1
    exact call_tuple_of pins s σ t.H _ us Q I r ⟨a, vs, rfl, .inl ⟨b1, fun p n => newT_use gd l q2 n b2 b3⟩⟩
  | _ => cases es
theorem c_list (c : COk W k X) (fz : Bool) : CallR X (.type "list") (lL W fun ds M Q => arg1 ds fun x => someK (seqOf M x) fun xs => newL fz xs M Q) := c_one fun pins s σ t d v us Qp Q I r gd h1 q l => by
  obtain ⟨xs, es, q⟩ := someK_inv q
  obtain ⟨a, vs, rfl, b1, b2, b3⟩ := seqOf_at gd h1 es
  rw [← c.K] at b1
  exact call_list_of pins s σ t.H _ us Q I r ⟨a, vs, rfl, b1, fun p n => newL_use gd l q n b2 b3⟩
theorem c_sum (c : COk W k X) : CallR X (.builtin "sum") (lL W fun ds M Q => arg1 ds fun x => oneInts x M fun ns => Q (.int ns.sum) M) := c_one fun pins s σ t d v us Qp Q I r gd h1 q l => by
  obtain ⟨a, ns, rfl, b1, _, q⟩ := ints_at c gd h1 q
  exact cr_sum c.calm pins s σ t.H _ us Q I r ⟨a, ns, rfl, b1, latI gd l q⟩
theorem c_all (c : COk W k X) : CallR X (.builtin "all") (lL W fun ds M Q => arg1 ds fun x => oneBools x M fun bs => Q (.bl (bs.all id)) M) := c_one fun pins s σ t d v us Qp Q I r gd h1 q l => by
  obtain ⟨a, ns, rfl, b1, q⟩ := bools_at c gd h1 q
  exact cr_all c.calm pins s σ t.H _ us Q I r ⟨a, ns, rfl, b1, latB gd l q⟩
theorem c_any (c : COk W k X) : CallR X (.builtin "any") (lL W fun ds M Q => arg1 ds fun x => oneBools x M fun bs => Q (.bl (bs.any id)) M) := c_one fun pins s σ t d v us Qp Q I r gd h1 q l => by
  obtain ⟨a, ns, rfl, b1, q⟩ := bools_at c gd h1 q
  exact cr_any c.calm pins s σ t.H _ us Q I r ⟨a, ns, rfl, b1, latB gd l q⟩
theorem c_max2 (c : COk W k X) : CallR X (.builtin "max") (lL W fun ds M Q => arg2 ds fun x y => x.asI fun i => y.asI fun j => Q (.int (if j > i then j else i)) M) := c_two fun pins s σ t d e v w us Qp Q I r gd h1 h2 q l => by
  obtain ⟨i, rfl, q1⟩ := D.asI_inv q
  obtain ⟨j, rfl, q2⟩ := D.asI_inv q1
  cases repI h1; cases repI h2
  exact call_max2 c.calm pins s σ t.H _ us Q I r ⟨i, j, rfl, latI gd l q2⟩
theorem c_min2 (c : COk W k X) : CallR X (.builtin "min") (lL W fun ds M Q => arg2 ds fun x y => x.asI fun i => y.asI fun j => Q (.int (if j < i then j else i)) M) := c_two fun pins s σ t d e v w us Qp Q I r gd h1 h2 q l => by
  obtain ⟨i, rfl, q1⟩ := D.asI_inv q
  obtain ⟨j, rfl, q2⟩ := D.asI_inv q1
  cases repI h1; cases repI h2
  exact call_min2 c.calm pins s σ t.H _ us Q I r ⟨i, j, rfl, latI gd l q2⟩
theorem c_max (c : COk W k X) : CallR X (.builtin "max") (lL W fun ds M Q => arg1 ds fun x => oneInts x M fun ns => neInts ns fun n r => Q (.int (maxL n r)) M) := c_one fun pins s σ t d v us Qp Q I r gd h1 q l => by
  obtain ⟨a, ns, rfl, b1, _, q⟩ := ints_at c gd h1 q
  cases ns with
  | nil => exact (show False from q).elim
  | cons n ns =>
    refine cr_max c.calm pins s σ t.H _ us Q I r ⟨a, n :: ns, rfl, b1, by simp, fun m hm hle => ?_⟩
    rw [max_uniq hm hle]
    exact latI gd l q
theorem c_min (c : COk W k X) : CallR X (.builtin "min") (lL W fun ds M Q => arg1 ds fun x => oneInts x M fun ns => neInts ns fun n r => Q (.int (minL n r)) M) := c_one fun pins s σ t d v us Qp Q I r gd h1 q l => by
  obtain ⟨a, ns, rfl, b1, _, q⟩ := ints_at c gd h1 q
  cases ns with
  | nil => exact (show False from q).elim
  | cons n ns =>
    refine cr_min c.calm pins s σ t.H _ us Q I r ⟨a, n :: ns, rfl, b1, by simp, fun m hm hle => ?_⟩
    rw [min_uniq hm hle]
    exact latI gd l q
theorem c_sorted (c : COk W k X) (fz : Bool) : CallR X (.builtin "sorted") (lL W fun ds M Q => arg1 ds fun x => sortedD fz x M Q) := c_one fun pins s σ t d v us Qp Q I r gd h1 q l => by
  unfold sortedD at q
  split at q
  · rename_i kvs ed
    obtain ⟨a, vs, rfl, rfl, _, b1, b2, b3⟩ := dctOf_at gd h1 ed
    obtain ⟨ns, en, hn, q⟩ := someK_inv q
    refine call_sortedDI c.calm pins s σ t.H _ us Q I r ⟨a, vs, ns, rfl, .of b1, keysI_rep b3 en, hn, fun ys p hp hs n => ?_⟩
    rw [sorted_uniq (hp.trans (sortI_perm ns).symm) hs (sortI_sorted ns)]
    have e := (sortI_perm ns).length_eq
    exact newL_use gd l q n (by rw [List.length_map, e, sizeLine_eq]; omega) (reps_ints _)
  · obtain ⟨a, ns, rfl, b1, hz, q⟩ := ints_at c gd h1 q
    refine cr_sortedI pins s σ t.H _ us Q I r ⟨a, ns, rfl, b1, fun ys p hp hs n => ?_⟩
    rw [sorted_uniq (hp.trans (sortI_perm ns).symm) hs (sortI_sorted ns)]
    have e := (sortI_perm ns).length_eq
    exact newL_use gd l q n (by rw [List.length_map, e]; exact hz) (reps_ints _)
end
end TL

set_option Elab.async false
set_option linter.all false
set_option maxRecDepth 100000
set_option maxHeartbeats 4000000
/-! repr; sum of lists. -/
namespace TL
open PySem PySem.Spec PyProof.Rows L2
section
variable {W : Wd} {k : Nat} {X : Cx}
mutual
theorem show_py : ∀ d : D, d.plain = true → d.smalls = true → d.py.showable = true ∧ d.py.hasDict = false
  | .non, _, _ => by simp only [D.py, PyData.showable, PyData.hasDict]; exact ⟨trivial, trivial⟩
  | .bl _, _, _ => by simp only [D.py, PyData.showable, PyData.hasDict]; exact ⟨trivial, trivial⟩
  | .int i, _, h => by
    simp only [D.smalls, decide_eq_true_eq] at h
    simp only [D.py, PyData.showable, PyData.hasDict, decide_eq_true_eq]
    exact ⟨by omega, trivial⟩
  | .str _, _, _ => by simp only [D.py, PyData.showable, PyData.hasDict]; exact ⟨trivial, trivial⟩
  | .tup xs, p, h => by
    simp only [D.plain] at p; simp only [D.smalls] at h
    simp only [D.py, PyData.showable, PyData.hasDict]; exact show_pys xs p h
  | .lst xs, p, h => by
    simp only [D.plain] at p; simp only [D.smalls] at h
    simp only [D.py, PyData.showable, PyData.hasDict]; exact show_pys xs p h
  | .klst xs, p, h => by
    simp only [D.plain] at p; simp only [D.smalls] at h
    simp only [D.py, PyData.showable, PyData.hasDict]; exact show_pys xs p h
  | .flt _, p, _ => by simp only [D.plain] at p; cases p
  | .ref _, p, _ => by simp only [D.plain] at p; cases p
  | .glb _, p, _ => by simp only [D.plain] at p; cases p
theorem show_pys : ∀ ds : List D, plains ds = true → smallss ds = true → PyData.showableAll (pys ds) = true ∧ PyData.hasDictAll (pys ds) = false
  | [], _, _ => by simp only [pys, PyData.showableAll, PyData.hasDictAll]; exact ⟨trivial, trivial⟩
  | d :: ds, p, h => by
    simp only [plains, Bool.and_eq_true] at p
    simp only [smallss, Bool.and_eq_true] at h
    obtain ⟨a, b⟩ := show_py d p.1 h.1
    obtain ⟨a', b'⟩ := show_pys ds p.2 h.2
    simp only [pys, PyData.showableAll, PyData.hasDictAll, a, a', b, b']
    exact ⟨rfl, rfl⟩
end
theorem c_repr (c : COk W k X) : CallR X (.builtin "repr") (lL W fun ds M Q => arg1 ds fun x => reprD x M Q) := c_one fun pins s σ t d v us Qp Q I r gd h1 q l => by
  obtain ⟨p1, p2, p3, q⟩ := q
  have dp := now_dp gd h1 (pok_plain p1)
  obtain ⟨u, rfl, ru⟩ := vals1 r
  obtain ⟨sh, hd⟩ := show_py (now t.M d) (pok_plain p1) p2
  have hdp : (now t.M d).py.depth ≤ 61 := by
    unfold D.pok at p1
    simp only [Bool.and_eq_true, decide_eq_true_eq] at p1
    have := depth_py (now t.M d)
    omega
  have fin : ∀ (s' : Shared) tk, L2.Inv X pins σ t.H s' → EP X pins σ Q (.str (now t.M d).py.shown tk) s' := fun s' tk I' => ⟨.str _, t.H, I', ⟨tk, rfl⟩, latS gd l p3 q⟩
  generalize hw : now t.M d = w at *
  rw [← c.K] at dp
  obtain ⟨as, rd⟩ := Dp.reads I w.py v u dp ru
  cases v with
  | ref a =>
    cases ru
    exact repr_of_reads' rd sh (PyData.noDict_hsm hd) c.gd (by have := c.hu; omega) (fun _ _ e => e) (fun h' u tk hk => fin _ _ (I.kept hk)) p3
  | non =>
    cases ru
    cases w <;> simp only [D.py] at dp fin p3 <;> cases dp <;> exact P.repr_of_none (fin _ _ (I.tok _))
  | bl b =>
    cases ru
    cases w <;> simp only [D.py] at dp fin p3 <;> cases dp
    exact P.repr_of_bool (fin _ _ (I.tok _))
  | int i =>
    obtain ⟨t', rfl⟩ := ru
    cases w <;> simp only [D.py] at dp fin p3 sh <;> cases dp
    simp only [PyData.showable, decide_eq_true_eq] at sh
    exact P.repr_of_int sh (fin _ _ (I.tok _))
  | str z =>
    obtain ⟨t', rfl⟩ := ru
    cases w <;> simp only [D.py] at dp fin p3 <;> cases dp
    exact P.repr_of_str (fin _ _ (I.tok _)) p3
  | _ => cases dp
end

section
variable {W : Wd} {k : Nat} {X : Cx}
theorem lsts_rep {t : Sta} (gd : Good W t) : ∀ {ds : List D} {vs : List V} {ys : List (List D)}, Reps W t ds vs → lstsOf t.M ds = some ys → vs.length = ys.length ∧
    ∀ (i : Nat) (v : V), vs[i]? = some v → ∃ (a : Addr) (us : List V) (y : List D), v = V.ref a ∧ t.H a = some (.lst us) ∧ ys[i]? = some y ∧ Reps W t y us
  | [], vs, ys, h, e => by cases Reps.nil_inv h; cases e; exact ⟨rfl, fun i v q => by simp at q⟩
  | d :: ds, vs, ys, h, e => by
    obtain ⟨v, r, rfl, h1, h2⟩ := Reps.cons_inv h
    unfold lstsOf at e
    split at e
    · rename_i a b ea eb
      cases e
      obtain ⟨l1, l2⟩ := lsts_rep gd h2 eb
      obtain ⟨p, us, rfl, b1, b2, b3⟩ := catOf_at gd h1 ea
      refine ⟨by simp [l1], fun i v q => ?_⟩
      cases i with
      | zero => simp at q; subst q; exact ⟨p, us, a, rfl, b1, rfl, b3⟩
      | succ i => exact l2 i v (by simpa using q)
    · cases e
theorem args_sum2 (a b : Value) : argsOk "sum" ⟨[a, b], []⟩ := by unfold argsOk; kernel_rfl
/-- the state of the adding: i lists are taken, what came stands at acc -/
structure Sum2 (X : Cx) (pins : List (Addr × Obj)) (σ : L2.St) (H : Hp) (I S x : Addr) (its : List Value) (vs : List V) (i : Nat) (s : Shared) (a0 ac : Addr) (us : List V) (Hc : Hp) : Prop where
  inv : L2.Inv X pins σ Hc s
  sub : ∀ b o, H b = some o → Hc b = some o
  it : s.heap.IsListIter I x i
  st : ∃ c, s.heap.get? S = some { cls := .type "list", dict := none, data := .seq #[.ref ac] c, slots := #[] }
  nI : Hc I = none
  nS : Hc S = none
  acc : Hc ac = some (.lst us)
  new : ac = a0 ∨ H ac = none
theorem sum2_loop {A : Around} {pins : List (Addr × Obj)} {σ : L2.St} {H : Hp} {I S x a0 : Addr} {its : List Value} {vs : List V} {R : Result → Shared → Prop} {g : Nat → List V → Prop} (hh : A.in1.handled = none)
    (hx : SqL X.K H x vs) (hIS : I ≠ S)
    (fI : ∀ H' s', L2.Inv X pins σ H' s' → H' I = none → FpOk X pins H' I) (fS : ∀ H' s', L2.Inv X pins σ H' s' → H' S = none → FpOk X pins H' S)
    (g0 : ∀ i us v, g i us → vs[i]? = some v → ∃ b ws, v = .ref b ∧ H b = some (.lst ws) ∧ us.length + ws.length ≤ sizeLine ∧ g (i + 1) (us ++ ws))
    (hR : ∀ s' acc us Hc t, L2.Inv X pins σ Hc s' → (∀ b o, H b = some o → Hc b = some o) → Hc acc = some (.lst us) → (acc = a0 ∨ H acc = none) → g vs.length us → R (.ok (.ret (.ref acc))) { s' with toks := t }) :
    ∀ (n i : Nat) (s : Shared) (acc : Addr) (us : List V) (Hc : Hp), vs.length - i = n → i ≤ vs.length → g i us → Sum2 X pins σ H I S x its vs i s a0 acc us Hc →
      codeAny (model X.prog X.w) A (.builtin "sum.loop" ⟨[.ref I, .ref S, rawInt 2, rawInt 0], []⟩) R s := by
  intro n
  induction n with
  | zero =>
    intro i s acc us Hc hn hi hg st
    have e : i = vs.length := by omega
    subst e
    obtain ⟨c, hS⟩ := st.st
    have hx' : SqL X.K Hc x vs := (show Same H Hc from st.sub).seq hx
    obtain ⟨its', rv, pl, hz⟩ := st.inv.list hx'
    refine codeAny_builtin F.entry_sum_loop ?_
    rw [Around.under_plainId F.plain_sum_loop _]
    show wpAny _ A.in1 (seqItems? (.ref S) >>= _) _ _ s
    refine wpAny_bind (wpAny_seqItems hS rfl ?_)
    show wpAny _ A.in1 (tryCatch (pyNext (.ref I)) _ >>= _) _ _ s
    refine wpAny_bind (wpAny_tryCatch (wpAny_pyNext_list_end hh st.it pl.isList (by have := rv.length; simp; omega) fun h' eb => ?_))
    obtain ⟨f0, f1, f2, f3, f4, f5⟩ := fI _ _ st.inv st.nI
    exact wpAny_pure (hR { s with heap := h' } acc us Hc _ (st.inv.turned (t' := s.toks) (fun b o hb q => eb b o hb q) f0 f1 f3 f4 f5) st.sub st.acc st.new hg)
  | succ n ih =>
    intro i s acc us Hc hn hi hg st
    have hlt : i < vs.length := by omega
    obtain ⟨c, hS⟩ := st.st
    have hx' : SqL X.K Hc x vs := (show Same H Hc from st.sub).seq hx
    obtain ⟨its', rv, pl, hz⟩ := st.inv.list hx'
    obtain ⟨v, hv⟩ : ∃ v, vs[i]? = some v := ⟨vs[i], by simp [hlt]⟩
    obtain ⟨u, hu, ru⟩ := rv.get hv
    obtain ⟨b, ws, rfl, hb, hl, hg'⟩ := g0 i us v hg hv
    cases ru
    refine codeAny_builtin F.entry_sum_loop ?_
    rw [Around.under_plainId F.plain_sum_loop _]
    show wpAny _ A.in1 (seqItems? (.ref S) >>= _) _ _ s
    refine wpAny_bind (wpAny_seqItems hS rfl ?_)
    show wpAny _ A.in1 (tryCatch (pyNext (.ref I)) _ >>= _) _ _ s
    refine wpAny_bind (wpAny_tryCatch (wpAny_pyNext_list_item st.it pl.isList (x := .ref b) (by simpa using hu) fun h1 it1 sb => ?_))
    obtain ⟨f0, f1, f2, f3, f4, f5⟩ := fI _ _ st.inv st.nI
    have I1 : L2.Inv X pins σ Hc { s with heap := h1 } := st.inv.turned (t' := s.toks) (fun b o hb e => (sb.2 b hb).trans e) f0 f1 f3 f4 f5
    have hS1 : h1.get? S = some { cls := .type "list", dict := none, data := .seq #[.ref acc] c, slots := #[] } := (sb.2 S (Ne.symm hIS)).trans hS
    show wpAny _ A.in1 ((holding [Value.ref b] (binaryOp .Add (.ref acc) (.ref b))).attempt >>= _) _ _ _
    obtain ⟨z1, i1, n1, r1, l1, e1⟩ := I1.lstM st.acc
    obtain ⟨z2, i2, n2, r2, l2, e2⟩ := I1.lstM (st.sub b _ hb)
    refine wpAny_bind (wpAny_attempt (wpAny_holding (PySem.P.add_list e1 e2 ?_ (by rw [List.size_toArray, List.size_toArray]; omega))))
    have ea : i1.toArray ++ i2.toArray = (i1 ++ i2).toArray := by simp
    rw [ea]
    have I2 := I1.lnew (t' := s.toks) (r1.append r2) (by rw [List.length_append]; omega)
    have hnew : Hc h1.objs.size = none := I1.hok.fresh (Nat.le_refl _)
    have nIz : I ≠ h1.objs.size := by
      obtain ⟨o, e, _⟩ := it1
      exact Nat.ne_of_lt (Heap.lt_size e)
    have nSz : S ≠ h1.objs.size := Nat.ne_of_lt (Heap.lt_size hS1)
    have hS2 : (h1.push { cls := .type "list", data := .seq (i1 ++ i2).toArray }).get? S = some { cls := .type "list", dict := none, data := .seq #[.ref acc] c, slots := #[] } := Heap.get?_push_of_some _ hS1
    show wpAny _ A.in1 (updateSeq S (fun _ => #[.ref h1.objs.size]) >>= _) _ _ _
    refine wpAny_bind (wpAny_updateSeq hS2 rfl ?_)
    have hS3 := Heap.get?_update_self (Obj.mapSeq fun _ => #[Value.ref h1.objs.size]) hS2 rfl
    refine wpAny_bind (wpAny_letGo ?_)
    refine wpAny_bind (wpAny_updateSeq hS3 rfl ?_)
    obtain ⟨k0, k1, k2, k3, k4, k5⟩ := fS _ _ I2 (by rw [upd_ne nSz]; exact st.nS)
    have I3 := I2.turned (h' := (((h1.push { cls := .type "list", data := .seq (i1 ++ i2).toArray }).update S (Obj.mapSeq fun _ => #[Value.ref h1.objs.size])).update S (Obj.mapSeq fun _ => #[Value.ref h1.objs.size]))) (t' := s.toks)
      (fun b o hb q => (Heap.get?_update_other _ _ (Ne.symm hb)).trans ((Heap.get?_update_other _ _ (Ne.symm hb)).trans q)) k0 k1 k3 k4 k5
    refine wpAny_pure ⟨plainId_quiet F.plain_sum_loop _, ih (i + 1) _ h1.objs.size (us ++ ws) _ (by omega) hlt hg' ⟨I3, fun b o q => ?_, ?_, ?_, ?_, ?_, upd_same, ?_⟩⟩
    · rw [upd_ne (ne_of_none (st.sub b o q) hnew)]; exact st.sub b o q
    · have it2 : (h1.push { cls := .type "list", data := .seq (i1 ++ i2).toArray }).IsListIter I x (i + 1) := it1.at fun o q => Heap.get?_push_of_some _ q
      refine it2.at fun o q => ?_
      exact (Heap.get?_update_other _ _ (Ne.symm hIS)).trans ((Heap.get?_update_other _ _ (Ne.symm hIS)).trans q)
    · exact ⟨_, Heap.get?_update_self _ hS3 rfl⟩
    · rw [upd_ne nIz]; exact st.nI
    · rw [upd_ne nSz]; exact st.nS
    · refine .inr ?_
      cases q : H h1.objs.size with
      | none => rfl
      | some o => have := st.sub _ _ q; rw [hnew] at this; cases this
theorem take_flat {ys : List (List D)} {i : Nat} {y : List D} (h : ys[i]? = some y) : (ys.take (i + 1)).flatten = (ys.take i).flatten ++ y := by
  rw [List.take_succ, h, List.flatten_append]; simp
theorem flat_len {ys : List (List D)} {i : Nat} : ((ys.take i).flatten).length ≤ ys.flatten.length := by
  conv => rhs; rw [← List.take_append_drop i ys, List.flatten_append, List.length_append]
  omega
theorem c_sum2 (c : COk W k X) : CallR X (.builtin "sum") (lL W fun ds M Q => arg2 ds fun x y => sum2D x y M Q) := c_two fun pins s σ t d e v w us Qp Q I r gd h1 h2 q l => by
  unfold sum2D at q
  split at q
  · obtain ⟨xs, ex, q⟩ := someK_inv q
    obtain ⟨ys, ey, hz, q⟩ := someK_inv q
    obtain ⟨x, vs, rfl, b1, b2, b3⟩ := lstOf_at gd h1 ex
    obtain ⟨ln, hys⟩ := lsts_rep gd b3 ey
    have h2' := h2
    simp only [Rep] at h2'
    obtain ⟨a0, us0, rfl, ⟨cF, c1⟩, c2, c3⟩ := h2'
    cases Reps.nil_inv c3
    rw [← c.K] at b1
    obtain ⟨its, rv, pl, hsz⟩ := I.list b1
    cases r with | cons r1 r =>
    cases r with | cons r2 r =>
    cases r
    cases r1; cases r2
    refine call_function_tree F.kind_sum F.plain_sum F.entry_sum (args_sum2 _ _) ?_
    unfold Builtin.«sum»
    simp only [List.length_cons, List.length_nil]
    rw [if_neg (by decide)]
    refine wpAny_bind (wpAny_of_eq (show Builtin.Builtins.bindParams "sum" ["start"] 0 { pos := [.ref a0] } = pure [some (.ref a0)] from rfl) ?_)
    refine wpAny_bind (wpAny_pyIter_list pl.isList ?_)
    refine wpAny_bind (wpAny_pure ?_)
    have I1 := I.kept (h' := s.heap.push { cls := .type "list_iterator", data := .fields #[.ref x, .int 0 0] }) (t' := s.toks) fun b o q => Heap.get?_push_of_some _ q
    obtain ⟨z1, i1, n1, r1, l1, e1⟩ := I1.lstM c1
    have ty : Shared.TypeIs { s with heap := s.heap.push { cls := .type "list_iterator", data := .fields #[.ref x, .int 0 0] } } (.ref a0) "list" := ⟨_, e1, rfl⟩
    simp only [List.forIn_cons, List.forIn_nil]
    refine wpAny_bind (wpAny_bind (wpAny_bind (wpAny_isInstance (T := "list") (b := false) ty F.sub_list_str ?_)))
    simp only [Bool.false_eq_true, if_false]
    refine wpAny_pure (wpAny_bind (wpAny_bind (wpAny_isInstance (T := "list") (b := false) ty F.sub_list_bytes ?_)))
    simp only [Bool.false_eq_true, if_false]
    refine wpAny_pure (wpAny_bind (wpAny_bind (wpAny_isInstance (T := "list") (b := false) ty F.sub_list_bytearray ?_)))
    simp only [Bool.false_eq_true, if_false]
    refine wpAny_pure (wpAny_pure ?_)
    refine wpAny_bind (wpAny_newObj_type ?_)
    have I2 := I1.kept (h' := (s.heap.push { cls := .type "list_iterator", data := .fields #[.ref x, .int 0 0] }).push { cls := .type "list", data := .seq #[.ref a0] }) (t' := s.toks) fun b o q => Heap.get?_push_of_some _ q
    have e2 : (s.heap.push { cls := .type "list_iterator", data := .fields #[.ref x, .int 0 0] }).objs.size = s.heap.objs.size + 1 := Heap.size_push ..
    refine wpAny_pure ⟨plainId_quiet F.plain_sum_loop _, ?_⟩
    refine sum2_loop (its := its) (H := t.H) (a0 := a0) (g := fun i us => Reps W t (ys.take i).flatten us) (I.ok.hd c.calm) b1 (I := s.heap.objs.size) (by show _ ≠ (s.heap.push _).objs.size; rw [e2]; omega)
      (fun H' s' I' n => I.fpOk (Nat.le_refl _) n) (fun H' s' I' n => I.fpOk (by show _ ≤ (s.heap.push _).objs.size; rw [e2]; omega) n) (fun i us v g hv => ?_) (fun s' acc us Hc tk I' sub ha hn g => ?_) _ 0 _ a0 [] t.H rfl (Nat.zero_le _) ?_
      ⟨I2, fun _ _ e => e, ⟨_, Heap.get?_push_of_some _ (Heap.get?_push_size _ rfl), rfl, rfl⟩, ⟨_, Heap.get?_push_size _ rfl⟩, I.hok.fresh (Nat.le_refl _), I.hok.fresh (by show _ ≤ (s.heap.push _).objs.size; rw [e2]; omega), c1, .inl rfl⟩
    · obtain ⟨b, ws, y, rfl, k1, k2, k3⟩ := hys i v hv
      refine ⟨b, ws, rfl, k1, ?_, ?_⟩
      · have a1 := g.length
        have a2 := k3.length
        have a3 := flat_len (ys := ys) (i := i + 1)
        rw [take_flat k2, List.length_append] at a3
        omega
      · show Reps W t (ys.take (i + 1)).flatten (us ++ ws)
        rw [take_flat k2]
        exact g.append k3
    · have g' : Reps W t ys.flatten us := by
        have g2 : Reps W t (ys.take vs.length).flatten us := g
        rw [ln, List.take_length] at g2; exact g2
      have mF : t.M acc = none := by
        rcases hn with rfl | hn
        · exact (gd.fr _ cF).1
        · exact gd.fresh hn
      have fst : Fst t ⟨Hc, t.M, fun b => b = acc ∨ t.F b⟩ := fun b f => ⟨.inr f, fun o q => sub b o q⟩
      have I3 := I'.kept (h' := s'.heap) (t' := tk) fun _ _ q => q
      refine ⟨.ref acc, Hc, I3, rfl, ?_⟩
      refine l (.lst ys.flatten) (.ref acc) ⟨Hc, t.M, fun b => b = acc ∨ t.F b⟩ ⟨fun b o q n => ⟨sub b o q, n⟩, fun b f => .inr f, fun b o q n f => ?_⟩ ⟨fun b o q => (gd.at_ b o q).ext fst fun u z => sub b u z, fun b f => ?_⟩ ?_ q
      · rcases f with rfl | f
        · rcases hn with rfl | hn
          · exact cF
          · rw [hn] at q; cases q
        · exact f
      · rcases f with rfl | f
        · exact ⟨mF, _, ha⟩
        · obtain ⟨m1, o, m2⟩ := gd.fr b f
          exact ⟨m1, o, sub _ _ m2⟩
      · simp only [Rep]
        refine ⟨acc, us, rfl, ⟨.inl rfl, ha⟩, ?_, g'.ext fst⟩
        rw [g'.length]; exact hz
    · simp; exact Reps.nil
  · exact q.elim
end
end TL

set_option Elab.async false
set_option linter.all false
set_option maxRecDepth 100000
set_option maxHeartbeats 4000000
/-! Methods of built-in types. -/
namespace TL
open PySem PySem.Spec PyProof.Rows L2
section
variable {W : Wd} {k : Nat} {X : Cx}
def mid : Ty → BM → String
  | .list, .append => "list.append"
  | .list, .extend => "list.extend"
  | .list, .pop => "list.pop"
  | .dict, .get => "dict.get"
  | .dict, .setdefault => "dict.setdefault"
  | .str, .join => "str.join"
  | .str, .split => "str.split"
  | _, _ => ""
theorem reps_strs {t : Sta} : ∀ {ns : List Str}, (∀ y ∈ ns, y.length ≤ sizeLine) → Reps W t (ns.map .str) (ns.map V.str)
  | [], _ => Reps.nil
  | n :: ns, h => Reps.cons (by simp only [Rep]; exact ⟨trivial, h n (by simp)⟩) (reps_strs fun y hy => h y (by simp [hy]))
theorem Reps.dropLast {t : Sta} : ∀ {ds : List D} {vs : List V}, Reps W t ds vs → Reps W t ds.dropLast vs.dropLast
  | [], _, h => by cases Reps.nil_inv h; exact Reps.nil
  | [d], _, h => by
    obtain ⟨v, r, rfl, h1, h2⟩ := Reps.cons_inv h
    cases Reps.nil_inv h2; exact Reps.nil
  | d :: e :: ds, _, h => by
    obtain ⟨v, r, rfl, h1, h2⟩ := Reps.cons_inv h
    have ih := Reps.dropLast h2
    obtain ⟨w, q, rfl, h3, h4⟩ := Reps.cons_inv h2
    exact Reps.cons h1 ih
theorem lM_put {t : Sta} {Qp : KD} {Q : VK} {p : Addr} {xs ys : List D} {us : List V} {d : D} {v : V} (gd : Good W t) (l : Lat W t Qp Q) (em : t.M p = some (.lst xs)) (hz : us.length ≤ sizeLine) (r : Reps W t ys us) (rd : Rep W t d v)
    (q : Qp d (mput t.M p (.lst ys))) : Q v (upd t.H p (.lst us)) :=
  have f : Fst t (t.put p (.lst us) (.lst ys)) := Fst.put (gd.nfM em)
  l d v (t.put p (.lst us) (.lst ys)) (Ext.put em) (gd.put em ⟨us, upd_same, hz, r.ext f⟩) (rd.ext f) q
theorem m_D (c : COk W k X) (ty : Ty) (m : BM) (fz : Bool) : MtR X (mid ty m) (lM W (bmD ty m fz)) := by
  intro pins s σ H x xs v us Q I rx rs h
  obtain ⟨dx, ds, t, Qp, rfl, gd, hx, hs, q, l⟩ := h
  unfold bmD at q
  split at q
  · rename_i d
    obtain ⟨p, ys, rfl, em, hz, q⟩ := mlst_inv q
    have := repR hx; subst this
    obtain ⟨y, r, rfl, h1, h2⟩ := Reps.cons_inv hs
    cases Reps.nil_inv h2
    obtain ⟨vs, a1, a2, a3⟩ := gd.at_ p _ em
    have e := a3.length
    exact mt_append pins s σ t.H _ _ v us Q I rx rs ⟨p, vs, y, rfl, rfl, a1, by omega, lM_put gd l em (by rw [List.length_append]; simp; omega) (a3.append (Reps.one h1)) (by simp only [Rep]) q⟩
  · rename_i y
    obtain ⟨p, ys, rfl, em, q⟩ := mlst_inv q
    obtain ⟨zs, ez, hz, q⟩ := someK_inv q
    have := repR hx; subst this
    obtain ⟨y, r, rfl, h1, h2⟩ := Reps.cons_inv hs
    cases Reps.nil_inv h2
    obtain ⟨vs, a1, a2, a3⟩ := gd.at_ p _ em
    obtain ⟨b, ws, rfl, b1, b2, b3⟩ := catOf_at gd h1 ez
    have e := a3.length
    have e2 := b3.length
    exact mt_extend pins s σ t.H _ _ v us Q I rx rs ⟨p, b, vs, ws, rfl, rfl, a1, b1, by omega, lM_put gd l em (by rw [List.length_append]; omega) (a3.append b3) (by simp only [Rep]) q⟩
  · obtain ⟨p, ys, rfl, em, q⟩ := mlst_inv q
    obtain ⟨d, ed, q⟩ := optK_inv q
    have := repR hx; subst this
    cases Reps.nil_inv hs
    obtain ⟨vs, a1, a2, a3⟩ := gd.at_ p _ em
    have e := a3.length
    rw [← e] at ed
    obtain ⟨w, ew, rw'⟩ := a3.get ed
    exact mt_pop pins s σ t.H _ _ v us Q I rx rs ⟨p, vs, w, rfl, rfl, a1, ew, lM_put gd l em (by rw [List.length_dropLast]; omega) a3.dropLast rw' q⟩
  · rename_i i
    obtain ⟨p, ys, rfl, em, q⟩ := mlst_inv q
    obtain ⟨i, rfl, q⟩ := D.asI_inv q
    obtain ⟨j, ej, q⟩ := someK_inv q
    obtain ⟨d, ed, q⟩ := optK_inv q
    have := repR hx; subst this
    obtain ⟨y, r, rfl, h1, h2⟩ := Reps.cons_inv hs
    cases Reps.nil_inv h2
    have := repI h1; subst this
    obtain ⟨vs, a1, a2, a3⟩ := gd.at_ p _ em
    have e := a3.length
    rw [← e] at ej
    obtain ⟨e1, e2, e3, e4⟩ := ixN_seq ej
    obtain ⟨w, ew, rw'⟩ := a3.get ed
    have := line63
    have := len_erase vs j
    exact mt_popAt pins s σ t.H _ _ v us Q I rx rs ⟨p, vs, i, j, w, rfl, rfl, a1, by omega, by omega, e1, ew, lM_put gd l em (by omega) (a3.eraseIdx j) rw' q⟩
  · rename_i y
    obtain ⟨kvs, ek, q2⟩ := someK_inv q
    obtain ⟨kk, ey, q3⟩ := someK_inv q2
    obtain ⟨a, vs, rfl, rfl, _, b1, b2, b3⟩ := dctOf_at gd hx ek
    obtain ⟨y, r, rfl, h1, h2⟩ := Reps.cons_inv hs
    cases Reps.nil_inv h2
    have := keyOf_at h1 ey; subst this
    obtain ⟨u, rfl, ru⟩ := rs.one
    obtain rfl : v = Value.ref a := rx
    refine d_get1 c.hu1 I (DGet.k (k := kk) b1) ru fun w' s' I' rw' => ⟨_, _, I', rw', ?_⟩
    rcases b3.get kk with ⟨e1, e2⟩ | ⟨d, v, e1, e2, rv⟩
    · rw [e2]; rw [e1] at q3; exact lat0 (d := .non) (v := .non) gd l (by simp only [Rep]) q3
    · rw [e2]; rw [e1] at q3; exact lat0 gd l rv q3
  · rename_i y z
    obtain ⟨kvs, ek, q2⟩ := someK_inv q
    obtain ⟨kk, ey, q3⟩ := someK_inv q2
    obtain ⟨a, vs, rfl, rfl, _, b1, b2, b3⟩ := dctOf_at gd hx ek
    obtain ⟨y, r, rfl, h1, h2⟩ := Reps.cons_inv hs
    obtain ⟨z', r, rfl, h3, h4⟩ := Reps.cons_inv h2
    cases Reps.nil_inv h4
    have := keyOf_at h1 ey; subst this
    obtain ⟨u, u', rfl, ru, ru'⟩ := rs.two
    obtain rfl : v = Value.ref a := rx
    refine d_get2 c.hu1 I (DGet.k (k := kk) b1) ru ru' fun w' s' I' rw' => ⟨_, _, I', rw', ?_⟩
    rcases b3.get kk with ⟨e1, e2⟩ | ⟨d, v, e1, e2, rv⟩
    · rw [e2]; rw [e1] at q3; exact lat0 gd l h3 q3
    · rw [e2]; rw [e1] at q3; exact lat0 gd l rv q3
  · rename_i y z
    obtain ⟨p, kvs, rfl, em, q2⟩ := mdct_inv q
    obtain ⟨kk, ey, hlen, q3⟩ := someK_inv q2
    have := repR hx; subst this
    obtain ⟨y, r, rfl, h1, h2⟩ := Reps.cons_inv hs
    obtain ⟨z', r, rfl, h3, h4⟩ := Reps.cons_inv h2
    cases Reps.nil_inv h4
    have := keyOf_at h1 ey; subst this
    obtain ⟨u, u', rfl, ru, ru'⟩ := rs.two
    obtain rfl : v = Value.ref p := rx
    obtain ⟨vs, b1, b2, b3⟩ := gd.at_ p _ em
    have bl := b3.length
    refine d_setd I b1 ru ru' (by omega) (fun v' hv w' s' I' rw' => ⟨_, _, I', rw', ?_⟩) fun hv w' s' I' rw' => ⟨_, _, I', rw', ?_⟩
    · rcases b3.get kk with ⟨e1, e2⟩ | ⟨d, v, e1, e2, rv⟩
      · rw [e2] at hv; cases hv
      · rw [e2] at hv; cases hv
        rw [e1] at q3; exact lat0 gd l rv q3
    · rcases b3.get kk with ⟨e1, e2⟩ | ⟨d, v, e1, e2, rv⟩
      · rw [e1] at q3
        refine l _ _ (t.put p (.dK (L2.putK vs kk z')) (.dct (kput kvs kk z))) (Ext.put em) (gd.put em ?_) (h3.ext (Fst.put (gd.nfM em))) q3
        refine ⟨_, upd_same, ?_, (b3.put h3).ext (Fst.put (gd.nfM em))⟩
        have := kput_len vs kk z'
        omega
      · rw [e2] at hv; cases hv
  · rename_i y
    split at q
    · rename_i z
      obtain ⟨ys, ey, q⟩ := someK_inv q
      obtain ⟨ns, en, hz, hj, q⟩ := someK_inv q
      obtain ⟨rfl, hl⟩ := repS hx
      obtain ⟨y, r, rfl, h1, h2⟩ := Reps.cons_inv hs
      cases Reps.nil_inv h2
      obtain ⟨a, vs, rfl, b1, b2, b3⟩ := seqOf_at gd h1 ey
      have := strs_rep b3 en; subst this
      rw [← c.K] at b1
      exact mt_join pins s σ t.H _ _ v us Q I rx rs ⟨z, a, ns, rfl, rfl, b1, hz, latS gd l hj q⟩
    · exact q.elim
  · rename_i b
    split at q
    · rename_i z
      obtain ⟨hb, hz, hy, q⟩ := q
      obtain ⟨rfl, hl⟩ := repS hx
      obtain ⟨y, r, rfl, h1, h2⟩ := Reps.cons_inv hs
      cases Reps.nil_inv h2
      obtain ⟨rfl, _⟩ := repS h1
      refine mt_split pins s σ t.H _ _ v us Q I rx rs ⟨z, b, rfl, rfl, hb, hz, fun p n => newL_use gd l q n ?_ (reps_strs hy)⟩
      rw [List.length_map]
      exact Nat.le_trans (PyProof.Rows.split_le z b) hz
    · exact q.elim
  · exact q.elim
/-- the value is of that type -/
theorem ty_D {pins : List (Addr × Obj)} {σ : L2.St} {t : Sta} {s : Shared} {d : D} {x : V} {v : Value} {ty : Ty} (c : COk W k X) (I : L2.Inv X pins σ t.H s) (gd : Good W t) (hx : Rep W t d x) (r : RelV x v) (e : tyOf t.M d = some ty) :
    (ty = .list → tyV X.K "list" x t.H) ∧ (ty = .dict → tyV X.K "dict" x t.H) ∧ (ty = .str → tyV X.K "str" x t.H) := by
  cases d with
  | lst xs => obtain ⟨a, vs, rfl, b1, _⟩ := lstAt hx; cases e; exact ⟨fun _ => .inl ⟨rfl, vs, .of b1⟩, fun h => (by cases h), fun h => (by cases h)⟩
  | klst xs => obtain ⟨a, vs, rfl, b1, _⟩ := klstAt hx; cases e; rw [← c.K] at b1; exact ⟨fun _ => .inl ⟨rfl, vs, b1⟩, fun h => (by cases h), fun h => (by cases h)⟩
  | str z => obtain ⟨rfl, _⟩ := repS hx; cases e; exact ⟨fun h => (by cases h), fun h => (by cases h), fun _ => rfl⟩
  | tup xs => cases e; exact ⟨fun h => (by cases h), fun h => (by cases h), fun h => (by cases h)⟩
  | ref p =>
    have := repR hx; subst this
    unfold tyOf at e
    dsimp only at e
    split at e
    · rename_i xs em
      cases e
      obtain ⟨vs, a1, _⟩ := gd.at_ p _ em
      exact ⟨fun _ => .inl ⟨rfl, vs, .of a1⟩, fun h => (by cases h), fun h => (by cases h)⟩
    · rename_i xs em
      cases e
      obtain ⟨vs, a1, _⟩ := gd.at_ p _ em
      exact ⟨fun h => (by cases h), fun _ => .inr (.inr (.inl ⟨rfl, .inl ⟨vs, a1⟩⟩)), fun h => (by cases h)⟩
    · cases e
  | _ => cases e
theorem bmD_ok {ty : Ty} {m : BM} {fz : Bool} {d : D} {ds : List D} {M : Mm} {Q : KD} (h : bmD ty m fz d ds M Q) : okM ty m = true := by
  unfold bmD at h
  split at h <;> first | rfl | exact h.elim
theorem bm_on {pins : List (Addr × Obj)} {σ : L2.St} {t : Sta} {s : Shared} {d : D} {x : V} {v : Value} {ty : Ty} {m : BM} {pos : Pos} {trees : List (Bool × Sem Value)} {Q : Value → Shared → Prop} (c : COk W k X) (I : L2.Inv X pins σ t.H s) (gd : Good W t) (hx : Rep W t d x) (r : RelV x v) (e : tyOf t.M d = some ty) (ok : okM ty m = true)
    (h : wpAny (model X.prog X.w) X.A (callWith pos (.builtin (mid ty m)) [v] trees []) Q X.xe s) : MethodOn X.prog X.w X.A m.name pos v trees Q X.xe s := by
  obtain ⟨t1, t2, t3⟩ := ty_D c I gd hx r e
  cases ty <;> cases m <;> first
    | exact absurd ok (by decide)
    | (obtain ⟨h1, h2⟩ := tyV_is I r (t1 rfl)
       first
         | exact ⟨_, _, F.plainAttrs_list, F.slot_list_append, F.type_list_append, h1, h2, h⟩
         | exact ⟨_, _, F.plainAttrs_list, F.slot_list_extend, F.type_list_extend, h1, h2, h⟩
         | exact ⟨_, _, F.plainAttrs_list, F.slot_list_pop, F.type_list_pop, h1, h2, h⟩)
    | (obtain ⟨h1, h2⟩ := tyV_is I r (t2 rfl)
       first
         | exact ⟨_, _, F.plainAttrs_dict, F.slot_dict_get, F.type_dict_get, h1, h2, h⟩
         | exact ⟨_, _, F.plainAttrs_dict, F.slot_dict_setdefault, F.type_dict_setdefault, h1, h2, h⟩)
    | (obtain ⟨h1, h2⟩ := tyV_is I r (t3 rfl)
       first
         | exact ⟨_, _, F.plainAttrs_str, F.slot_str_join, F.type_str_join, h1, h2, h⟩
         | exact ⟨_, _, F.plainAttrs_str, F.slot_str_split, F.type_str_split, h1, h2, h⟩)
end
end TL

set_option Elab.async false
set_option linter.all false
set_option maxRecDepth 100000
set_option maxHeartbeats 4000000
/-! What a def promises in trees; its call. -/
namespace TL
open PySem PySem.Spec PyProof.Rows L2

def XEd (W : Wd) (t : Sta) (x : XD) : XK := fun cls dd H => ∃ t' n d, t'.H = H ∧ Ext t t' ∧ Good W t' ∧ XRep W t' n d cls dd ∧ x n d t'.M
structure FnG (W : Wd) (k : Nat) (f : Addr) (fd : FuncData) (ps : List Str) (c : Contract) : Prop where
  len : ∀ ds M x Q, c ds M x Q → ds.length = ps.length
  run : ∀ (A : Around) (outer : List Env) (s : Shared) (t : Sta) (args : Args) (us : List Value) (vs : List V) (ds : List D) (x : XD) (Qp : KD) (Q : VK), Room k A → A.guards = some [] →
    Env0 W.P W.w W.K W.mg W.base A outer s t.H → BindsTo s fd args (ps.zip us) → Vals vs us → Good W t → Reps W t ds vs → c ds t.M x Qp → Lat W t Qp Q →
    codeAny (model W.P W.w) A (.call (.ref f) args) (CR (CX W.P W.w) outer W.P W.w t.H s Q (XEd W t x)) s
theorem FnG.mono {W : Wd} {j k : Nat} {f : Addr} {fd : FuncData} {ps : List Str} {c : Contract} (F : FnG W j f fd ps c) (h : j ≤ k) : FnG W k f fd ps c :=
  ⟨F.len, fun A outer s t args us vs ds x Qp Q hr => F.run A outer s t args us vs ds x Qp Q (hr.mono h)⟩
theorem FnG.imp {W : Wd} {k : Nat} {f : Addr} {fd : FuncData} {ps : List Str} {c c' : Contract} (F : FnG W k f fd ps c) (h : ∀ ds M x Q, c' ds M x Q → c ds M x Q) : FnG W k f fd ps c' :=
  ⟨fun ds M x Q q => F.len _ _ _ _ (h _ _ _ _ q), fun A outer s t args us vs ds x Qp Q hr hg he hb hv g r q => F.run A outer s t args us vs ds x Qp Q hr hg he hb hv g r (h _ _ _ _ q)⟩

/-- the context of a piece of code; what it lets out is taken -/
structure CtxB (W : Wd) (k : Nat) (B : Bnd) (X : Cx) : Prop extends COk W k X where
  tk : Takes X (wX W B)

section
variable {W : Wd} {k j : Nat} {B : Bnd} {X : Cx}
/-- the callee runs -/
theorem run_g {f : Addr} {fd : FuncData} {ps : List Str} {ct : Contract} {pins : List (Addr × Obj)} {σ : L2.St} {s : Shared} {t : Sta} {us us2 : List Value} {kw : List (Str × Value)} {vs : List V} {ds : List D} {env : En} {Qp : KD} {Q : VK}
    (c : CtxB W k B X) (F : FnG W j f fd ps ct) (hj : j ≤ k) (I : L2.Inv X pins σ t.H s) (hb : BindsTo s fd ⟨us, kw⟩ (ps.zip us2)) (r : Vals vs us2) (gd : Good W t) (rp : Reps W t ds vs) (he : Ext B.t0 t) (re : REnv W t env σ)
    (h : ct ds t.M (B.ex env) Qp) (l : Lat W t Qp Q) : wpAny (model X.prog X.w) X.A (call (.ref f) us kw) (EP X pins σ Q) X.xe s := by
  have e0 := I.env0
  rw [c.P, c.w, c.K, c.mg, c.base] at e0
  have hr := F.run X.A X.stack s t ⟨us, kw⟩ us2 vs ds (B.ex env) Qp Q (c.room.mono hj) c.gd e0 hb r gd rp h l
  rw [c.P, c.w]
  refine wpAny_call (codeAny_mono hr fun r s' hq => ?_)
  cases r with
  | error e =>
    refine c.tk e s' (XE.of_call I (fun cls d H' q => ?_) (by rw [c.P, c.w]; exact hq))
    obtain ⟨t', n, dd, e1, e2, e3, e4, e5⟩ := q
    exact ⟨env, t', n, dd, e1, he.trans e2, e3, re.ext (e2.fst gd), e4, e5⟩
  | ok fl =>
    cases fl with
    | ret u => exact I.after (by rw [c.P, c.w]; exact hq)
    | next => exact False.elim hq
    | brk => exact False.elim hq
    | cont => exact False.elim hq
/-- the same, from an inner place, of a callee that lets nothing out -/
theorem run_gn {A : Around} {f : Addr} {fd : FuncData} {ps : List Str} {ct : Contract} {pins : List (Addr × Obj)} {σ : L2.St} {s : Shared} {t : Sta} {us us2 : List Value} {kw : List (Str × Value)} {vs : List V} {ds : List D} {Qp : KD} {Q : VK}
    (c : COk W k X) (F : FnG W j f fd ps ct) (hr : Room j A) (hg : A.guards = some []) (hf : A.frames = some X.stack) (I : L2.Inv X pins σ t.H s) (hb : BindsTo s fd ⟨us, kw⟩ (ps.zip us2)) (r : Vals vs us2) (gd : Good W t) (rp : Reps W t ds vs)
    (h : ct ds t.M noX Qp) (l : Lat W t Qp Q) : codeAny (model X.prog X.w) A (.call (.ref f) ⟨us, kw⟩) (fun r s' => match r with
      | .ok (.ret u) => EP X pins σ Q u s'
      | _ => False) s := by
  have e0 := I.env0
  rw [c.P, c.w, c.K, c.mg, c.base] at e0
  have e1 : Env0 W.P W.w W.K W.mg W.base A X.stack s t.H := ⟨hf, e0.mod, e0.bs, e0.bsz, e0.funs, e0.frf, e0.hok, e0.bare⟩
  have hr := F.run A X.stack s t ⟨us, kw⟩ us2 vs ds noX Qp Q hr hg e1 hb r gd rp h l
  rw [c.P, c.w]
  refine codeAny_mono hr fun r s' hq => ?_
  cases r with
  | error e =>
    obtain ⟨a, B, H', cls, d, _, _, _, _, _, _, _, q⟩ := (show L2.CX W.P W.w X.stack t.H s (XEd W t noX) e s' from hq)
    obtain ⟨_, _, _, _, _, _, _, z⟩ := q
    exact z.elim
  | ok fl =>
    cases fl with
    | ret u => exact I.after (by rw [c.P, c.w]; exact hq)
    | next => exact False.elim hq
    | brk => exact False.elim hq
    | cont => exact False.elim hq
end

/-! ### a def keeps its promise -/
structure LatE (W : Wd) (t : Sta) (Dp : Fin) (D : Ends) : Prop where
  nx : ∀ env σ t', Ext t t' → Good W t' → REnv W t' env σ → Dp.nx env t'.M → D.nx σ t'.H
  rt : Lat W t Dp.rt D.rt
  bk : ∀ env σ t', Ext t t' → Good W t' → REnv W t' env σ → Dp.bk env t'.M → D.bk σ t'.H
  ct : ∀ env σ t', Ext t t' → Good W t' → REnv W t' env σ → Dp.ct env t'.M → D.ct σ t'.H
theorem LatE.later {W : Wd} {t t' : Sta} {Dp : Fin} {D : Ends} (l : LatE W t Dp D) (e : Ext t t') : LatE W t' Dp D :=
  ⟨fun env σ t2 e2 => l.nx env σ t2 (e.trans e2), fun d v t2 e2 => l.rt d v t2 (e.trans e2), fun env σ t2 e2 => l.bk env σ t2 (e.trans e2), fun env σ t2 e2 => l.ct env σ t2 (e.trans e2)⟩
def tS (W : Wd) (B : Bnd) (p : Fin → En → Mm → Prop) : TS := fun D σ H => ∃ (env : En) (t : Sta) (Dp : Fin), t.H = H ∧ Ext B.t0 t ∧ Good W t ∧ REnv W t env σ ∧ Dp.ex = B.ex ∧ p Dp env t.M ∧ LatE W t Dp D
def sub (M1 M : Mm) : Prop := ∀ a o, M1 a = some o → M a = some o
/-- a def's end: what was changeable within it is forgotten -/
def fin (Q : KD) : KD := fun d M => ∃ M1, sub M1 M ∧ Q d M1
def startE (n : Nat) (ds : List D) : En := ds.map some ++ List.replicate (n - ds.length) none
theorem startE_rep {W : Wd} {t : Sta} {N : List Str} : ∀ {ds : List D} {vs : List V}, Reps W t ds vs → REnv W t (startE N.length ds) (L2.start N vs) := by
  intro ds vs h
  have hl := h.length
  refine ⟨by unfold startE L2.start; simp [hl], fun i d e => ?_⟩
  have hi : i < ds.length := by
    unfold startE at e
    by_cases hi : i < ds.length
    · exact hi
    · rw [List.getElem?_append_right (by simpa using hi), List.getElem?_replicate] at e
      split at e <;> cases e
  have e2 : ds[i]? = some d := by
    unfold startE at e
    rw [List.getElem?_append_left (by simpa using hi), List.getElem?_map] at e
    cases q : ds[i]? with
    | none => rw [q] at e; cases e
    | some x => rw [q] at e; cases e; rfl
  obtain ⟨v, h1, h2⟩ := h.get e2
  refine ⟨v, ?_, h2⟩
  unfold L2.start
  rw [List.getElem?_append_left (by simp; omega), List.getElem?_map, h1]; rfl
theorem Lat.fin {W : Wd} {t : Sta} {Qp : KD} {Q : VK} (l : Lat W t Qp Q) : Lat W t (TL.fin Qp) Q := fun d v t' e g r ⟨M1, s, q⟩ =>
  l d v (t'.less M1) (e.trans (Ext.less s)) (g.less s) (Rep.ext (t := t') (t' := t'.less M1) (fun _ f => ⟨f, fun _ h => h⟩) r) q
/-- the body of a def -/
structure BodyB (W : Wd) (k : Nat) (B : Bnd) (X : Cx) : Prop extends CtxB W k B X where
  po : PassesOwn (model X.prog X.w) X.A X.env X.xe
  stk : X.stack = X.env :: X.outer
  frm : X.env.frame = some X.env.locals
  lfn : X.fn = fun _ => true
theorem fnG_of {W : Wd} {k : Nat} {x qual : Str} {params : Arguments} {body : List Stmt} {scope : Scope} {dvs : List V} {kws : List (Str × V)} {f : Addr} {fd : FuncData} {N ps : List Str} {ct : Contract} {p : Fin → En → Mm → Prop}
    (F : FunD W.K x qual params body scope dvs kws f fd) (S : FnScope N ps scope) (len : ∀ ds M x Q, ct ds M x Q → ds.length = ps.length)
    (hb : ∀ B X, X.N = N → X.env.scope = scope → BodyB W k B X → PSs X body (tS W B p))
    (hw : ∀ ds M x Q, ct ds M x Q → p { nx := fun _ M' => TL.fin Q .non M', rt := TL.fin Q, ex := fun _ => x } (startE N.length ds) M) : FnG W (k + 1) f fd ps ct := by
  refine ⟨len, fun A outer s t args us vs ds xd Qp Q hr hg e0 hbt r gd rp h l => ?_⟩
  obtain ⟨oc, od, dV, kV, doc, pm, an, cdv, ctv, osl, rfl, lk, hcd, _, _⟩ := F.ex
  have hl : vs.length = ps.length := by rw [rp.length]; exact len _ _ _ _ h
  have KX : W.K.In s.heap := e0.mod.kin.keeps fun b o e => (e0.bs b o e).1
  have lim : s.heap.NoLimit := e0.mod.nolimit.keeps fun b o e => (e0.bs b o e).1
  have hkind : ∀ y ∈ ps.zip us, scope.names.lookup y.1 = some .local ∨ (scope.names.lookup y.1 = some .cell ∧ ((cellsFrom (s.heap.objs.size + 1) scope.names []).lookup y.1).isSome = true) := fun ⟨n, v⟩ hy => by
    rcases S.par n (List.of_mem_zip hy).1 with q | q
    · exact .inl q
    · exact .inr ⟨q, PySem.W.cellsFrom_some _ _ _ (.inl q)⟩
  refine codeAny_call_function hr.depth (KX _ _ lk) rfl S.co S.gen rfl (PySem.W.codeRec_of KX hcd) (hbt _ _ _ _ ?_)
  refine wpAny_newFunctionEnv_cells S.kind hkind fun env he s1 x => ?_
  subst he
  refine ⟨lim.keeps x.toInCall.keep, codeAny_func ?_⟩
  let X := cxOf (L2.CX W.P W.w) W.P W.w W.K W.mg W.base N qual scope f cdv A outer s t.H (XEd W t xd)
  let B : Bnd := ⟨t, fun _ => xd⟩
  have I : L2.Inv X [] (L2.start N vs) t.H s1 := inv_start S hr.hd e0 hl r x
  have tk : Takes X (wX W B) := (takes_of (X := X) (E := XEd W t xd) rfl rfl rfl rfl).imp fun c d σ H ⟨env, t', n, d', h1, h2, h3, h4, h5, h6⟩ => ⟨t', n, d', h1, h2, h3, h5, h6⟩
  have cb : BodyB W k B X :=
    { P := rfl, w := rfl, K := rfl, mg := rfl, base := rfl, room := hr.deeper _, gd := hg, calm := rfl, nd := S.nd, tk := tk, po := passes_of (X := X) rfl, stk := rfl, frm := rfl, lfn := rfl }
  have hp := hb B X rfl rfl cb
  refine wpAny_mono (hp.run [] s1 (L2.start N vs) t.H { nx := fun _ H' => Q .non H', rt := Q } I
    ⟨startE N.length ds, t, _, rfl, Ext.refl, gd, startE_rep rp, rfl, hw ds t.M xd Qp h, fun env σ t' e g _ q => Lat.fin l .non .non t' e g (by simp only [Rep]) q, Lat.fin l, fun _ _ _ _ _ _ q => q.elim, fun _ _ _ _ _ _ q => q.elim⟩) (fun fl s' hs => ?_) fun e s' hs => hs
  have fn : ∀ {σ' : L2.St} {H' : Hp} {v : V} {u : Value}, L2.Inv X [] σ' H' s' → RelV v u → Q v H' → CE outer W.P W.w t.H s Q u s' :=
    fun {σ' H' v u} J rv q => ⟨v, H', J.os, J.bare, J.base, J.hok, rv, q⟩
  cases fl with
  | ret u =>
    obtain ⟨v, σ', H', J, rv, q⟩ := hs
    exact fn J rv q
  | next =>
    obtain ⟨σ', H', J, q⟩ := hs
    exact fn (v := V.non) (u := Value.none) J rfl q
  | brk =>
    obtain ⟨_, _, _, q⟩ := hs
    exact False.elim q
  | cont =>
    obtain ⟨_, _, _, q⟩ := hs
    exact False.elim q
end TL

set_option Elab.async false
set_option linter.all false
set_option maxRecDepth 100000
set_option maxHeartbeats 4000000
/-! The pieces of expressions, one by one. -/
namespace TL
open PySem PySem.Spec PyProof.Rows L2

def nost : Expr → Bool
  | .Starred _ _ => false
  | _ => true
theorem star_cons {e : Expr} {es : List Expr} {env : Env} (h : nost e = true) : starEach (e :: es) env = (false, eval e env) :: starEach es env := by
  cases e <;> first | rfl | cases h
theorem star_any {pos : Pos} {env : Env} : ∀ {es : List Expr}, es.all nost = true → (backTo pos (starEach es env)).any (·.1) = false
  | [], _ => rfl
  | e :: es, h => by
    simp only [List.all_cons, Bool.and_eq_true] at h
    rw [star_cons h.1]
    show (false || (backTo pos (starEach es env)).any (·.1)) = false
    rw [star_any h.2]; rfl
theorem star_len {pos : Pos} {env : Env} : ∀ {es : List Expr}, es.all nost = true → (backTo pos (starEach es env)).all (fun x => !x.1) = true
  | [], _ => rfl
  | e :: es, h => by
    simp only [List.all_cons, Bool.and_eq_true] at h
    rw [star_cons h.1]
    show (true && (backTo pos (starEach es env)).all (fun x => !x.1)) = true
    rw [star_len h.2]; rfl
def okName (x : Str) : Bool := !(x == ("__debug__" : Str)) && !(x == ("__classdict__" : Str)) && decide (x ≠ "__name__")
theorem okName_d {x : Str} (h : okName x = true) : (x == ("__debug__" : Str)) = false ∧ (x == ("__classdict__" : Str)) = false ∧ x ≠ "__name__" := by
  unfold okName at h
  simp only [Bool.and_eq_true, Bool.not_eq_true', decide_eq_true_eq] at h
  exact ⟨h.1.1, h.1.2, h.2⟩
/-- super(), the one form in which the value of o.x is asked otherwise -/
def plainO : Expr → Bool
  | .Call (.Name id _) [] [] _ => !(id == ("super" : Str))
  | _ => true
theorem plainO_ok {o : Expr} {f : Str} {env : Env} {w : Sem Value} (h : plainO o = true) : attributeBase o f env w = w := by
  unfold attributeBase
  split
  · rename_i id _ pos
    have h' : (!(id == ("super" : Str))) = true := h
    have e : (id != ("super" : Str)) = true := h'
    rw [e]
    simp only [Bool.true_or, if_true]
  · rfl
theorem inMarks {op : CmpOp} {e : Expr} (h : (match e with | .Set _ _ _ => false | _ => true) = true) : behindInMarks op e = false := by
  cases e <;> first | rfl | cases h
/-- a subscript's index that is no slice -/
def noSl : Expr → Bool
  | .Slice _ _ _ _ => false
  | _ => true
theorem noSl_ok {b : Expr} (h : noSl b = true) : PlainIx b := fun o i => by
  cases b <;> first | rfl | cases h

section
variable {W : Wd} {k : Nat} {B : Bnd} {X : Cx} {a b e : Expr} {pos : Pos}
abbrev Wp := XD → En → Mm → KD → Prop
abbrev WpL := XD → En → Mm → (List D → Mm → Prop) → Prop
variable {p q r : Wp} {pl : WpL}

theorem e_v {i : Nat} {x : Str} (hi : X.N[i]? = some x) (hv : Vis X.env.scope x) (hx : okName x = true) : PE X (.Name x pos) (tE W B (wpE (.v i))) := by
  obtain ⟨h1, h2, _⟩ := okName_d hx
  refine (pe_var hi hv h1 h2).imp fun σ H Q ⟨env, t, Qp, hH, he, g, re, h, l⟩ => ?_
  subst hH
  unfold wpE varK at h
  split at h
  · rename_i d hd
    obtain ⟨v, hv, rv⟩ := re.2 i d hd
    exact ⟨v, hv, lat0 g l rv h⟩
  · exact h.elim
/-- a value that is there -/
theorem e_val {d : D} {v : V} (h : PE X e (tC v)) (r : ∀ t, Rep W t d v) (hw : ∀ x env M Q, p x env M Q → Q d M) : PE X e (tE W B p) :=
  h.imp fun σ H Q ⟨env, t, Qp, hH, he, g, re, h, l⟩ => by subst hH; exact lat0 g l (r t) (hw _ _ _ _ h)
theorem e_int {i : Int} {j : Nat} : PE X (.Constant (.int i) j pos) (tE W B (wpE (.c (.int i)))) := e_val (d := .int i) (v := .int i) pe_int (fun t => by simp only [Rep]) fun _ _ _ _ h => by unfold wpE at h; exact h
theorem e_bl {i : Bool} {j : Nat} : PE X (.Constant (.bool i) j pos) (tE W B (wpE (.c (.bl i)))) := e_val (d := .bl i) (v := .bl i) pe_bl (fun t => by simp only [Rep]) fun _ _ _ _ h => by unfold wpE at h; exact h
theorem e_non {j : Nat} : PE X (.Constant .none j pos) (tE W B (wpE (.c .non))) := e_val (d := .non) (v := .non) pe_non (fun t => by simp only [Rep]) fun _ _ _ _ h => by unfold wpE at h; exact h
theorem e_str {i : Str} {j : Nat} (hz : i.length ≤ sizeLine) : PE X (.Constant (.str i) j pos) (tE W B (wpE (.c (.str i)))) := e_val (d := .str i) (v := .str i) pe_str (fun t => by simp only [Rep]; exact ⟨trivial, hz⟩) fun _ _ _ _ h => by unfold wpE at h; exact h
theorem e_glob {x : Str} {d : D} {v : V} {u : Value} (c : COk W k X) (hg : Gl X x) (hx : okName x = true) (hm : W.mg x = some u) (r : RelV v u) (rd : ∀ t, Rep W t d v) : PE X (.Name x pos) (tE W B (wpE (.g x d))) :=
  e_val (pe_glob hg (by rw [c.mg]; exact hm) r (okName_d hx).1) rd fun _ _ _ _ h => by unfold wpE at h; exact h
theorem e_two {f : D → D → Mm → KD → Prop} (h : PE X e (tOp (l2 W f) (tE W B p) (tE W B q))) : PE X e (tE W B fun x env M Q => p x env M fun u M1 => q x env M1 fun v M2 => f u v M2 Q) := h.imp fun _ _ _ h => tE_two h
theorem e_one {f : D → Mm → KD → Prop} (h : PE X e (tUn (l1 W f) (tE W B p))) : PE X e (tE W B fun x env M Q => p x env M fun u M1 => f u M1 Q) := h.imp fun _ _ _ h => tE_one h
theorem e_bin {o : Operator} {fz : Bool} (c : COk W k X) (ho : (match o with | .Add => true | .Sub => true | .Mult => true | .FloorDiv => true | .Mod => true | .Pow => true | .LShift => true | .RShift => true | _ => false) = true)
    (ha : PE X a (tE W B p)) (hb : PE X b (tE W B q)) : PE X (.BinOp a o b pos) (tE W B fun x env M Q => p x env M fun u M1 => q x env M1 fun v M2 => binD o fz u v M2 Q) := e_two (pe_op (op_binD c o fz ho) ha hb)
theorem e_neg (c : COk W k X) (ha : PE X a (tE W B p)) : PE X (.UnaryOp .USub a pos) (tE W B fun x env M Q => p x env M fun u M1 => u.asI fun i => Q (.int (-i)) M1) := e_one (pe_un (un_negD c) ha)
theorem e_cmp {o : CmpOp} (c : COk W k X) (ha : PE X a (tE W B p)) (hb : PE X b (tE W B q)) (hm : behindInMarks o b = false) :
    PE X (.Compare a [o] [b] pos) (tE W B fun x env M Q => p x env M fun u M1 => q x env M1 fun v M2 => cmpK o M2 u v fun r => Q (.bl r) M2) := e_two (pe_cmpR (op_cmpD c o) ha hb hm)

/-! tests -/
theorem tB_bind {σ : L2.St} {H : Hp} {Q : Bool → Hp → Prop} {env : En} {t : Sta} {Qp : Bool → Mm → Prop} (hH : t.H = H) (he : Ext B.t0 t) (g : Good W t) (r : REnv W t env σ) (h : p (B.ex env) env t.M (fun d M => d.asB fun b => Qp b M))
    (k : ∀ b t', Ext t t' → Ext B.t0 t' → Good W t' → REnv W t' env σ → Qp b t'.M → Q b t'.H) : tB' W B p σ H Q :=
  ⟨env, t, Qp, hH, he, g, r, h, fun b t' e g' q => k b t' e (he.trans e) g' (r.ext (e.fst g)) q⟩
/-- a value as a test -/
theorem t_val (ha : PE X a (tE W B p)) (he : ∀ whole, isTrue a X.env whole = (do let v ← whole; standAt a.pos; holding [v] (truthy v))) : PT X a (tB' W B p) := by
  refine (pt_val ha he).imp fun σ H Q ⟨env, t, Qp, hH, he, g, r, h, l⟩ => ?_
  subst hH
  refine tE_bind rfl he g r h fun d v t' e e2 g' r' rd q => ?_
  obtain ⟨i, rfl, q⟩ := D.asB_inv q
  exact ⟨i, repB rd, l i t' e g' q⟩
theorem t_test {u : TE} (h : PT X a (tTest u)) (i : ∀ σ H Q, tE W B p σ H Q → u σ H Q) : PT X a (tB' W B p) := by
  refine h.imp fun σ H Q ⟨env, t, Qp, hH, he, g, r, h, l⟩ => ?_
  subst hH
  refine i _ _ _ (tE_bind rfl he g r h fun d v t' e e2 g' r' rd q => ?_)
  obtain ⟨b, rfl, q⟩ := D.asB_inv q
  exact ⟨b, repB rd, l b t' e g' q⟩
theorem t_cmp {o : CmpOp} (c : COk W k X) (ha : PE X a (tE W B p)) (hb : PE X b (tE W B q)) (hm : behindInMarks o b = false) :
    PT X (.Compare a [o] [b] pos) (tB' W B fun x env M Q => p x env M fun u M1 => q x env M1 fun v M2 => cmpK o M2 u v fun r => Q (.bl r) M2) := t_test (pt_cmpR (op_cmpD c o) ha hb hm) fun _ _ _ h => tE_two h
def wChn (o o' : CmpOp) (p q r : Wp) : Wp := fun x env M Q => p x env M fun u M1 => q x env M1 fun v M2 => cmpK o M2 u v fun b =>
  if b = true then r x env M2 fun w M3 => cmpK o' M3 v w fun b => Q (.bl b) M3 else Q (.bl false) M2
theorem chn_imp {o o' : CmpOp} {σ : L2.St} {H : Hp} {Q : VK} (h : tE W B (wChn o o' p q r) σ H Q) :
    tChain (l2 W fun x y M Q => cmpK o M x y fun b => Q (.bl b) M) (l2 W fun x y M Q => cmpK o' M x y fun b => Q (.bl b) M) (tE W B p) (tE W B q) (tE W B r) σ H Q := by
  obtain ⟨env, t, Qp, rfl, he, g, re, h, l⟩ := h
  refine tE_bind rfl he g re h fun d v t1 e1 he1 g1 r1 rd h1 => tE_bind rfl he1 g1 r1 h1 fun d2 v2 t2 e2 he2 g2 r2 rd2 h2 => ?_
  refine ⟨d, d2, t2, fun z M3 => z.asB fun b => if b = true then r (B.ex env) env M3 fun w M3 => cmpK o' M3 d2 w fun b => Qp (.bl b) M3 else Qp (.bl false) M3, rfl, g2, rd.ext (e2.fst g1), rd2, h2, fun d3 v3 t3 e3 g3 rd3 q3 => ?_⟩
  obtain ⟨b, rfl, q4⟩ := D.asB_inv q3
  refine ⟨b, repB rd3, ?_⟩
  cases b with
  | true =>
    rw [if_pos rfl] at q4 ⊢
    refine tE_bind rfl (he2.trans e3) g3 (r2.ext (e3.fst g2)) q4 fun d4 v4 t4 e4 he4 g4 r4 rd4 h4 => ?_
    exact ⟨d2, d4, t4, Qp, rfl, g4, (rd2.ext (e3.fst g2)).ext (e4.fst g3), rd4, h4, fun d5 v5 t5 e5 g5 rd5 q5 => l d5 v5 t5 (((e1.trans e2).trans e3).trans (e4.trans e5)) g5 rd5 q5⟩
  | false =>
    rw [if_neg Bool.false_ne_true] at q4 ⊢
    exact l _ _ _ ((e1.trans e2).trans e3) g3 (by simp only [Rep]) q4
theorem e_chn {o o' : CmpOp} {c : Expr} (co : COk W k X) (ha : PE X a (tE W B p)) (hb : PE X b (tE W B q)) (hc : PE X c (tE W B r)) (hm : lastMarks [o, o'] [b, c] = false) : PE X (.Compare a [o, o'] [b, c] pos) (tE W B (wChn o o' p q r)) :=
  (pe_chain (op_cmpD co o) (op_cmpD co o') ha hb hc hm).imp fun _ _ _ h => chn_imp h
theorem t_chn {o o' : CmpOp} {c : Expr} (co : COk W k X) (ha : PE X a (tE W B p)) (hb : PE X b (tE W B q)) (hc : PE X c (tE W B r)) (hm : lastMarks [o, o'] [b, c] = false) : PT X (.Compare a [o, o'] [b, c] pos) (tB' W B (wChn o o' p q r)) :=
  t_test (pt_chain (op_cmpD co o) (op_cmpD co o') ha hb hc hm) fun _ _ _ h => chn_imp h
theorem e_not (ha : PE X a (tE W B p)) : PE X (.UnaryOp .Not a pos) (tE W B fun x env M Q => p x env M fun u M1 => u.asB fun b => Q (.bl (!b)) M1) := by
  refine (pe_not ha).imp fun σ H Q ⟨env, t, Qp, hH, he, g, re, h, l⟩ => ?_
  subst hH
  refine tE_bind rfl he g re h fun d v t1 e1 he1 g1 r1 rd h1 => ?_
  obtain ⟨b, rfl, h3⟩ := D.asB_inv h1
  exact ⟨b, repB rd, l _ _ _ e1 g1 (by simp only [Rep]) h3⟩
theorem t_not (ha : PT X a (tB' W B p)) : PT X (.UnaryOp .Not a pos) (tB' W B fun x env M Q => p x env M fun u M1 => u.asB fun b => Q (.bl (!b)) M1) := by
  refine (pt_not ha).imp fun σ H Q ⟨env, t, Qp, hH, he, g, re, h, l⟩ => ?_
  subst hH
  exact tB_bind (Qp := fun b M => Qp (!b) M) rfl he g re h fun b t1 e1 he1 g1 r1 h1 => l _ _ e1 g1 h1

/-! and, or -/
theorem e_and1 {op : BoolOp} {w : Wp} (ha : PE X a (tE W B p)) (hw : ∀ x env M Q, w x env M Q → p x env M fun u M1 => u.asB fun b => Q (.bl b) M1) : PE X (.BoolOp op [a] pos) (tE W B w) := by
  refine (pe_one ha).imp fun σ H Q ⟨env, t, Qp, hH, he, g, re, h, l⟩ => ?_
  subst hH
  refine tE_bind rfl he g re (hw _ _ _ _ h) fun d v t1 e1 he1 g1 r1 rd h1 => ?_
  obtain ⟨b, rfl, h3⟩ := D.asB_inv h1
  exact l _ _ _ e1 g1 rd h3
theorem e_and {es : List Expr} {w : Wp} (ha : PE X a (tE W B p)) (hb : PE X (.BoolOp .And (b :: es) pos) (tE W B q)) (hw : ∀ x env M Q, w x env M Q → p x env M fun u M1 => u.asB fun b => if b = true then q x env M1 Q else Q (.bl false) M1) :
    PE X (.BoolOp .And (a :: b :: es) pos) (tE W B w) := by
  refine (pe_and ha hb).imp fun σ H Q ⟨env, t, Qp, hH, he, g, re, h, l⟩ => ?_
  subst hH
  refine tE_bind rfl he g re (hw _ _ _ _ h) fun d v t1 e1 he1 g1 r1 rd h1 => ?_
  obtain ⟨b, rfl, h3⟩ := D.asB_inv h1
  refine ⟨b, repB rd, ?_⟩
  cases b with
  | true => rw [if_pos rfl] at h3 ⊢; exact tE_bind rfl he1 g1 r1 h3 fun d v t2 e2 _ g2 _ rd h2 => l _ _ _ (e1.trans e2) g2 rd h2
  | false => rw [if_neg Bool.false_ne_true] at h3 ⊢; exact l _ _ _ e1 g1 (by simp only [Rep]) h3
theorem e_or {es : List Expr} {w : Wp} (ha : PE X a (tE W B p)) (hb : PE X (.BoolOp .Or (b :: es) pos) (tE W B q)) (hw : ∀ x env M Q, w x env M Q → p x env M fun u M1 => u.asB fun b => if b = true then Q (.bl true) M1 else q x env M1 Q) :
    PE X (.BoolOp .Or (a :: b :: es) pos) (tE W B w) := by
  refine (pe_or ha hb).imp fun σ H Q ⟨env, t, Qp, hH, he, g, re, h, l⟩ => ?_
  subst hH
  refine tE_bind rfl he g re (hw _ _ _ _ h) fun d v t1 e1 he1 g1 r1 rd h1 => ?_
  obtain ⟨b, rfl, h3⟩ := D.asB_inv h1
  refine ⟨b, repB rd, ?_⟩
  cases b with
  | false => rw [if_neg Bool.false_ne_true] at h3 ⊢; exact tE_bind rfl he1 g1 r1 h3 fun d v t2 e2 _ g2 _ rd h2 => l _ _ _ (e1.trans e2) g2 rd h2
  | true => rw [if_pos rfl] at h3 ⊢; exact l _ _ _ e1 g1 (by simp only [Rep]) h3
theorem w_and1 {w : Wp} (ha : PT X a (tB' W B p)) (hw : ∀ x env M Q, w x env M Q → p x env M fun u M1 => u.asB fun b => Q (.bl b) M1) : PW X (.BoolOp .And [a] pos) (tB' W B w) := by
  refine (pw_and1 ha).imp fun σ H Q ⟨env, t, Qp, hH, he, g, re, h, l⟩ => ?_
  subst hH
  exact tB_bind rfl he g re (hw _ _ _ _ h) fun b t1 e1 he1 g1 r1 h1 => l _ _ e1 g1 h1
theorem w_or1 {w : Wp} (ha : PT X a (tB' W B p)) (hw : ∀ x env M Q, w x env M Q → p x env M fun u M1 => u.asB fun b => Q (.bl b) M1) : PW X (.BoolOp .Or [a] pos) (tB' W B w) := by
  refine (pw_or1 ha).imp fun σ H Q ⟨env, t, Qp, hH, he, g, re, h, l⟩ => ?_
  subst hH
  exact tB_bind rfl he g re (hw _ _ _ _ h) fun b t1 e1 he1 g1 r1 h1 => l _ _ e1 g1 h1
theorem asB_if {u : D} {c : Bool → Prop} (h : u.asB c) : ∃ b, u = .bl b ∧ c b := D.asB_inv h
theorem w_and {es : List Expr} {w : Wp} (ha : PT X a (tB' W B p)) (hb : PW X (.BoolOp .And (b :: es) pos) (tB' W B q)) (hw : ∀ x env M Q, w x env M Q → p x env M fun u M1 => u.asB fun b => if b = true then q x env M1 Q else Q (.bl false) M1) :
    PW X (.BoolOp .And (a :: b :: es) pos) (tB' W B w) := by
  refine (pw_and ha hb).imp fun σ H Q ⟨env, t, Qp, hH, he, g, re, h, l⟩ => ?_
  subst hH
  refine tB_bind (Qp := fun b M1 => if b = true then q (B.ex env) env M1 (fun d M => d.asB fun b => Qp b M) else Qp false M1) rfl he g re (hw _ _ _ _ h) fun b t1 e1 he1 g1 r1 h1 => ?_
  cases b with
  | true => rw [if_pos rfl] at h1 ⊢; exact tB_bind rfl he1 g1 r1 h1 fun b t2 e2 _ g2 _ h2 => l _ _ (e1.trans e2) g2 h2
  | false => rw [if_neg Bool.false_ne_true] at h1 ⊢; exact l _ _ e1 g1 h1
theorem w_or {es : List Expr} {w : Wp} (ha : PT X a (tB' W B p)) (hb : PW X (.BoolOp .Or (b :: es) pos) (tB' W B q)) (hw : ∀ x env M Q, w x env M Q → p x env M fun u M1 => u.asB fun b => if b = true then Q (.bl true) M1 else q x env M1 Q) :
    PW X (.BoolOp .Or (a :: b :: es) pos) (tB' W B w) := by
  refine (pw_or ha hb).imp fun σ H Q ⟨env, t, Qp, hH, he, g, re, h, l⟩ => ?_
  subst hH
  refine tB_bind (Qp := fun b M1 => if b = true then Qp true M1 else q (B.ex env) env M1 (fun d M => d.asB fun b => Qp b M)) rfl he g re (hw _ _ _ _ h) fun b t1 e1 he1 g1 r1 h1 => ?_
  cases b with
  | false => rw [if_neg Bool.false_ne_true] at h1 ⊢; exact tB_bind rfl he1 g1 r1 h1 fun b t2 e2 _ g2 _ h2 => l _ _ (e1.trans e2) g2 h2
  | true => rw [if_pos rfl] at h1 ⊢; exact l _ _ e1 g1 h1
theorem e_ite {c : Expr} (hc : PT X c (tB' W B p)) (ha : PE X a (tE W B q)) (hb : PE X b (tE W B r)) :
    PE X (.IfExp c a b pos) (tE W B fun x env M Q => p x env M fun u M1 => u.asB fun z => if z = true then q x env M1 Q else r x env M1 Q) := by
  refine (pe_ifExp hc ha hb).imp fun σ H Q ⟨env, t, Qp, hH, he, g, re, h, l⟩ => ?_
  subst hH
  refine tB_bind (Qp := fun z M1 => if z = true then q (B.ex env) env M1 Qp else r (B.ex env) env M1 Qp) rfl he g re h fun z t1 e1 he1 g1 r1 h1 => ?_
  cases z with
  | true => rw [if_pos rfl] at h1 ⊢; exact tE_bind rfl he1 g1 r1 h1 fun d v t2 e2 _ g2 _ rd h2 => l _ _ _ (e1.trans e2) g2 rd h2
  | false => rw [if_neg Bool.false_ne_true] at h1 ⊢; exact tE_bind rfl he1 g1 r1 h1 fun d v t2 e2 _ g2 _ rd h2 => l _ _ _ (e1.trans e2) g2 rd h2

/-! several -/
theorem a_nil : PA X [] (tA W B (wpEs .nil)) := pa_nil.imp fun σ H Q ⟨env, t, Qp, hH, he, g, re, h, l⟩ => by
  subst hH; unfold wpEs at h; exact l [] [] t Ext.refl g Reps.nil h
theorem a_cons {es : List Expr} {w : WpL} (hn : nost a = true) (ha : PE X a (tE W B p)) (hb : PA X es (tA W B pl)) (hw : ∀ x env M Q, w x env M Q → p x env M fun d M1 => pl x env M1 fun ds M2 => Q (d :: ds) M2) : PA X (a :: es) (tA W B w) := by
  refine (pa_cons ha hb (star_cons hn)).imp fun σ H Q ⟨env, t, Qp, hH, he, g, re, h, l⟩ => ?_
  subst hH
  refine tE_bind rfl he g re (hw _ _ _ _ h) fun d v t1 e1 he1 g1 r1 rd h1 => ?_
  exact tA_bind rfl he1 g1 r1 h1 fun ds vs t2 e2 _ g2 _ rds h2 => l _ _ _ (e1.trans e2) g2 (.cons (rd.ext (e2.fst g1)) rds) h2
theorem a_star {es : List Expr} {w : WpL} {sp : Pos} (c : COk W k X) (ha : PE X a (tE W B p)) (hb : PA X es (tA W B pl)) (hw : ∀ x env M Q, w x env M Q → p x env M fun d M1 => someK (seqOf M1 d) fun xs => pl x env M1 fun ds M2 => Q (xs ++ ds) M2) : PA X (.Starred a sp :: es) (tA W B w) := by
  refine (StX.pa_star ha hb rfl).imp fun σ H Q ⟨env, t, Qp, hH, he, g, re, h, l⟩ => ?_
  subst hH
  refine tE_bind rfl he g re (hw _ _ _ _ h) fun d v t1 e1 he1 g1 r1 rd h1 => ?_
  obtain ⟨xs, ex, h1⟩ := someK_inv h1
  obtain ⟨b, vs, rfl, b1, b2, b3⟩ := seqOf_at g1 rd ex
  rw [← c.K] at b1
  refine ⟨b, vs, rfl, b1.symm, ?_⟩
  exact tA_bind rfl he1 g1 r1 h1 fun ds us t2 e2 _ g2 _ rds h2 => l _ _ _ (e1.trans e2) g2 ((b3.ext (e2.fst g1)).append rds) h2
theorem e_tup {es : List Expr} {x1 : Nat} (ha : PA X es (tA W B pl)) : PE X (.Tuple es x1 pos) (tE W B fun x env M Q => pl x env M fun ds M1 => ds.length ≤ sizeLine ∧ Q (.tup ds) M1) := by
  refine (pe_tup ha).imp fun σ H Q ⟨env, t, Qp, hH, he, g, re, h, l⟩ => ?_
  subst hH
  refine tA_bind rfl he g re h fun ds vs t1 e1 he1 g1 r1 rds ⟨hz, h1⟩ => ?_
  rw [← rds.length] at hz
  exact ⟨hz, fun p n => newT_use g1 (fun d v t2 e2 g2 rd q => l d v t2 (e1.trans e2) g2 rd q) h1 n hz rds⟩
theorem e_lst {es : List Expr} {fz : Bool} (ha : PA X es (tA W B pl)) : PE X (.List es pos) (tE W B fun x env M Q => pl x env M fun ds M1 => ds.length ≤ sizeLine ∧ newL fz ds M1 Q) := by
  refine (pe_lst ha).imp fun σ H Q ⟨env, t, Qp, hH, he, g, re, h, l⟩ => ?_
  subst hH
  refine tA_bind rfl he g re h fun ds vs t1 e1 he1 g1 r1 rds ⟨hz, h1⟩ => ?_
  rw [← rds.length] at hz
  exact ⟨hz, fun p n => newL_use g1 (fun d v t2 e2 g2 rd q => l d v t2 (e1.trans e2) g2 rd q) h1 n hz rds⟩

/-! subscripts -/
theorem e_ix (c : COk W k X) (ha : PE X a (tE W B p)) (hb : PE X b (tE W B q)) (hs : noSl b = true) : PE X (.Subscript a b pos) (tE W B fun x env M Q => p x env M fun u M1 => q x env M1 fun v M2 => ixK M2 u v fun d => Q d M2) :=
  e_two (pe_ix (ix_D c) ha hb (noSl_ok hs))
def tO' (W : Wd) (B : Bnd) (p : XD → En → Mm → (Option D → Mm → Prop) → Prop) : TO := fun σ H Q => ∃ (env : En) (t : Sta) (Qp : Option Int → Mm → Prop), t.H = H ∧ Ext B.t0 t ∧ Good W t ∧ REnv W t env σ ∧ p (B.ex env) env t.M (fun o M => optI o fun i => Qp i M) ∧
  ∀ i t', Ext t t' → Good W t' → Qp i t'.M → Q i t'.H
theorem o_none : L2.PO X none (tO' W B (wpEo .none)) := ⟨fun pins s σ H Q I ⟨env, t, Qp, hH, he, g, re, h, l⟩ => by
  subst hH
  unfold wpEo at h
  exact po_none.run pins s σ t.H Q I (l none t Ext.refl g h)⟩
theorem o_some {w : E} (ha : PE X a (tE W B (wpE w))) : L2.PO X (some a) (tO' W B (wpEo (.some w))) := ⟨fun pins s σ H Q I ⟨env, t, Qp, hH, he, g, re, h, l⟩ => by
  subst hH
  unfold wpEo at h
  refine (po_some ha).run pins s σ t.H Q I (tE_bind rfl he g re h fun d v t1 e1 he1 g1 r1 rd h1 => ?_)
  cases d with
  | int i => exact ⟨i, repI rd, l _ _ e1 g1 h1⟩
  | _ => exact (show False from h1).elim⟩
theorem e_sl {fz : Bool} {lo hi : Option Expr} {w1 w2 : Eo} {p2 : Pos} (c : COk W k X) (ha : PE X a (tE W B p)) (hl : L2.PO X lo (tO' W B (wpEo w1))) (hh : L2.PO X hi (tO' W B (wpEo w2))) :
    PE X (.Subscript a (.Slice lo hi none p2) pos) (tE W B fun x env M Q => p x env M fun u M1 => wpEo w1 x env M1 fun l M2 => optI l fun l => wpEo w2 x env M2 fun h M3 => optI h fun h => slK fz M3 u l h Q) := by
  refine (pe_slice (sl_D c fz) ha hl hh).imp fun σ H Q ⟨env, t, Qp, hH, he, g, re, h, l⟩ => ?_
  subst hH
  refine tE_bind rfl he g re h fun d v t1 e1 he1 g1 r1 rd h1 => ?_
  refine ⟨env, t1, fun i M2 => wpEo w2 (B.ex env) env M2 fun h M3 => optI h fun h => slK fz M3 d i h Qp, rfl, he1, g1, r1, h1, fun i t2 e2 g2 h2 => ?_⟩
  refine ⟨env, t2, fun j M3 => slK fz M3 d i j Qp, rfl, he1.trans e2, g2, r1.ext (e2.fst g1), h2, fun j t3 e3 g3 h3 => ?_⟩
  exact ⟨d, t3, Qp, rfl, g3, (rd.ext (e2.fst g1)).ext (e3.fst g2), h3, fun d v t4 e4 g4 rd4 q4 => l d v t4 (e1.trans (e2.trans (e3.trans e4))) g4 rd4 q4⟩
end
end TL

set_option Elab.async false
set_option linter.all false
set_option maxRecDepth 100000
set_option maxHeartbeats 4000000
/-! Calls, instances. -/
namespace TL
open PySem PySem.Spec PyProof.Rows L2

/-! built-in functions -/
theorem boot_bi (f : BI) : bootBuiltins f.name = some (match f with | .int => .type "int" | .str => .type "str" | .tuple => .type "tuple" | .list => .type "list" | f => .builtin (match f with
  | .len => "len" | .abs => "abs" | .sum => "sum" | .sum2 => "sum" | .all => "all" | .any => "any" | .max => "max" | .min => "min" | .max2 => "max" | .min2 => "min" | .sorted => "sorted" | .repr => "repr" | _ => "")) := by
  cases f <;> decide +kernel
theorem biName_ok (f : BI) : okName f.name = true := by cases f <;> decide +kernel
section
variable {W : Wd} {k j : Nat} {B : Bnd} {X : Cx} {a b e : Expr} {pos p : Pos} {x : Str} {es : List Expr} {pw : Wp} {pl : WpL}
theorem e_args {q : List D → Mm → KD → Prop} (h : PE X e (tCB (lL W q) (tA W B pl))) : PE X e (tE W B fun x env M Q => pl x env M fun ds M1 => q ds M1 Q) := h.imp fun _ _ _ h => tE_args h
theorem e_bi {f : BI} {fz : Bool} (c : COk W k X) (hx : x = f.name) (hg : Gl X x) (hm : W.mg x = none) (hn : (a :: es).all nost = true) (ha : PA X (a :: es) (tA W B pl)) :
    PE X (.Call (.Name x p) (a :: es) [] pos) (tE W B fun x env M Q => pl x env M fun ds M1 => biD f fz ds M1 Q) := by
  subst hx
  rw [← c.mg] at hm
  simp only [List.all_cons, Bool.and_eq_true] at hn
  have hs : starEach (a :: es) X.env = (false, eval a X.env) :: starEach es X.env := star_cons hn.1
  have hp : ∀ pos, (backTo pos (starEach es X.env)).any (·.1) = false := fun pos => star_any hn.2
  have o := okName_d (biName_ok f)
  have bt := boot_bi f
  refine e_args ?_
  cases f with
  | len => exact pe_callB (c_len c) hg hm bt ha o.2.2 o.1 hs (hp _)
  | abs => exact pe_callB c_abs hg hm bt ha o.2.2 o.1 hs (hp _)
  | int => exact pe_callTy c_int hg hm bt ha o.2.2 o.1 hs (hp _)
  | str => exact pe_callTy c_str hg hm bt ha o.2.2 o.1 hs (hp _)
  | tuple => exact pe_callTy (c_tuple c) hg hm bt ha o.2.2 o.1 hs (hp _)
  | list => exact pe_callTy (c_list c fz) hg hm bt ha o.2.2 o.1 hs (hp _)
  | sum => exact pe_callB (c_sum c) hg hm bt ha o.2.2 o.1 hs (hp _)
  | sum2 => exact pe_callB (c_sum2 c) hg hm bt ha o.2.2 o.1 hs (hp _)
  | all => exact pe_callB (c_all c) hg hm bt ha o.2.2 o.1 hs (hp _)
  | any => exact pe_callB (c_any c) hg hm bt ha o.2.2 o.1 hs (hp _)
  | max => exact pe_callB (c_max c) hg hm bt ha o.2.2 o.1 hs (hp _)
  | min => exact pe_callB (c_min c) hg hm bt ha o.2.2 o.1 hs (hp _)
  | max2 => exact pe_callB (c_max2 c) hg hm bt ha o.2.2 o.1 hs (hp _)
  | min2 => exact pe_callB (c_min2 c) hg hm bt ha o.2.2 o.1 hs (hp _)
  | sorted => exact pe_callB (c_sorted c fz) hg hm bt ha o.2.2 o.1 hs (hp _)
  | repr => exact pe_callB (c_repr c) hg hm bt ha o.2.2 o.1 hs (hp _)

/-! reversed slices, lists of ranges, new dicts -/
theorem e_rev {fz : Bool} {k1 : Nat} {p1 p2 p3 : Pos} (c : COk W k X) (ha : PE X a (tE W B pw)) : PE X (.Subscript a (.Slice none none (some (.UnaryOp .USub (.Constant (.int 1) k1 p1) p2)) p3) pos)
    (tE W B fun x env M Q => pw x env M fun u M1 => someK (lstOf M1 u) fun xs => newL fz xs.reverse M1 Q) := by
  refine (pe_revL ha).imp fun σ H Q ⟨env, t, Qp, hH, he, g, re, h, l⟩ => ?_
  subst hH
  refine tE_bind rfl he g re h fun d v t1 e1 he1 g1 r1 rd h1 => ?_
  obtain ⟨xs, ex, h1⟩ := someK_inv h1
  obtain ⟨q, vs, rfl, b1, b2, b3⟩ := lstOf_at g1 rd ex
  rw [← c.K] at b1
  exact ⟨q, vs, rfl, b1, fun p n => newL_use g1 (fun d v t2 e2 g2 rd q => l d v t2 (e1.trans e2) g2 rd q) h1 n (by rw [List.length_reverse]; exact b2) b3.reverse⟩
theorem rangeD_rep {t : Sta} : ∀ (n : Nat) (lo : Int), Reps W t (rangeD lo n) ((List.range n).map fun i => V.int (lo + (i : Nat)))
  | 0, lo => Reps.nil
  | n + 1, lo => by
    rw [List.range_succ_eq_map, List.map_cons, List.map_map]
    unfold rangeD
    refine Reps.cons (by simp only [Rep]; simp) ?_
    have ih := rangeD_rep (t := t) n (lo + 1)
    have e : ((fun i : Nat => V.int (lo + (i : Nat))) ∘ Nat.succ) = fun i : Nat => V.int (lo + 1 + (i : Nat)) := by
      funext i
      show V.int (lo + ((i + 1 : Nat) : Int)) = V.int (lo + 1 + (i : Int))
      congr 1
      omega
    rw [e]; exact ih
theorem rangeD_length : ∀ (n : Nat) (lo : Int), (rangeD lo n).length = n
  | 0, _ => rfl
  | n + 1, lo => by unfold rangeD; rw [List.length_cons, rangeD_length n]
theorem e_lr1 {fz : Bool} {pp ppos : Pos} (c : COk W k X) (hg : Gl X "list") (hm : W.mg "list" = none) (hg2 : Gl X "range") (hm2 : W.mg "range" = none) (hn : nost a = true) (ha : PE X a (tE W B pw)) :
    PE X (.Call (.Name "list" p) [.Call (.Name "range" pp) [a] [] ppos] [] pos) (tE W B fun x env M Q => pw x env M fun u M1 => u.asI fun n => rgOk 0 n ∧ newL fz (rangeD 0 n.toNat) M1 Q) := by
  rw [← c.mg] at hm hm2
  refine (pe_listRg c.calm hg hm (prg_1 hg2 hm2 ha (star_cons hn)) rfl).imp fun σ H Q ⟨env, t, Qp, hH, he, g, re, h, l⟩ => ?_
  subst hH
  refine tE_bind rfl he g re h fun d v t1 e1 he1 g1 r1 rd h1 => ?_
  obtain ⟨n, rfl, hr, h1⟩ := D.asI_inv h1
  refine ⟨n, repI rd, hr, fun p hp => ?_⟩
  have e0 : (n - 0).toNat = n.toNat := by congr 1; omega
  unfold rgV
  rw [e0]
  refine newL_use g1 (fun d v t2 e2 g2 rd q => l d v t2 (e1.trans e2) g2 rd q) h1 hp ?_ (rangeD_rep _ _)
  have := hr.2.2.2.2
  rw [List.length_map, List.length_range, sizeLine_eq]; omega
theorem e_lr2 {fz : Bool} {pw2 : Wp} {pp ppos : Pos} (c : COk W k X) (hg : Gl X "list") (hm : W.mg "list" = none) (hg2 : Gl X "range") (hm2 : W.mg "range" = none) (hn : nost a = true) (hn2 : nost b = true) (ha : PE X a (tE W B pw)) (hb : PE X b (tE W B pw2)) :
    PE X (.Call (.Name "list" p) [.Call (.Name "range" pp) [a, b] [] ppos] [] pos) (tE W B fun x env M Q => pw x env M fun u M1 => pw2 x env M1 fun v M2 => u.asI fun l => v.asI fun h => rgOk l h ∧ newL fz (rangeD l (h - l).toNat) M2 Q) := by
  rw [← c.mg] at hm hm2
  refine (pe_listRg c.calm hg hm (prg_2 hg2 hm2 ha hb (star_cons hn) (star_cons hn2) (star_any (by simp [hn2]))) rfl).imp fun σ H Q ⟨env, t, Qp, hH, he, g, re, h, l⟩ => ?_
  subst hH
  refine tE_bind rfl he g re h fun d v t1 e1 he1 g1 r1 rd h1 => tE_bind rfl he1 g1 r1 h1 fun d2 v2 t2 e2 he2 g2 r2 rd2 h2 => ?_
  obtain ⟨i, rfl, h3⟩ := D.asI_inv h2
  obtain ⟨j, rfl, hr, h4⟩ := D.asI_inv h3
  refine ⟨i, j, repI rd, repI rd2, hr, fun p hp => ?_⟩
  unfold rgV
  refine newL_use g2 (fun d v t3 e3 g3 rd q => l d v t3 ((e1.trans e2).trans e3) g3 rd q) h4 hp ?_ (rangeD_rep _ _)
  have := hr.2.2.2.2
  rw [List.length_map, List.length_range, sizeLine_eq]; omega

/-! methods of built-in types -/
theorem e_bm {m : BM} {fz : Bool} {apos : Pos} (c : COk W k X) (ho : PE X a (tE W B pw)) (hn : es.all nost = true) (ha : PA X es (tA W B pl)) (hpl : es = [] → ∀ x env M Q, pl x env M Q → Q [] M) (hab : plainO a = true) (hline : (apos.endLine == pos.line) = true) (hlen : decide (es.length < 28) = true) :
    PE X (.Call (.Attribute a m.name apos) es [] pos) (tE W B fun x env M Q => pw x env M fun u M1 => someK (tyOf M1 u) fun ty => okM ty m = true ∧ pl x env M1 fun ds M2 => bmD ty m fz u ds M2 Q) := by
  refine ⟨fun pins s σ H Q I ⟨env, t, Qp, hH, he, g, re, h, l⟩ => ?_⟩
  subst hH
  have few : ((backTo pos (starEach es X.env)).all (fun x => !x.1) && (backToKw pos (keywordEach [] X.env)).all (fun x => x.1.isSome) && decide (es.length + ([] : List Keyword).length + (if ([] : List Keyword).isEmpty then 0 else 1) < 30)) = true := by
    have := of_decide_eq_true hlen
    rw [star_len hn]
    simp only [keywordEach, backToKw, List.map_nil, List.all_nil, Bool.and_true, List.length_nil, decide_eq_true_eq]
    simp; omega
  refine wpAny_Call_method_late (plainO_ok hab) few hline rfl (thn (ho.run pins s σ t.H _ I (tE_bind (Q := fun v H1 => ∃ (d : D) (t1 : Sta) (ty : Ty), t1.H = H1 ∧ Ext t t1 ∧ Ext B.t0 t1 ∧ Good W t1 ∧ REnv W t1 env σ ∧ Rep W t1 d v ∧ tyOf t1.M d = some ty ∧ okM ty m = true ∧ pl (B.ex env) env t1.M fun ds M2 => bmD ty m fz d ds M2 Qp) rfl he g re h
    fun d v t1 e1 he1 g1 r1 rd h1 => ?_)) fun v s1 ⟨x, H1, I1, rx, d, t1, ty, e, e1, he1, g1, r1, rd, ety, hok, h1⟩ => ?_)
  · obtain ⟨ty, ety, hok, h1⟩ := someK_inv h1
    exact ⟨d, t1, ty, rfl, e1, he1, g1, r1, rd, ety, hok, h1⟩
  · subst e
    cases es with
    | nil =>
      have h2 := hpl rfl _ _ _ _ h1
      exact bm_on c I1 g1 rd rx ety hok (Calls.callWith_builtin rfl (PySem.evalArgs_none (m_D c ty m fz pins s1 σ t1.H x [] v [] _ I1 rx .nil ⟨d, [], t1, Qp, rfl, g1, rd, Reps.nil, h2, fun d v t2 e2 g2 rd q => l d v t2 (e1.trans e2) g2 rd q⟩)))
    | cons a2 es2 =>
      simp only [List.all_cons, Bool.and_eq_true] at hn
      have hA := ha.run pos pins s1 σ t1.H (fun vs H2 => ∃ (ds : List D) (t2 : Sta), t2.H = H2 ∧ Ext t1 t2 ∧ Good W t2 ∧ Reps W t2 ds vs ∧ bmD ty m fz d ds t2.M Qp) I1 (tA_bind rfl he1 g1 r1 h1 fun ds vs t2 e2 _ g2 _ rds h2 => ⟨ds, t2, rfl, e2, g2, rds, h2⟩)
      refine bm_on c I1 g1 rd rx ety hok ?_
      have hp : (backTo pos (starEach (a2 :: es2) X.env)).any (·.1) = false := star_any (by simp [hn])
      refine Calls.callWith_builtin hp ?_
      rw [star_cons hn.1] at hA ⊢
      refine Calls.evalArgs_plain ?_
      refine thn hA fun us s2 ⟨vs, H2, I2, r2, ds, t2, e, e2, g2, rds, h2⟩ => ?_
      subst e
      exact m_D c ty m fz pins s2 σ t2.H x vs v us _ I2 rx r2 ⟨d, ds, t2, Qp, rfl, g2, rd.ext (e2.fst g1), rds, h2, fun d v t3 e3 g3 rd q => l d v t3 ((e1.trans e2).trans e3) g3 rd q⟩
end
end TL

set_option Elab.async false
set_option linter.all false
set_option maxRecDepth 100000
set_option maxHeartbeats 4000000
/-! sorted(.., key=abs). -/
namespace TL
open PySem PySem.Spec PyProof.Rows L2
def tSortA (K : PySem.W.Frag) (ta : TE) : TE := fun σ H Q => ta σ H fun x H1 => ∃ a ns, x = .ref a ∧ SqL K H1 a (ns.map V.int) ∧ ∀ p, H1 p = none → Q (.ref p) (upd H1 p (.lst ((sortA ns).map V.int)))
theorem each_ints : ∀ {us : List Value} {ns : List Int}, IntsAre us ns → PySem.W.EachIs (fun v (n : Int) => ∃ t, v = Value.int n t) us ns
  | _, _, .nil => .nil
  | _, _, .cons n t h => .cons ⟨t, rfl⟩ (each_ints h)
theorem vals_each : ∀ {us : List Value} {ns : List Int}, PySem.W.EachIs (fun v (n : Int) => ∃ t, v = Value.int n t) us ns → Vals (ns.map V.int) us
  | _, _, .nil => .nil
  | _, _, .cons ⟨t, e⟩ h => .cons ⟨t, e⟩ (vals_each h)
theorem pe_sortA {X : Cx} {e : Expr} {ta : TE} {p p2 kp pos : Pos} (hg : Gl X "sorted") (hm : X.mg "sorted" = none) (hga : Gl X "abs") (hma : X.mg "abs" = none) (he : PE X e ta) (hu : X.A.units + 64 < cLine)
    (hs : starEach [e] X.env = [(false, eval e X.env)] := by rfl) : PE X (.Call (.Name "sorted" p) [e] [⟨some (Str.ofString "key"), .Name "abs" p2, kp⟩] pos) (tSortA X.K ta) := by
  refine ⟨fun pins s σ H Q I h => ?_⟩
  refine wpAny_Call_Name_kw (ld_blt I hg hm boot_sorted ?_)
  refine PyProof.Rows.callWith_kw ?_ (by rw [hs]; rfl) (by rw [hs]; rfl)
  rw [hs]
  refine Calls.spliced_cons (thn (he.run pins s σ H _ I h) fun v s1 ⟨x, H1, I1, r1, q1⟩ => Calls.spliced_nil ?_)
  show wpAny _ _ (evalAll ((do let v ← eval (.Name "abs" p2) X.env; standAt pos; pure v) :: [])) _ _ s1
  refine wpAny_evalAll_cons (wpAny_bind (ld_blt I1 hga hma boot_abs (wpAny_bind (wpAny_standAt (wpAny_pure (wpAny_evalAll_nil ?_))))))
  show wpAny _ _ (call (.builtin "sorted") [v] [(Str.ofString "key", .builtin "abs")]) _ _ _
  obtain ⟨a, ns, ex, hq, fam⟩ := q1
  subst ex
  cases r1
  obtain ⟨its, rv, p1, hz⟩ := I1.list hq
  have hi := rv.ints
  have hlen : ns.length ≤ sizeLine := by rw [List.length_map] at hz; exact hz
  refine PySem.W.sorted_key_data (s := s1) (R := fun v (n : Int) => ∃ t, v = Value.int n t) (fun n : Int => PyData.int (absN n)) p1.isList (each_ints hi) (PySem.W.AllAlike.of fun _ _ => rfl) (PySem.W.Sortable.others fun _ => ⟨(fun z => by cases z), fun _ z => by cases z⟩) hlen
    (fun x _ => by show X.A.units + 2 + 0 < cLine; omega) (PyProof.Rows.ksk_s1 _ _) (fun _ => PyProof.Rows.ksk_l1 _ _) (fun _ => PyProof.Rows.ksk_t4 _ _) (fun v x ⟨t, ev⟩ _ h tk _ => ?_) fun out c h' tk keep fr hS lo eo => ?_
  · subst ev
    exact call_abs_int fun u tk' => ⟨h, tk', rfl, fun _ _ e => e, Reads.int _ _⟩
  · rw [PySem.W.dataLe_int] at eo
    have ro : Vals ((sortA ns).map V.int) out := vals_each eo
    have hn : H1 (s1.heap.objs.size + 1) = none := I1.hok.fresh (Nat.le_succ _)
    refine ⟨.ref _, upd H1 (s1.heap.objs.size + 1) (.lst ((sortA ns).map V.int)), I1.laid (t' := tk) keep (Nat.le_succ _) ⟨by rw [ro.length, lo]; exact hlen, out, c, ro, hS⟩, rfl, fam _ hn⟩
section
variable {prog : Program} {w : World} {A : Around} {E : Value → Shared → Prop} {s : Shared}
theorem rev_pick (xs : Array Value) : ((List.range xs.size).filterMap fun (k : Nat) => xs[(((xs.size : Int) - 1) + (k : Int) * (-1)).toNat]?) = xs.toList.reverse := by
  have h : ∀ n, n ≤ xs.size → ((List.range n).filterMap fun (k : Nat) => xs[(((xs.size : Int) - 1) + (k : Int) * (-1)).toNat]?) = xs.toList.reverse.take n := by
    intro n
    induction n with
    | zero => intro _; simp
    | succ n ih =>
      intro hn
      have e : (((xs.size : Int) - 1) + (n : Int) * (-1)).toNat = xs.size - 1 - n := by omega
      have hl : xs.size - 1 - n < xs.size := by omega
      have hr : n < xs.toList.reverse.length := by rw [List.length_reverse, Array.length_toList]; omega
      rw [List.range_succ, List.filterMap_append, ih (by omega), List.take_add_one, List.getElem?_eq_getElem hr]
      simp only [List.filterMap_cons, List.filterMap_nil, e, Array.getElem?_eq_getElem hl]
      simp
  have := h xs.size (Nat.le_refl _)
  rw [this, List.take_of_length_le]
  rw [List.length_reverse, Array.length_toList]; exact Nat.le_refl _
theorem getItem_tuple_rev {t sl : Addr} {items : Array Value} {vs : Value} {Q : Value → Shared → Prop} (ht : IsTup s.heap t items) (hs : s.heap.IsSliceOf sl .none .none vs) (ps : IsPart vs (some (-1)))
    (h : Q (.ref s.heap.objs.size) { s with heap := s.heap.push { cls := .type "tuple", data := .seq items.toList.reverse.toArray } })
    (hsz : items.size ≤ sizeLine) : wpAny (model prog w) A (getItem (.ref t) (.ref sl)) Q E s := by
  have htake : sizeOk (.seq items.toList.reverse.toArray) := by
    show items.toList.reverse.toArray.size ≤ sizeLine
    simpa using hsz
  obtain ⟨os, hos, hcs, hds⟩ := id hs
  have hTs : s.TypeIs (.ref sl) "slice" := ⟨os, hos, hcs⟩
  unfold getItem
  try with_reducible refine wpAny_holding ?_
  first | refine wpAny_bind (wpAny_pure ?_) | skip
  refine wpAny_bind (wpAny_sequenceKey ht.typeIs (by decide) ?_)
  refine wpAny_bind (wpAny_callSpecial?_slot (name := Str.ofString "__getitem__") ht.typeIs PyProof.Rows.slot_tuple_getitem
    (wpAny_call_entry PyProof.Rows.slot_tuple_getitem ht.typeIs entry_tuple_getitem ?_ (args_tuple_getitem _ _)))
  show wpAny _ _ (Builtin.Tuple.tupleItemsOf (.ref t) >>= _) _ _ s
  refine wpAny_bind (tupleItemsOf_ ht ?_)
  refine wpAny_bind (wpAny_typeOf hTs ?_)
  rw [if_pos (by decide)]
  refine wpAny_bind (?_ : wpAny _ _ (Builtin.Slice.sliceApplied (.ref sl) (pure (items.size : Int))) (fun r s' => wpAny _ _ _ _ _ s') _ s)
  unfold Builtin.Slice.sliceApplied Builtin.Slice.sliceFields
  refine wpAny_bind (wpAny_bind (wpAny_field hos hds (x := .none) rfl (wpAny_bind (wpAny_field hos hds (x := .none) rfl (wpAny_bind (wpAny_field hos hds (x := vs) rfl (wpAny_pure ?_)))))))
  refine wpAny_bind (HT.slicePart_ ps ?_)
  show wpAny _ _ (if ((-1 : Int) == 0) = true then _ else _) _ _ s
  rw [if_neg (by decide)]
  refine wpAny_bind (slicePart_none (wpAny_bind (slicePart_none (wpAny_bind (wpAny_pure ?_)))))
  show wpAny _ _ (match Builtin.Slice.sliceAdjust none none (-1) (items.size : Int) with | (lo, hi) => pure (lo, (-1 : Int), Builtin.Slice.slicePlaces lo hi (-1))) _ _ s
  have ea : Builtin.Slice.sliceAdjust none none (-1) (items.size : Int) = ((items.size : Int) - 1, -1) := rfl
  rw [ea]
  have ep : Builtin.Slice.slicePlaces ((items.size : Int) - 1) (-1) (-1) = items.size := by
    unfold Builtin.Slice.slicePlaces
    have h1 : ¬ ((-1 : Int) > 0) := by omega
    simp only [h1, if_false]
    split
    · have : (items.size : Int) - 1 - -1 - 1 = items.size - 1 := by omega
      rw [this]
      simp only [Int.neg_neg, Int.ediv_one]
      omega
    · omega
  show wpAny _ _ (pure ((items.size : Int) - 1, (-1 : Int), Builtin.Slice.slicePlaces ((items.size : Int) - 1) (-1) (-1))) _ _ s
  rw [ep]
  refine wpAny_pure ?_
  show wpAny _ _ (if ((((items.size : Int) - 1 == 0) && (-1 : Int) == 1 && items.size == items.size) = true) then _ else _) _ _ s
  rw [if_neg (by simp), rev_pick]
  first
    | exact wpAny_bind (m := Builtin.Tuple.tupleExact _) (wpAny_newObj_type (wpAny_pure ⟨_, rfl, wpAny_pure h⟩) htake)
    | exact wpAny_bind (m := Builtin.Tuple.tupleExact _) (wpAny_newObj_type (wpAny_bind (wpAny_pure (wpAny_pure ⟨_, rfl, wpAny_pure h⟩))) htake)
    | exact wpAny_bind (wpAny_bind (m := Builtin.Tuple.tupleExact _) (wpAny_newObj_type (wpAny_pure (wpAny_pure ⟨_, rfl, wpAny_pure h⟩)) htake))
    | exact wpAny_bind (wpAny_bind (m := Builtin.Tuple.tupleExact _) (wpAny_newObj_type (wpAny_pure ⟨_, rfl, wpAny_pure h⟩) htake))
end
def tRevA (K : PySem.W.Frag) (te : TE) : TE := fun σ H Q => te σ H fun x H1 => ∃ a xs, x = .ref a ∧ ((SqL K H1 a xs ∧ ∀ p, H1 p = none → Q (.ref p) (upd H1 p (.lst xs.reverse))) ∨ (SqT K H1 a xs ∧ ∀ p, H1 p = none → Q (.ref p) (upd H1 p (.tup xs.reverse))))
theorem pe_revA {X : Cx} {e : Expr} {te : TE} {k : Nat} {p1 p2 p3 pos : Pos} (he : PE X e te) : PE X (.Subscript e (.Slice none none (some (.UnaryOp .USub (.Constant (.int 1) k p1) p2)) p3) pos) (tRevA X.K te) := by
  refine ⟨fun pins s σ H Q I h => ?_⟩
  refine Subscript_ (thn (he.run pins s σ H _ I h) fun v s1 ⟨x, H1, I1, r1, q1⟩ => ?_)
  obtain ⟨a, xs, ex, hx⟩ := q1
  subst ex
  cases r1
  have hst : L2.PO X (some (.UnaryOp .USub (.Constant (.int 1) k p1) p2)) (tPart (tUn (rU fun i => .int (-i)) (tC (.int 1)))) := po_some (pe_un un_neg pe_int)
  refine wpAny_Slice (thn (po_none.run pins s1 σ H1 (fun o H2 => o = none ∧ H2 = H1) I1 ⟨rfl, rfl⟩) fun vl s2 ⟨l, H2, I2, pl, el, e2⟩ => ?_)
  subst el e2
  refine thn (po_none.run pins s2 σ H2 (fun o H3 => o = none ∧ H3 = H2) I2 ⟨rfl, rfl⟩) fun vu s3 ⟨u, H3, I3, pu, eu, e3⟩ => ?_
  subst eu e3
  refine thn (hst.run pins s3 σ H3 (fun o H4 => o = some (-1) ∧ H4 = H3) I3 ⟨1, rfl, -1, rfl, rfl, rfl⟩) fun vs s4 ⟨o, H4, I4, ps, eo, e4⟩ => ?_
  subst eo e4
  have I5 : L2.Inv X pins σ H4 { s4 with heap := s4.heap.push { cls := .type "slice", data := .fields #[vl, vu, vs] } } := I4.kept (t' := s4.toks) fun b ob q => Heap.get?_push_of_some _ q
  show wpAny (model X.prog X.w) X.A (subscriptTail e (.Slice none none (some (.UnaryOp .USub (.Constant (.int 1) k p1) p2)) p3) (.ref a) (.ref s4.heap.objs.size)) (EP X pins σ Q) X.xe { s4 with heap := s4.heap.push { cls := .type "slice", data := .fields #[vl, vu, vs] } }
  rcases hx with ⟨hx, q⟩ | ⟨hx, q⟩
  · obtain ⟨its, r, ht, hz⟩ := I5.list hx
    have hlen := r.length
    refine tail_any (ops := [.ref a, .ref s4.heap.objs.size]) ht.isList.typeIs (PySem.slot_list_getitem.lookup) ?_ (by with_unfolding_all rfl)
    refine wpAny_getItem_list_slice ht.isList (Heap.IsSliceOf.new _ vl vu vs) pl pu ps (by decide) ?_ (by rw [List.size_toArray]; omega)
    rw [PySem.W.krv_pick]
    refine ⟨.ref _, _, I5.laid (t' := s4.toks) (o := .lst xs.reverse) (fun b ob q => Heap.get?_push_of_some _ q) (Nat.le_refl _) ?_, rfl, q _ (I5.hok.fresh (Nat.le_refl _))⟩
    exact ⟨by rw [List.length_reverse]; exact hz, _, 0, r.reverse, Heap.get?_push_size _ rfl⟩
  · obtain ⟨its, r, ht, hz⟩ := I5.tuple hx
    have hlen := r.length
    cases pl
    cases pu
    refine tail_any (ops := [.ref a, .ref s4.heap.objs.size]) ht.typeIs (PyProof.Rows.slot_tuple_getitem.lookup) ?_ (by with_unfolding_all rfl)
    refine getItem_tuple_rev ht (Heap.IsSliceOf.new _ .none .none vs) ps ?_ (by rw [List.size_toArray]; omega)
    refine ⟨.ref _, _, I5.laid (t' := s4.toks) (o := .tup xs.reverse) (fun b ob q => Heap.get?_push_of_some _ q) (Nat.le_refl _) ?_, rfl, q _ (I5.hok.fresh (Nat.le_refl _))⟩
    exact ⟨by rw [List.length_reverse]; exact hz, _, r.reverse, ⟨_, Heap.get?_push_size _ rfl, rfl, _, rfl⟩⟩
section
variable {W : Wd} {k : Nat} {B : Bnd} {X : Cx} {a : Expr} {pos p : Pos} {pw : Wp}
theorem e_rev2 {fz : Bool} {k1 : Nat} {p1 p2 p3 : Pos} (c : COk W k X) (ha : PE X a (tE W B pw)) : PE X (.Subscript a (.Slice none none (some (.UnaryOp .USub (.Constant (.int 1) k1 p1) p2)) p3) pos)
    (tE W B fun x env M Q => pw x env M fun u M1 => revK fz M1 u Q) := by
  refine (pe_revA ha).imp fun σ H Q ⟨env, t, Qp, hH, he, g, re, h, l⟩ => ?_
  subst hH
  refine tE_bind rfl he g re h fun d v t1 e1 he1 g1 r1 rd h1 => ?_
  unfold revK at h1
  split at h1
  · rename_i xs
    obtain ⟨q, vs, rfl, b1, b2, b3⟩ := tupAt rd
    rw [← c.K] at b1
    exact ⟨q, vs, rfl, .inr ⟨b1, fun p n => newT_use g1 (fun d v t2 e2 g2 rd q => l d v t2 (e1.trans e2) g2 rd q) h1 n (by rw [List.length_reverse]; exact b2) b3.reverse⟩⟩
  · obtain ⟨xs, ex, h1⟩ := someK_inv h1
    obtain ⟨q, vs, rfl, b1, b2, b3⟩ := lstOf_at g1 rd ex
    rw [← c.K] at b1
    exact ⟨q, vs, rfl, .inl ⟨b1, fun p n => newL_use g1 (fun d v t2 e2 g2 rd q => l d v t2 (e1.trans e2) g2 rd q) h1 n (by rw [List.length_reverse]; exact b2) b3.reverse⟩⟩
theorem e_lenset {p2 q : Pos} (c : COk W k X) (hg : Gl X "len") (hm : W.mg "len" = none) (hg2 : Gl X "set") (hm2 : W.mg "set" = none) (hn : nost a = true) (ha : PE X a (tE W B pw)) :
    PE X (.Call (.Name "len" p) [.Call (.Name "set" p2) [a] [] q] [] pos) (tE W B fun x env M Q => pw x env M fun u M1 => oneInts u M1 fun ns => ns.Nodup ∧ ns.length ≤ 4000 ∧ Q (.int ns.length) M1) := by
  rw [← c.mg] at hm hm2
  refine (RZ.pe_lenSetI hg hm hg2 hm2 ha c.calm (star_cons hn)).imp fun σ H Q ⟨env, t, Qp, hH, he, g, re, h, l⟩ => ?_
  subst hH
  refine tE_bind rfl he g re h fun d v t1 e1 he1 g1 r1 rd h1 => ?_
  obtain ⟨xs, ex, h1⟩ := someK_inv h1
  obtain ⟨ns, en, h1, h2, h3⟩ := someK_inv h1
  obtain ⟨q, vs, rfl, b1, b2, b3⟩ := lstOf_at g1 rd ex
  have := ints_rep b3 en; subst this
  rw [← c.K] at b1
  exact ⟨q, ns, rfl, b1, h1, h2, l _ _ _ e1 g1 (by simp only [Rep]) h3⟩
theorem e_skabs {fz : Bool} {p2 kp : Pos} (c : COk W k X) (hg : Gl X "sorted") (hm : W.mg "sorted" = none) (hga : Gl X "abs") (hma : W.mg "abs" = none) (hn : nost a = true) (ha : PE X a (tE W B pw)) :
    PE X (.Call (.Name "sorted" p) [a] [⟨some (Str.ofString "key"), .Name "abs" p2, kp⟩] pos) (tE W B fun x env M Q => pw x env M fun u M1 => oneInts u M1 fun ns => newL fz ((sortA ns).map .int) M1 Q) := by
  rw [← c.mg] at hm hma
  refine (pe_sortA hg hm hga hma ha c.hu (star_cons hn)).imp fun σ H Q ⟨env, t, Qp, hH, he, g, re, h, l⟩ => ?_
  subst hH
  refine tE_bind rfl he g re h fun d v t1 e1 he1 g1 r1 rd h1 => ?_
  obtain ⟨xs, ex, h1⟩ := someK_inv h1
  obtain ⟨ns, en, h1⟩ := someK_inv h1
  obtain ⟨q, vs, rfl, b1, b2, b3⟩ := lstOf_at g1 rd ex
  have := ints_rep b3 en; subst this
  rw [← c.K] at b1
  refine ⟨q, ns, rfl, b1, fun p hp => newL_use g1 (fun d v t2 e2 g2 rd q => l d v t2 (e1.trans e2) g2 rd q) h1 hp ?_ (reps_ints _)⟩
  rw [List.length_map] at b2 ⊢
  rw [show (sortA ns).length = ns.length from List.length_mergeSort _]
  exact b2
end
end TL

set_option Elab.async false
set_option linter.all false
set_option maxRecDepth 100000
set_option maxHeartbeats 4000000
/-! isinstance; calls of own functions, methods, classes; fields, properties. -/
namespace TL
open PySem PySem.Spec PyProof.Rows L2

def baseTy : List String := ["NoneType", "bool", "int", "str", "float", "tuple", "list", "dict"]
structure IsiOk (W : Wd) (T : Str) (cs : List Str) (c : V) (u : Value) : Prop where
  ld : W.mg T = some u ∨ (W.mg T = none ∧ bootBuiltins T = some u)
  cls : ClsV c u
  base : ∀ n ∈ baseTy, PySem.W.kitOne W.K (.type n) u = some (isiB T n)
  own : ∀ C ∈ cs, ∃ A : Addr, W.mg C = some (.ref A) ∧ Cls W.K A ∧ PySem.W.findIn W.K (.ref A) "__class__" = some (some (.builtin "object.__class__")) ∧
    PySem.W.specialIn W.K (.builtin "object.__class__") "__get__" = some (some (.builtin "getset_descriptor.__get__")) ∧ PySem.W.takesIn W.K (.builtin "object.__class__") = some true ∧ PySem.W.mroIn W.K A (.type "object") = some true ∧
    PySem.W.kitOne W.K (.ref A) u = some (decide (C = T))
theorem _root_.L2.ClsV.rel {c : V} {u : Value} (h : ClsV c u) : RelV c u := by cases h <;> rfl
section
variable {W : Wd} {k j : Nat} {B : Bnd} {X : Cx} {a b e : Expr} {pos p : Pos} {x : Str} {es : List Expr} {pw : Wp} {pl : WpL}
theorem isi_ty {T : Str} {cs : List Str} {c0 : V} {u : Value} {t : Sta} {d : D} {v : V} {kk : Bool → Prop} (c : COk W k X) (o : IsiOk W T cs c0 u) (gd : Good W t) (rd : Rep W t d v) (h : isiK t.M d T cs kk) :
    ∃ ty b, TyX X.K t.H v ty ∧ PySem.W.kitOne X.K ty u = some b ∧ kk b := by
  rw [c.K]
  unfold isiK at h
  have bs : ∀ n, n ∈ baseTy → PySem.W.kitOne W.K (.type n) u = some (isiB T n) := o.base
  cases d with
  | non => have := repN rd; subst this; exact ⟨_, _, .base .non, bs "NoneType" (by decide +kernel), h⟩
  | bl i => have := repB rd; subst this; exact ⟨_, _, .base (.bl i), bs "bool" (by decide +kernel), h⟩
  | int i => have := repI rd; subst this; exact ⟨_, _, .base (.int i), bs "int" (by decide +kernel), h⟩
  | str i => obtain ⟨rfl, _⟩ := repS rd; exact ⟨_, _, .base (.str i), bs "str" (by decide +kernel), h⟩
  | flt i =>
    have : v = .flt i := by simpa only [Rep] using rd
    subst this; exact ⟨_, _, .base (.flt i), bs "float" (by decide +kernel), h⟩
  | tup xs =>
    simp only [Rep] at rd
    obtain ⟨q, vs, rfl, hs, _⟩ := rd
    rcases hs with ⟨_, hs | ⟨ob, hs⟩⟩ | ⟨ob, its, n, h1, h2, _⟩
    · exact ⟨_, _, .base (.tup hs), bs "tuple" (by decide +kernel), h⟩
    · exact ⟨_, _, .fTuple hs, bs "tuple" (by decide +kernel), h⟩
    · exact ⟨_, _, .kTuple h1 h2, bs "tuple" (by decide +kernel), h⟩
  | lst xs => obtain ⟨q, vs, rfl, hs, _⟩ := lstAt rd; exact ⟨_, _, .base (.lst hs), bs "list" (by decide +kernel), h⟩
  | klst xs =>
    simp only [Rep] at rd
    obtain ⟨q, vs, rfl, hs, _⟩ := rd
    rcases hs with ⟨_, hs | ⟨ob, hs⟩⟩ | ⟨ob, its, n, h1, h2, _⟩
    · exact ⟨_, _, .base (.lst hs), bs "list" (by decide +kernel), h⟩
    · exact ⟨_, _, .base (.frz hs), bs "list" (by decide +kernel), h⟩
    · exact ⟨_, _, .kList h1 h2, bs "list" (by decide +kernel), h⟩
  | ref q =>
    have := repR rd; subst this
    dsimp only at h
    split at h
    · rename_i xs em; obtain ⟨vs, h1, _⟩ := gd.at_ q _ em; exact ⟨_, _, .base (.lst h1), bs "list" (by decide +kernel), h⟩
    · rename_i xs em; obtain ⟨vs, h1, _⟩ := gd.at_ q _ em; exact ⟨_, _, .base (.dK h1), bs "dict" (by decide +kernel), h⟩
    · rename_i C fs em
      obtain ⟨hc, h⟩ := h
      obtain ⟨A, dx, vs, h1, h2, _⟩ := gd.at_ q _ em
      obtain ⟨A', g1, g2, g3, g4, g5, g6, g7⟩ := o.own C hc
      rw [h2] at g1; cases g1
      exact ⟨_, _, .base (.ins h1 g2 g3 g4 g5 g6), g7, h⟩
    · exact h.elim
  | glb x => exact (show False from h).elim
theorem e_isi {T : Str} {cs : List Str} {c0 : V} {u : Value} {p2 : Pos} (c : COk W k X) (o : IsiOk W T cs c0 u) (hg : Gl X "isinstance") (hm : W.mg "isinstance" = none) (hgT : Gl X T) (hT : okName T = true) (hn : nost a = true) (ha : PE X a (tE W B pw)) :
    PE X (.Call (.Name "isinstance" p) [a, .Name T p2] [] pos) (tE W B fun x env M Q => pw x env M fun u M1 => isiK M1 u T cs fun r => Q (.bl r) M1) := by
  rw [← c.mg] at hm
  obtain ⟨o1, _, o3⟩ := okName_d hT
  have hT' : PE X (.Name T p2) (tC c0) := by
    rcases o.ld with h | ⟨h1, h2⟩
    · exact pe_glob hgT (by rw [c.mg]; exact h) o.cls.rel o1
    · exact pe_bltn hgT (by rw [c.mg]; exact h1) h2 o.cls.rel o3 o1
  refine (pe_callB call_isi hg hm (by decide +kernel) (pa_cons ha (pa_cons hT' pa_nil rfl) (star_cons hn)) (by decide) (by decide) (star_cons hn) (star_any rfl)).imp fun σ H Q ⟨env, t, Qp, hH, he, g, re, h, l⟩ => ?_
  subst hH
  refine tE_bind rfl he g re h fun d v t1 e1 he1 g1 r1 rd h1 => ?_
  obtain ⟨ty, b, h2, h3, h4⟩ := isi_ty c o g1 rd h1
  exact ⟨v, c0, ty, u, b, rfl, o.cls, h2, h3, l _ _ _ e1 g1 (by simp only [Rep]) h4⟩

/-! keywords -/
theorem _root_.L2.PK.imp {X : Cx} {ks : List Keyword} {t t' : TA} (h : PK X ks t) (i : ∀ σ H Q, t' σ H Q → t σ H Q) : PK X ks t' := ⟨fun pos pins s σ H Q I q => h.run pos pins s σ H Q I (i σ H Q q)⟩
theorem k_nil : PK X [] (tA W B (wpKs .nil)) := pk_nil.imp fun σ H Q ⟨env, t, Qp, hH, he, g, re, h, l⟩ => by
  subst hH; unfold wpKs at h; exact l [] [] t Ext.refl g Reps.nil h
theorem k_cons {ks : List Keyword} {nm : Option Str} {kp : Pos} {w : WpL} (ha : PE X a (tE W B pw)) (hb : PK X ks (tA W B pl)) (hw : ∀ x env M Q, w x env M Q → pw x env M fun d M1 => pl x env M1 fun ds M2 => Q (d :: ds) M2) : PK X (⟨nm, a, kp⟩ :: ks) (tA W B w) := by
  refine (pk_cons ha hb).imp fun σ H Q ⟨env, t, Qp, hH, he, g, re, h, l⟩ => ?_
  subst hH
  refine tE_bind rfl he g re (hw _ _ _ _ h) fun d v t1 e1 he1 g1 r1 rd h1 => ?_
  exact tA_bind rfl he1 g1 r1 h1 fun ds vs t2 e2 _ g2 _ rds h2 => l _ _ _ (e1.trans e2) g2 (.cons (rd.ext (e2.fst g1)) rds) h2
def kwN : List Keyword → List Str → Bool
  | [], [] => true
  | ⟨some n, _, _⟩ :: r, k :: ks => decide (n = k) && kwN r ks
  | _, _ => false
theorem kwN_ok {pos : Pos} {env : Env} : ∀ {kws : List Keyword} {ks : List Str}, kwN kws ks = true → (backToKw pos (keywordEach kws env)).all (·.1.isSome) = true ∧ (backToKw pos (keywordEach kws env)).filterMap (·.1) = ks ∧ (backToKw pos (keywordEach kws env)).any (·.1.isNone) = false
  | [], [], _ => ⟨rfl, rfl, rfl⟩
  | ⟨some n, v, q⟩ :: r, k :: ks, h => by
    have h' : (decide (n = k) && kwN r ks) = true := h
    simp only [Bool.and_eq_true, decide_eq_true_eq] at h'
    obtain ⟨rfl, h2⟩ := h'
    obtain ⟨a1, a2, a3⟩ := kwN_ok (pos := pos) (env := env) h2
    refine ⟨?_, ?_, ?_⟩
    · show (true && (backToKw pos (keywordEach r env)).all (·.1.isSome)) = true
      rw [a1]; rfl
    · show n :: (backToKw pos (keywordEach r env)).filterMap (·.1) = n :: ks
      rw [a2]
    · show (false || (backToKw pos (keywordEach r env)).any (·.1.isNone)) = false
      rw [a3]; rfl
  | [], _ :: _, h => by cases h
  | ⟨none, _, _⟩ :: _, _, h => by cases h
  | ⟨some _, _, _⟩ :: _, [], h => by cases h
/-- how keywords bind: the place of each parameter among the values given -/
structure KwB (K : PySem.W.Frag) (fd : FuncData) (ps : List Str) (n : Nat) (ks : List Str) (pm : List Nat) : Prop where
  len : pm.length = ps.length
  lt : ∀ i ∈ pm, i < n + ks.length
  to : ∀ (s : Shared) (us ws : List Value), K.In s.heap → us.length = n → ws.length = ks.length → BindsTo s fd ⟨us, ks.zip ws⟩ (ps.zip (pm.map fun i => (us ++ ws).getD i .none))
theorem perm_vals {vs : List V} {us : List Value} (r : Vals vs us) : ∀ {pm : List Nat}, (∀ i ∈ pm, i < vs.length) → Vals (pm.map fun i => vs.getD i .non) (pm.map fun i => us.getD i .none)
  | [], _ => .nil
  | i :: pm, h => by
    refine .cons ?_ (perm_vals r fun j hj => h j (List.mem_cons_of_mem _ hj))
    have hi : i < vs.length := h i List.mem_cons_self
    have e1 : vs[i]? = some vs[i] := by simp [hi]
    obtain ⟨u, eu, ru⟩ := r.get e1
    show RelV (vs.getD i V.non) (us.getD i Value.none)
    rw [List.getD_eq_getElem?_getD, List.getD_eq_getElem?_getD, e1, eu]
    exact ru
theorem perm_reps {t : Sta} {ds : List D} {vs : List V} (r : Reps W t ds vs) : ∀ {pm : List Nat}, (∀ i ∈ pm, i < vs.length) → Reps W t (permD ds pm) (pm.map fun i => vs.getD i .non)
  | [], _ => Reps.nil
  | i :: pm, h => by
    refine Reps.cons ?_ (perm_reps r fun j hj => h j (List.mem_cons_of_mem _ hj))
    have hi : i < vs.length := h i List.mem_cons_self
    have e1 : vs[i]? = some vs[i] := by simp [hi]
    obtain ⟨d, ed, rd⟩ := r.get' e1
    show Rep W t (ds.getD i D.non) (vs.getD i V.non)
    rw [List.getD_eq_getElem?_getD, List.getD_eq_getElem?_getD, e1, ed]
    exact rd

/-! calls -/
/-- arguments, come -/
def AQ (W : Wd) (B : Bnd) (σ : L2.St) (env : En) (t : Sta) (q : List D → Mm → Prop) : List V → Hp → Prop := fun vs H1 => ∃ (ds : List D) (t1 : Sta), t1.H = H1 ∧ Ext t t1 ∧ Ext B.t0 t1 ∧ Good W t1 ∧ REnv W t1 env σ ∧ Reps W t1 ds vs ∧ q ds t1.M
theorem AQ.of {env : En} {t : Sta} {σ : L2.St} {q : List D → Mm → Prop} (he : Ext B.t0 t) (g : Good W t) (r : REnv W t env σ) (h : pl (B.ex env) env t.M q) : tA W B pl σ t.H (AQ W B σ env t q) :=
  tA_bind rfl he g r h fun ds vs t1 e1 he1 g1 r1 rds h1 => ⟨ds, t1, rfl, e1, he1, g1, r1, rds, h1⟩
theorem Lat.later {t t' : Sta} {Qp : KD} {Q : VK} (l : Lat W t Qp Q) (e : Ext t t') : Lat W t' Qp Q := fun d v t2 e2 g2 rd q => l d v t2 (e.trans e2) g2 rd q
variable {f : Addr} {fd : FuncData} {ps : List Str} {ct : Contract}
/-- positional arguments bind -/
theorem bind_pos {s : Shared} {us : List Value} {vs : List V} {ds : List D} {t : Sta} {xd : XD} {Qp : KD} (F : FnG W j f fd ps ct) (hb : Binds W.K fd ps []) (KI : W.K.In s.heap) (r : Vals vs us) (rp : Reps W t ds vs) (h : ct ds t.M xd Qp) : BindsTo s fd ⟨us, []⟩ (ps.zip us) := by
  have := hb s us KI (by rw [List.append_nil, ← r.length, rp.length]; exact F.len _ _ _ _ h)
  rwa [List.append_nil] at this
theorem e_call (c : CtxB W k B X) (F : FnG W j f fd ps ct) (hj : j ≤ k) (hg : Gl X x) (hx : okName x = true) (hm : W.mg x = some (.ref f)) (hk : PySem.W.keepIn W.K (.ref f) = true) (hb : Binds W.K fd ps []) (hn : es.all nost = true) (ha : PA X es (tA W B pl))
    (hpl : es = [] → ∀ x env M Q, pl x env M Q → Q [] M) : PE X (.Call (.Name x p) es [] pos) (tE W B fun x env M Q => pl x env M fun ds M1 => ct ds M1 x Q) := by
  refine ⟨fun pins s σ H Q I ⟨env, t, Qp, hH, he, g, re, h, l⟩ => ?_⟩
  subst hH
  rw [← c.mg] at hm
  rw [← c.K] at hk
  refine wpAny_Call_Name_kw (ld_glob I hg hm ?_ (okName_d hx).1)
  cases es with
  | nil =>
    have h1 := hpl rfl _ _ _ _ h
    have hb1 := bind_pos F hb (by rw [← c.K]; exact I.kIn) .nil Reps.nil h1
    exact PySem.W.callWith_K0 I.kIn hk (run_g (us := []) (us2 := []) c F hj I hb1 .nil g Reps.nil he re h1 l)
  | cons e es =>
    simp only [List.all_cons, Bool.and_eq_true] at hn
    refine PySem.W.callWith_K (h₀ := X.base) I.ok.mod.kin hk (thn (ha.run pos pins s σ t.H _ I (AQ.of he g re h)) fun us s1 ⟨vs, H1, I1, r, ds, t1, e0, e1, he1, g1, r1, rds, h1⟩ => ?_) (star_cons hn.1) (star_any hn.2)
    subst e0
    exact ⟨I1.kIn, run_g c F hj I1 (bind_pos F hb (by rw [← c.K]; exact I1.kIn) r rds h1) r g1 rds he1 r1 h1 (l.later e1)⟩
/-- values by places and by keywords -/
theorem e_callk {kws : List Keyword} {ks : List Str} {pm : List Nat} {n : Nat} {pk : WpL} (c : CtxB W k B X) (F : FnG W j f fd ps ct) (hj : j ≤ k) (hg : Gl X x) (hx : okName x = true) (hm : W.mg x = some (.ref f)) (hk : PySem.W.keepIn W.K (.ref f) = true) (hb : KwB W.K fd ps n ks pm)
    (hn : es.all nost = true) (ha : PA X es (tA W B pl)) (hpl : es = [] → ∀ x env M Q, pl x env M Q → Q [] M) (hkn : kwN kws ks = true) (hkw : PK X kws (tA W B pk)) :
    PE X (.Call (.Name x p) es kws pos) (tE W B fun x env M Q => pl x env M fun ds M1 => pk x env M1 fun vs M2 => ds.length = n ∧ vs.length = ks.length ∧ ct (permD (ds ++ vs) pm) M2 x Q) := by
  refine ⟨fun pins s σ H Q I ⟨env, t, Qp, hH, he, g, re, h, l⟩ => ?_⟩
  subst hH
  rw [← c.mg] at hm
  rw [← c.K] at hk
  obtain ⟨k1, k2, k3⟩ := kwN_ok (pos := pos) (env := X.env) hkn
  refine wpAny_Call_Name_kw (ld_glob I hg hm ?_ (okName_d hx).1)
  have go : ∀ (s1 : Shared) (t1 : Sta) (us : List Value) (vs : List V) (ds : List D), L2.Inv X pins σ t1.H s1 → Vals vs us → Ext t t1 → Ext B.t0 t1 → Good W t1 → REnv W t1 env σ → Reps W t1 ds vs → pk (B.ex env) env t1.M (fun zs M2 => ds.length = n ∧ zs.length = ks.length ∧ ct (permD (ds ++ zs) pm) M2 (B.ex env) Qp) →
      wpAny (model X.prog X.w) X.A (evalAll ((backToKw pos (keywordEach kws X.env)).map (·.2))) (fun zs s₂ => X.K.In s₂.heap ∧ wpAny (model X.prog X.w) X.A (call (.ref f) us (((backToKw pos (keywordEach kws X.env)).filterMap (·.1)).zip zs)) (EP X pins σ Q) X.xe s₂) X.xe s1 := by
    intro s1 t1 us vs ds I1 r e1 he1 g1 r1 rds h1
    refine thn (hkw.run pos pins s1 σ t1.H _ I1 (AQ.of he1 g1 r1 h1)) fun ws s2 ⟨zs, H2, I2, rz, ds2, t2, e0, e2, he2, g2, r2, rds2, hln, hln2, h2⟩ => ?_
    subst e0
    refine ⟨I2.kIn, ?_⟩
    rw [k2]
    have rv : Vals (vs ++ zs) (us ++ ws) := r.append rz
    have rr : Reps W t2 (ds ++ ds2) (vs ++ zs) := (rds.ext (e2.fst g1)).append rds2
    have e3 := rds.length
    have e4 := rds2.length
    have e5 := r.length
    have e6 := rz.length
    have lt : ∀ i ∈ pm, i < (vs ++ zs).length := fun i hi => by
      have := hb.lt i hi
      rw [List.length_append, e3, e4, hln, hln2]; exact this
    exact run_g c F hj I2 (hb.to s2 us ws (by rw [← c.K]; exact I2.kIn) (by omega) (by omega)) (perm_vals rv lt) g2 (perm_reps rr lt) he2 r2 h2 (l.later (e1.trans e2))
  cases es with
  | nil =>
    have h1 := hpl rfl _ _ _ _ h
    exact PySem.W.callWith_KW0 (h₀ := X.base) I.ok.mod.kin hk k1 (go s t [] [] [] I .nil Ext.refl he g re Reps.nil h1) (by rw [k3]; rfl)
  | cons e es =>
    have hn2 := hn
    simp only [List.all_cons, Bool.and_eq_true] at hn
    refine PySem.W.callWith_KW (h₀ := X.base) I.ok.mod.kin hk k1 (thn (ha.run pos pins s σ t.H _ I (AQ.of he g re h)) fun us s1 ⟨vs, H1, I1, r, ds, t1, e0, e1, he1, g1, r1, rds, h1⟩ => ?_) (by rw [star_any hn2, k3]; rfl) (star_cons hn.1)
    subst e0
    exact go s1 t1 us vs ds I1 r e1 he1 g1 r1 rds h1
end
end TL

set_option Elab.async false
set_option linter.all false
set_option maxRecDepth 100000
set_option maxHeartbeats 4000000
/-! Instances: fields, methods, properties, making. -/
namespace TL
open PySem PySem.Spec PyProof.Rows L2
section
variable {W : Wd} {k j : Nat} {B : Bnd} {X : Cx} {a b e : Expr} {pos p : Pos} {x : Str} {es : List Expr} {pw : Wp} {pl : WpL}
theorem RepKs.look {t : Sta} {f : Str} : ∀ {ds : List (Str × D)} {vs : List (Str × V)}, RepKs W t ds vs → (ds.lookup f = none ∧ vs.lookup f = none) ∨ ∃ d v, ds.lookup f = some d ∧ vs.lookup f = some v ∧ Rep W t d v
  | [], vs, h => by
    have e : vs = [] := h
    subst e
    exact .inl ⟨rfl, rfl⟩
  | (g, d) :: ds, vs, h => by
    obtain ⟨v, r, rfl, h1, h2⟩ := h
    simp only [List.lookup_cons]
    cases e : f == g with
    | true => exact .inr ⟨d, v, rfl, rfl, h1⟩
    | false => exact RepKs.look h2
theorem RepKs.putF {t : Sta} {f : Str} {d : D} {v : V} (hv : Rep W t d v) : ∀ {ds : List (Str × D)} {vs : List (Str × V)}, RepKs W t ds vs → RepKs W t (putF' f d ds) (L2.putF f v vs)
  | [], vs, h => by
    have e : vs = [] := h
    subst e
    exact ⟨v, [], rfl, hv, rfl⟩
  | (g, d0) :: ds, vs, h => by
    obtain ⟨v0, r, rfl, h1, h2⟩ := h
    unfold putF' L2.putF
    by_cases e : g = f
    · rw [if_pos e, if_pos e]; exact ⟨v, r, rfl, hv, h2⟩
    · rw [if_neg e, if_neg e]; exact ⟨v0, _, rfl, h1, RepKs.putF hv h2⟩
/-- an instance, as HandS has it -/
theorem ins_at {t : Sta} {p : Addr} {C : Str} {fs : List (Str × D)} {A : Addr} (gd : Good W t) (em : t.M p = some (.ins C fs)) (hA : W.mg C = some (.ref A)) : ∃ dx vs, t.H p = some (.ins A dx vs) ∧ vs.length ≤ 1000 ∧ RepKs W t fs vs := by
  obtain ⟨A', dx, vs, h1, h2, h3, h4⟩ := gd.at_ p _ em
  rw [hA] at h2; cases h2
  exact ⟨dx, vs, h1, h3, h4⟩
structure FldOk (W : Wd) (C f : Str) : Prop where
  ex : ∃ A : Addr, W.mg C = some (.ref A) ∧ Cls W.K A ∧ NoAttr W.K A f
theorem e_fld {C f : Str} (c : COk W k X) (o : FldOk W C f) (hab : plainO a = true) (ha : PE X a (tE W B pw)) : PE X (.Attribute a f pos) (tE W B fun x env M Q => pw x env M fun u M1 => fldK M1 u C f fun d => Q d M1) := by
  obtain ⟨A, o1, o2, o3⟩ := o.ex
  refine (pe_fld ha (plainO_ok hab)).imp fun σ H Q ⟨env, t, Qp, hH, he, g, re, h, l⟩ => ?_
  subst hH
  refine tE_bind rfl he g re h fun d v t1 e1 he1 g1 r1 rd h1 => ?_
  obtain ⟨q, fs, rfl, em, h1⟩ := insK_inv h1
  obtain ⟨d, ed, h1⟩ := optK_inv h1
  have := repR rd; subst this
  obtain ⟨dx, vs, b1, b2, b3⟩ := ins_at g1 em o1
  rcases b3.look (f := f) with ⟨z, _⟩ | ⟨d', v, z1, z2, z3⟩
  · rw [z] at ed; cases ed
  · rw [ed] at z1; cases z1
    exact ⟨q, A, dx, vs, v, rfl, b1, by rw [c.K]; exact o2, by rw [c.K]; exact o3, z2, l _ _ _ e1 g1 z3 h1⟩

/-- o.m(..) -/
structure MthOk (W : Wd) (k : Nat) (C m : Str) (ct : Contract) : Prop where
  ex : ∃ (A f : Addr) (fd : FuncData) (ps : List Str), W.mg C = some (.ref A) ∧ Cls W.K A ∧ Meth W.K A m f ∧ FnG W k f fd ps ct ∧ Binds W.K fd ps []
theorem e_meth {C m : Str} {ct : Contract} {apos : Pos} (c : CtxB W k B X) (o : MthOk W k C m ct) (hn : es.all nost = true) (ho : PE X a (tE W B pw)) (ha : PA X es (tA W B pl)) (hpl : es = [] → ∀ x env M Q, pl x env M Q → Q [] M)
    (hab : plainO a = true) (hline : (apos.endLine == pos.line) = true) (hlen : decide (es.length < 28) = true) :
    PE X (.Call (.Attribute a m apos) es [] pos) (tE W B fun x env M Q => pw x env M fun u M1 => insK M1 u C fun _ fs => fs.lookup m = none ∧ pl x env M1 fun ds M2 => ct (u :: ds) M2 x Q) := by
  obtain ⟨A, f, fd, ps, o1, o2, o3, F, hb⟩ := o.ex
  refine ⟨fun pins s σ H Q I ⟨env, t, Qp, hH, he, g, re, h, l⟩ => ?_⟩
  subst hH
  have few : methodCallForm (es.length + ([] : List Keyword).length) (backTo pos (starEach es X.env)) (backToKw pos (keywordEach [] X.env)) = true := by
    have := of_decide_eq_true hlen
    unfold methodCallForm
    rw [star_len hn]
    simp only [keywordEach, backToKw, List.map_nil, List.all_nil, Bool.and_true, List.length_nil]
    simp; omega
  have hpos : methodCallPos true a X.env apos pos = pure pos := by unfold methodCallPos; simp [hline]
  rw [arm_eval_Call, plainO_ok hab]
  refine wpAny_bind (thn (ho.run pins s σ t.H _ I (tE_bind (Q := fun v H1 => ∃ (q : Addr) (fs : List (Str × D)) (t1 : Sta), v = .ref q ∧ t1.H = H1 ∧ Ext t t1 ∧ Ext B.t0 t1 ∧ Good W t1 ∧ REnv W t1 env σ ∧ t1.M q = some (.ins C fs) ∧ fs.lookup m = none ∧ pl (B.ex env) env t1.M fun ds M2 => ct (.ref q :: ds) M2 (B.ex env) Qp) rfl he g re h
    fun d v t1 e1 he1 g1 r1 rd h1 => ?_)) fun ov s1 ⟨y, H1, I1, ry, q, fs, t1, ey, e0, e1, he1, g1, r1, em, hlk, h1⟩ => wpAny_bind (wpAny_standAt ?_))
  · obtain ⟨q, fs, rfl, em, h0, h1⟩ := insK_inv h1
    exact ⟨q, fs, t1, repR rd, rfl, e1, he1, g1, r1, em, h0, h1⟩
  · subst e0 ey
    obtain rfl : ov = Value.ref q := ry
    obtain ⟨dx, vs, b1, b2, b3⟩ := ins_at g1 em o1
    have hl0 : vs.lookup m = none := by
      rcases b3.look (f := m) with ⟨_, z⟩ | ⟨d', v, z1, _⟩
      · exact z
      · rw [hlk] at z1; cases z1
    have hkp := o3.kp
    rw [← c.K] at o2 o3 hkp
    unfold methodCall
    rw [few]
    refine wpAny_bind (wpAny_holding (getmeth_ok I1 b1 o2 o3 hl0 ?_))
    refine wpAny_bind (wpAny_of_eq hpos ?_)
    have rep0 : Rep W t1 (.ref q) (V.ref q) := Rep.ref
    cases es with
    | nil =>
      have h2 := hpl rfl _ _ _ _ h1
      have rr : Vals [V.ref q] [Value.ref q] := .cons rfl .nil
      have rd2 : Reps W t1 [.ref q] [V.ref q] := Reps.one rep0
      exact PySem.W.callWith_K0 (first := [.ref q]) I1.kIn hkp (run_g (us := [.ref q]) (us2 := [.ref q]) c F (Nat.le_refl _) I1 (bind_pos F hb (by rw [← c.K]; exact I1.kIn) rr rd2 h2) rr g1 rd2 he1 r1 h2 (l.later e1))
    | cons e es =>
      simp only [List.all_cons, Bool.and_eq_true] at hn
      refine PySem.W.callWith_K (first := [.ref q]) (h₀ := X.base) I1.ok.mod.kin hkp (thn (ha.run pos pins s1 σ t1.H _ I1 (AQ.of he1 g1 r1 h1)) fun us s2 ⟨vs, H2, I2, r, ds, t2, e0, e2, he2, g2, r2, rds, h2⟩ => ?_) (star_cons hn.1) (star_any hn.2)
      subst e0
      have rr : Vals (V.ref q :: vs) (Value.ref q :: us) := .cons rfl r
      have rd2 : Reps W t2 (.ref q :: ds) (V.ref q :: vs) := Reps.cons Rep.ref rds
      exact ⟨I2.kIn, run_g (us := .ref q :: us) c F (Nat.le_refl _) I2 (bind_pos F hb (by rw [← c.K]; exact I2.kIn) rr rd2 h2) rr g2 rd2 he2 r2 h2 (l.later (e1.trans e2))⟩

/-- e.f, a property -/
structure PrpOk (W : Wd) (k : Nat) (C f : Str) (ct : Contract) : Prop where
  ex : ∃ (A p g : Addr) (fd : FuncData) (ps : List Str) (j : Nat), j + 1 ≤ k ∧ W.mg C = some (.ref A) ∧ Cls W.K A ∧ PropOf W.K A f p g ∧ FnG W j g fd ps ct ∧ Binds W.K fd ps []
theorem in1_gd {A : Around} (h : A.guards = some []) : A.in1.guards = some [] := h
theorem e_prop {C f : Str} {ct : Contract} (c : CtxB W k B X) (o : PrpOk W k C f ct) (hab : plainO a = true) (ho : PE X a (tE W B pw)) :
    PE X (.Attribute a f pos) (tE W B fun x env M Q => pw x env M fun u M1 => insK M1 u C fun _ _ => ct [u] M1 noX Q) := by
  obtain ⟨A, pp, gg, fd, ps, j, hj, o1, o2, o3, F, hb⟩ := o.ex
  refine ⟨fun pins s σ H Q I ⟨env, t, Qp, hH, he, g, re, h, l⟩ => ?_⟩
  subst hH
  refine attr_of (plainO_ok hab) (thn (ho.run pins s σ t.H _ I (tE_bind (Q := fun v H1 => ∃ (q : Addr) (fs : List (Str × D)) (t1 : Sta), v = .ref q ∧ t1.H = H1 ∧ Ext t t1 ∧ Ext B.t0 t1 ∧ Good W t1 ∧ t1.M q = some (.ins C fs) ∧ ct [.ref q] t1.M noX Qp) rfl he g re h
    fun d v t1 e1 he1 g1 r1 rd h1 => ?_)) fun ov s1 ⟨y, H1, I1, ry, q, fs, t1, ey, e0, e1, he1, g1, em, h1⟩ => ?_)
  · obtain ⟨q, fs, rfl, em, h1⟩ := insK_inv h1
    exact ⟨q, fs, t1, repR rd, rfl, e1, he1, g1, em, h1⟩
  · subst e0 ey
    obtain rfl : ov = Value.ref q := ry
    obtain ⟨dx, vs, b1, b2, b3⟩ := ins_at g1 em o1
    rw [← c.K] at o2 o3
    obtain ⟨mA, O, _, _, _, _⟩ := ins_get I1.hok b1
    obtain ⟨od, J, _⟩ := O.look
    obtain ⟨rest, hrec⟩ := o3.rec_
    have I2 := I1.tok (s1.toks + 1)
    have hc : (PySem.W.clsIn X.K A).isSome = true := by
      obtain ⟨cd, hc, _⟩ := PySem.W.any_some o2.hd
      rw [hc]
      rfl
    have rr : Vals [V.ref q] [Value.ref q] := .cons rfl .nil
    have rd2 : Reps W t1 [.ref q] [V.ref q] := Reps.one Rep.ref
    refine PySem.W.get_bind I1.kIn J (PySem.W.plainGet_of (o2.get f)).1 (PySem.W.findObj_data hc o3.at_ o3.get o3.tak) (PySem.W.plainGet_of (o2.get f)).2 (wpAny_call (PySem.W.prop_get (s := { s1 with toks := s1.toks + 1 }) I1.kIn hrec ?_))
    refine codeAny_mono (run_gn (A := X.A.in1) c.toCOk F (c.room.mono hj).in1 (in1_gd c.gd) I1.env0.in1.frames I2 (bind_pos F hb (by rw [← c.K]; exact I2.kIn) rr rd2 h1) rr g1 rd2 h1 (l.later e1)) fun r s' hq => ?_
    cases r with
    | error er => exact False.elim hq
    | ok fl =>
      cases fl with
      | ret u =>
        obtain ⟨v, H', I3, rv, q3⟩ := hq
        show wpAny _ _ (handedOut u) _ _ _
        rw [PySem.W.handedOut_of (handed_of rv)]
        exact wpAny_pure ⟨v, H', I3, rv, q3⟩
      | next => exact False.elim hq
      | brk => exact False.elim hq
      | cont => exact False.elim hq
/-- C(..) -/
theorem make_guards {A : Around} {C : Addr} {us : List Value} {kw : List (Str × Value)} (h : A.guards = some []) : (A.under (.builtin "type.__call__" ⟨.ref C :: us, kw⟩)).guards = some [] := by
  first | exact h | (simp [Around.under, Code.isGuard, guardIds]; exact h)
theorem run_mk {Cn : Str} {A f : Addr} {fd : FuncData} {ps : List Str} {ct : Contract} {pins : List (Addr × Obj)} {σ : L2.St} {s : Shared} {t : Sta} {us us2 : List Value} {kw : List (Str × Value)} {vs2 : List V} {ds : List D} {env : En} {Qp : KD} {Q : VK}
    (c : CtxB W k B X) (F : FnG W j f fd ps ct) (hj : j + 1 ≤ k) (MK : Mk W.K A f) (hA : W.mg Cn = some (.ref A)) (I : L2.Inv X pins σ t.H s)
    (hb : ∀ (q : Addr) (s' : Shared), W.K.In s'.heap → ct (.ref q :: ds) (mput t.M q (.ins Cn [])) (B.ex env) (fun d M' => d = .non ∧ Qp (.ref q) M') → BindsTo s' fd ⟨.ref q :: us, kw⟩ (ps.zip (.ref q :: us2))) (r : Vals vs2 us2) (gd : Good W t) (rp : Reps W t ds vs2) (he : Ext B.t0 t) (re : REnv W t env σ)
    (h : mkC Cn ct ds t.M (B.ex env) Qp) (l : Lat W t Qp Q) : wpAny (model X.prog X.w) X.A (call (.ref A) us kw) (EP X pins σ Q) X.xe s := by
  have n1 : t.H (s.heap.objs.size + 1) = none := I.hok.fresh (Nat.le_succ _)
  have n0 : t.H s.heap.objs.size = none := I.hok.fresh (Nat.le_refl _)
  have ne : s.heap.objs.size ≠ s.heap.objs.size + 1 := Nat.ne_of_lt (Nat.lt_succ_self _)
  have I2 := Inv.made (C := A) I
  let t1 : Sta := t.hid s.heap.objs.size (.own (s.heap.objs.size + 1))
  let t2 : Sta := t1.put (s.heap.objs.size + 1) (.ins A s.heap.objs.size []) (.ins Cn [])
  have n1' : t1.H (s.heap.objs.size + 1) = none := by show upd t.H _ _ _ = _; rw [upd_ne (Ne.symm ne)]; exact n1
  have e1 : Ext t t1 := Ext.hid n0
  have g1 : Good W t1 := gd.hid n0
  have e2 : Ext t1 t2 := Ext.newM n1'
  have g2 : Good W t2 := g1.newM n1' ⟨A, s.heap.objs.size, [], upd_same, hA, by show 0 ≤ 1000; omega, rfl⟩
  have hq := h (s.heap.objs.size + 1) (gd.fresh n1)
  have f2 : Fst t t2 := (e1.trans e2).fst gd
  have r2 : Vals (V.ref (s.heap.objs.size + 1) :: vs2) (Value.ref (s.heap.objs.size + 1) :: us2) := .cons rfl r
  have rp2 : Reps W t2 (.ref (s.heap.objs.size + 1) :: ds) (V.ref (s.heap.objs.size + 1) :: vs2) := Reps.cons Rep.ref (rp.ext f2)
  have e0 := I2.env0
  rw [c.P, c.w, c.K, c.mg, c.base] at e0
  have MK' := MK
  rw [← c.K] at MK
  have lat2 : Lat W t2 (fun d M' => d = .non ∧ Qp (.ref (s.heap.objs.size + 1)) M') (fun v H2 => v = .non ∧ Q (.ref (s.heap.objs.size + 1)) H2) := fun d v t3 e3 g3 rd ⟨q1, q2⟩ => by
    subst q1
    exact ⟨repN rd, l _ _ _ ((e1.trans e2).trans e3) g3 Rep.ref q2⟩
  have hr := F.run (X.A.under (.builtin "type.__call__" ⟨.ref A :: us, kw⟩)) X.stack _ t2 ⟨Value.ref (s.heap.objs.size + 1) :: us, kw⟩ _ _ _ (B.ex env) _ _ ((c.room.mono hj).make A us kw) (make_guards c.gd) (e0.make A us kw) (hb _ _ (by rw [← c.K]; exact I2.kIn) hq) r2 g2 rp2 hq lat2
  rw [c.P, c.w]
  refine wpAny_call (make_map (f := f) I.kIn MK.makes MK.init (beq_iff_eq.mp MK.fn) (codeAny_mono hr fun r s' hq' => ?_))
  cases r with
  | error e =>
    refine c.tk e s' (XE.of_call I2 (fun cls d H' q => ?_) (by rw [c.P, c.w]; exact hq'))
    obtain ⟨t', n, dd, z1, z2, z3, z4, z5⟩ := q
    exact ⟨env, t', n, dd, z1, (he.trans (e1.trans e2)).trans z2, z3, (re.ext f2).ext (z2.fst g2), z4, z5⟩
  | ok fl =>
    cases fl with
    | ret u =>
      obtain ⟨v, H', I3, rv, ev, q3⟩ := I2.after (by rw [c.P, c.w]; exact hq')
      subst ev
      exact ⟨rv, ⟨V.ref (s.heap.objs.size + 1), H', I3, rfl, q3⟩⟩
    | next => exact False.elim hq'
    | brk => exact False.elim hq'
    | cont => exact False.elim hq'
structure MkOk (W : Wd) (k : Nat) (C : Str) (ct : Contract) : Prop where
  ex : ∃ (A f : Addr) (fd : FuncData) (ps : List Str) (j : Nat), j + 1 ≤ k ∧ W.mg C = some (.ref A) ∧ Mk W.K A f ∧ FnG W j f fd ps ct ∧ Binds W.K fd ps []
theorem e_mk {C : Str} {ct : Contract} (c : CtxB W k B X) (o : MkOk W k C ct) (hg : Gl X C) (hx : okName C = true) (hn : es.all nost = true) (ha : PA X es (tA W B pl)) (hpl : es = [] → ∀ x env M Q, pl x env M Q → Q [] M) :
    PE X (.Call (.Name C p) es [] pos) (tE W B fun x env M Q => pl x env M fun ds M1 => mkC C ct ds M1 x Q) := by
  obtain ⟨A, f, fd, ps, j, hj, hA, MK, F, hb⟩ := o.ex
  refine ⟨fun pins s σ H Q I ⟨env, t, Qp, hH, he, g, re, h, l⟩ => ?_⟩
  subst hH
  have hm := hA
  rw [← c.mg] at hm
  have hk := MK.kp
  rw [← c.K] at hk
  have bd : ∀ (us : List Value) (ds : List D) (t1 : Sta) (vs : List V), Vals vs us → Reps W t1 ds vs → ∀ (q : Addr) (s' : Shared), W.K.In s'.heap → ct (.ref q :: ds) (mput t1.M q (.ins C [])) (B.ex env) (fun d M' => d = .non ∧ Qp (.ref q) M') → BindsTo s' fd ⟨.ref q :: us, []⟩ (ps.zip (.ref q :: us)) := fun us ds t1 vs r rds q s' KI hq => by
    have hl := F.len _ _ _ _ hq
    have := hb s' (.ref q :: us) KI (by rw [List.append_nil, List.length_cons, ← r.length, rds.length]; exact hl)
    rwa [List.append_nil] at this
  refine wpAny_Call_Name_kw (ld_glob I hg hm ?_ (okName_d hx).1)
  cases es with
  | nil => exact PySem.W.callWith_K0 I.kIn hk (run_mk (us := []) (us2 := []) c F hj MK hA I (bd [] [] t [] .nil Reps.nil) .nil g Reps.nil he re (hpl rfl _ _ _ _ h) l)
  | cons e es =>
    simp only [List.all_cons, Bool.and_eq_true] at hn
    refine PySem.W.callWith_K (h₀ := X.base) I.ok.mod.kin hk (thn (ha.run pos pins s σ t.H _ I (AQ.of he g re h)) fun us s1 ⟨vs, H1, I1, r, ds, t1, e0, e1, he1, g1, r1, rds, h1⟩ => ?_) (star_cons hn.1) (star_any hn.2)
    subst e0
    exact ⟨I1.kIn, run_mk c F hj MK hA I1 (bd us ds t1 vs r rds) r g1 rds he1 r1 h1 (l.later e1)⟩
structure KwM (K : PySem.W.Frag) (fd : FuncData) (ps : List Str) (n : Nat) (ks : List Str) (pm : List Nat) : Prop where
  len : pm.length + 1 = ps.length
  lt : ∀ i ∈ pm, i < n + ks.length
  to : ∀ (s : Shared) (self : Value) (us ws : List Value), K.In s.heap → us.length = n → ws.length = ks.length → BindsTo s fd ⟨self :: us, ks.zip ws⟩ (ps.zip (self :: pm.map fun i => (us ++ ws).getD i .none))
structure MkkOk (W : Wd) (k : Nat) (C : Str) (ct : Contract) (n : Nat) (ks : List Str) (pm : List Nat) : Prop where
  ex : ∃ (A f : Addr) (fd : FuncData) (ps : List Str) (j : Nat), j + 1 ≤ k ∧ W.mg C = some (.ref A) ∧ Mk W.K A f ∧ FnG W j f fd ps ct ∧ KwM W.K fd ps n ks pm
theorem e_mkk {C : Str} {ct : Contract} {kws : List Keyword} {ks : List Str} {pm : List Nat} {n : Nat} {pk : WpL} (c : CtxB W k B X) (o : MkkOk W k C ct n ks pm) (hg : Gl X C) (hx : okName C = true) (hn : es.all nost = true)
    (ha : PA X es (tA W B pl)) (hpl : es = [] → ∀ x env M Q, pl x env M Q → Q [] M) (hkn : kwN kws ks = true) (hkw : PK X kws (tA W B pk)) :
    PE X (.Call (.Name C p) es kws pos) (tE W B fun x env M Q => pl x env M fun ds M1 => pk x env M1 fun vs M2 => ds.length = n ∧ vs.length = ks.length ∧ mkC C ct (permD (ds ++ vs) pm) M2 x Q) := by
  obtain ⟨A, f, fd, ps, j, hj, hA, MK, F, hb⟩ := o.ex
  refine ⟨fun pins s σ H Q I ⟨env, t, Qp, hH, he, g, re, h, l⟩ => ?_⟩
  subst hH
  have hm := hA
  rw [← c.mg] at hm
  have hk := MK.kp
  rw [← c.K] at hk
  obtain ⟨k1, k2, k3⟩ := kwN_ok (pos := pos) (env := X.env) hkn
  refine wpAny_Call_Name_kw (ld_glob I hg hm ?_ (okName_d hx).1)
  have go : ∀ (s1 : Shared) (t1 : Sta) (us : List Value) (vs : List V) (ds : List D), L2.Inv X pins σ t1.H s1 → Vals vs us → Ext t t1 → Ext B.t0 t1 → Good W t1 → REnv W t1 env σ → Reps W t1 ds vs → pk (B.ex env) env t1.M (fun zs M2 => ds.length = n ∧ zs.length = ks.length ∧ mkC C ct (permD (ds ++ zs) pm) M2 (B.ex env) Qp) →
      wpAny (model X.prog X.w) X.A (evalAll ((backToKw pos (keywordEach kws X.env)).map (·.2))) (fun zs s₂ => X.K.In s₂.heap ∧ wpAny (model X.prog X.w) X.A (call (.ref A) us (((backToKw pos (keywordEach kws X.env)).filterMap (·.1)).zip zs)) (EP X pins σ Q) X.xe s₂) X.xe s1 := by
    intro s1 t1 us vs ds I1 r e1 he1 g1 r1 rds h1
    refine thn (hkw.run pos pins s1 σ t1.H _ I1 (AQ.of he1 g1 r1 h1)) fun ws s2 ⟨zs, H2, I2, rz, ds2, t2, e0, e2, he2, g2, r2, rds2, hln, hln2, h2⟩ => ?_
    subst e0
    refine ⟨I2.kIn, ?_⟩
    rw [k2]
    have rv : Vals (vs ++ zs) (us ++ ws) := r.append rz
    have rr : Reps W t2 (ds ++ ds2) (vs ++ zs) := (rds.ext (e2.fst g1)).append rds2
    have e3 := rds.length
    have e4 := rds2.length
    have e5 := r.length
    have e6 := rz.length
    have lt : ∀ i ∈ pm, i < (vs ++ zs).length := fun i hi => by
      have := hb.lt i hi
      rw [List.length_append, e3, e4, hln, hln2]; exact this
    exact run_mk c F hj MK hA I2 (fun q s' KI _ => hb.to s' (.ref q) us ws KI (by omega) (by omega)) (perm_vals rv lt) g2 (perm_reps rr lt) he2 r2 h2 (l.later (e1.trans e2))
  cases es with
  | nil =>
    have h1 := hpl rfl _ _ _ _ h
    exact PySem.W.callWith_KW0 (h₀ := X.base) I.ok.mod.kin hk k1 (go s t [] [] [] I .nil Ext.refl he g re Reps.nil h1) (by rw [k3]; rfl)
  | cons e es =>
    have hn2 := hn
    simp only [List.all_cons, Bool.and_eq_true] at hn
    refine PySem.W.callWith_KW (h₀ := X.base) I.ok.mod.kin hk k1 (thn (ha.run pos pins s σ t.H _ I (AQ.of he g re h)) fun us s1 ⟨vs, H1, I1, r, ds, t1, e0, e1, he1, g1, r1, rds, h1⟩ => ?_) (by rw [star_any hn2, k3]; rfl) (star_cons hn.1)
    subst e0
    exact go s1 t1 us vs ds I1 r e1 he1 g1 r1 rds h1
end
end TL

set_option Elab.async false
set_option linter.all false
set_option maxRecDepth 100000
set_option maxHeartbeats 4000000
/-! Targets; what is walked. -/
namespace TL
open PySem PySem.Spec PyProof.Rows L2

theorem _root_.L2.PG.imp {X : Cx} {e : Expr} {t t' : TG} (h : PG X e t) (i : ∀ v σ H Q, t' v σ H Q → t v σ H Q) : PG X e t' := ⟨fun pins s σ H v u Q I r q => h.run pins s σ H v u Q I r (i v σ H Q q)⟩
theorem _root_.L2.PGs.imp {X : Cx} {e : List Expr} {t t' : TGs} (h : PGs X e t) (i : ∀ v σ H Q, t' v σ H Q → t v σ H Q) : PGs X e t' := ⟨fun pins s σ H v u Q I r q => h.run pins s σ H v u Q I r (i v σ H Q q)⟩
def sameOut (σ σ' : L2.St) (sl : List Nat) : Prop := ∀ is : List Nat, (∀ i ∈ sl, i ∈ is) → wipe σ' is = wipe σ is
theorem sameOut.refl {σ : L2.St} : sameOut σ σ [] := fun _ _ => rfl
theorem wipe_set {σ : L2.St} {i : Nat} {x : Option V} : ∀ {is : List Nat}, i ∈ is → wipe (σ.set i x) is = wipe σ is
  | j :: is, h => by
    unfold wipe
    by_cases e : i ∈ is
    · rw [wipe_set e]
    · have ej : i = j := by simpa [e] using h
      subst ej
      have : wipe (σ.set i x) is = (wipe σ is).set i x := by
        clear h
        induction is with
        | nil => rfl
        | cons k is ih =>
          simp only [List.mem_cons, not_or] at e
          unfold wipe
          rw [ih e.2, List.set_comm _ _ e.1]
      rw [this, List.set_set]
def gT (W : Wd) (tg : Tg) : TG := fun v σ H Q => ∃ (d : D) (env : En) (t : Sta) (Qe : En → Prop), t.H = H ∧ Good W t ∧ REnv W t env σ ∧ Rep W t d v ∧ putT tg d env t.M Qe ∧ ∀ env' σ', REnv W t env' σ' → sameOut σ σ' tg.slots → Qe env' → Q σ' H
def gTs (W : Wd) (tgs : List Tg) : TGs := fun vs σ H Q => ∃ (ds : List D) (env : En) (t : Sta) (Qe : En → Prop), t.H = H ∧ Good W t ∧ REnv W t env σ ∧ Reps W t ds vs ∧ putTs tgs ds env t.M Qe ∧ ∀ env' σ', REnv W t env' σ' → sameOut σ σ' (slotss tgs) → Qe env' → Q σ' H
mutual
/-- the target is that one: names by their slots -/
def okT (N : List Str) (sc : Scope) (fn : Str → Bool) : Tg → Expr → Bool
  | .nm i, .Name x _ => decide (N[i]? = some x) && (decide (sc.names.lookup x = some .local) || (fn x && decide (sc.names.lookup x = some .cell)))
  | .tp ts, .Tuple es _ _ => okTs N sc fn ts es
  | _, _ => false
def okTs (N : List Str) (sc : Scope) (fn : Str → Bool) : List Tg → List Expr → Bool
  | [], [] => true
  | t :: ts, e :: es => nost e && okT N sc fn t e && okTs N sc fn ts es
  | _, _ => false
end
theorem as_cons {e : Expr} {es : List Expr} {env : Env} (h : nost e = true) : assignEach (e :: es) env = (false, assign e env) :: assignEach es env := by
  cases e <;> first | rfl | cases h
theorem okTs_len {N : List Str} {sc : Scope} {fn : Str → Bool} {env : Env} : ∀ {ts : List Tg} {es : List Expr}, okTs N sc fn ts es = true → (assignEach es env).length = ts.length ∧ (assignEach es env).findIdx? (·.1) = none
  | [], [], _ => ⟨rfl, rfl⟩
  | t :: ts, e :: es, h => by
    unfold okTs at h
    simp only [Bool.and_eq_true] at h
    obtain ⟨a1, a2⟩ := okTs_len (env := env) h.2
    rw [as_cons h.1.1]
    refine ⟨by rw [List.length_cons, List.length_cons, a1], ?_⟩
    rw [List.findIdx?_cons, a2]; rfl
  | [], _ :: _, h => by unfold okTs at h; cases h
  | _ :: _, [], h => by unfold okTs at h; cases h
section
variable {W : Wd} {k : Nat} {B : Bnd} {X : Cx}
mutual
theorem putT_ex : ∀ {tg : Tg} {d : D} {env : En} {M : Mm} {Q : En → Prop}, putT tg d env M Q → ∃ env', Q env'
  | .nm i, d, env, M, Q, h => by unfold putT at h; exact ⟨_, h⟩
  | .tp ts, d, env, M, Q, h => by
    unfold putT at h
    split at h
    · exact putTs_ex h
    · exact h.elim
theorem putTs_ex : ∀ {ts : List Tg} {ds : List D} {env : En} {M : Mm} {Q : En → Prop}, putTs ts ds env M Q → ∃ env', Q env'
  | [], [], env, M, Q, h => by unfold putTs at h; exact ⟨_, h⟩
  | t :: ts, d :: ds, env, M, Q, h => by
    unfold putTs at h
    obtain ⟨_, h⟩ := putT_ex h
    exact putTs_ex h
  | [], _ :: _, _, _, _, h => by unfold putTs at h; exact h.elim
  | _ :: _, [], _, _, _, h => by unfold putTs at h; exact h.elim
end
theorem putTs_eq : ∀ {ts : List Tg} {ds : List D} {env : En} {M : Mm} {Q : En → Prop}, putTs ts ds env M Q → ds.length = ts.length
  | [], [], env, M, Q, h => rfl
  | t :: ts, d :: ds, env, M, Q, h => by
    unfold putTs at h
    obtain ⟨_, h⟩ := putT_ex h
    rw [List.length_cons, List.length_cons, putTs_eq h]
  | [], _ :: _, _, _, _, h => by unfold putTs at h; exact h.elim
  | _ :: _, [], _, _, _, h => by unfold putTs at h; exact h.elim
theorem okT_nm {N : List Str} {sc : Scope} {fn : Str → Bool} {i : Nat} {e : Expr} (h : okT N sc fn (.nm i) e = true) : ∃ x p, e = .Name x p ∧ N[i]? = some x ∧ (sc.names.lookup x = some .local ∨ (fn x = true ∧ sc.names.lookup x = some .cell)) := by
  cases e with
  | Name x p =>
    unfold okT at h
    simp only [Bool.and_eq_true, Bool.or_eq_true, decide_eq_true_eq] at h
    exact ⟨x, p, rfl, h⟩
  | _ => unfold okT at h; cases h
theorem okT_tp {N : List Str} {sc : Scope} {fn : Str → Bool} {ts : List Tg} {e : Expr} (h : okT N sc fn (.tp ts) e = true) : ∃ es k p, e = .Tuple es k p ∧ okTs N sc fn ts es = true := by
  cases e with
  | Tuple es k p => unfold okT at h; exact ⟨es, k, p, rfl, h⟩
  | _ => unfold okT at h; cases h
mutual
theorem g_tg (c : COk W k X) {N : List Str} {sc : Scope} {fn : Str → Bool} (hN : X.N = N) (hs : X.env.scope = sc) (hf : X.fn = fn) : ∀ (tg : Tg) (e : Expr), okT N sc fn tg e = true → PG X e (gT W tg)
  | .nm i, e, h => by
    obtain ⟨x, p, rfl, h1, h2⟩ := okT_nm h
    have loc : L2.Loc X.env.scope x := by rw [hs]; exact h2.elim .inl fun z => .inr z.2
    have lf : X.fn x = true ∨ X.env.scope.names.lookup x = some .local := by rw [hs, hf]; exact h2.elim .inr fun z => .inl z.1
    refine (pg_name c.nd (by rw [hN]; exact h1) loc lf).imp fun v σ H Q ⟨d, env, t, Qe, hH, g, re, rd, h, l⟩ => ?_
    subst hH
    unfold putT at h
    exact l _ _ (re.set i rd) (fun is hm => wipe_set (hm i (by unfold Tg.slots; simp))) h
  | .tp ts, e, h => by
      obtain ⟨es, k', p, rfl, h⟩ := okT_tp h
      obtain ⟨a1, a2⟩ := okTs_len (env := X.env) h
      refine (pg_tup c.calm (g_tgs c hN hs hf ts es h) a1 a2).imp fun v σ H Q ⟨d, env, t, Qe, hH, g, re, rd, h, l⟩ => ?_
      subst hH
      unfold putT at h
      split at h
      · rename_i xs
        obtain ⟨a, vs, rfl, b1, b2, b3⟩ := tupAt rd
        rw [← c.K] at b1
        have hl : vs.length = ts.length := by rw [b3.length]; exact putTs_eq h
        exact ⟨a, vs, rfl, b1, hl, xs, env, t, Qe, rfl, g, re, b3, h, fun env' σ' r s q => l env' σ' r (by unfold Tg.slots; exact s) q⟩
      · exact h.elim
theorem g_tgs (c : COk W k X) {N : List Str} {sc : Scope} {fn : Str → Bool} (hN : X.N = N) (hs : X.env.scope = sc) (hf : X.fn = fn) : ∀ (ts : List Tg) (es : List Expr), okTs N sc fn ts es = true → PGs X es (gTs W ts)
  | [], [], _ => pgs_nil.imp fun v σ H Q ⟨ds, env, t, Qe, hH, g, re, rd, h, l⟩ => by
    subst hH
    cases ds with
    | nil => cases Reps.nil_inv rd; unfold putTs at h; exact ⟨rfl, l env σ re (by unfold slotss; exact sameOut.refl) h⟩
    | cons d ds => unfold putTs at h; exact h.elim
  | t :: ts, e :: es, h => by
    unfold okTs at h
    simp only [Bool.and_eq_true] at h
    refine (pgs_cons (g_tg c hN hs hf t e h.1.2) (g_tgs c hN hs hf ts es h.2) (by rw [as_cons h.1.1]; rfl)).imp fun v σ H Q ⟨ds, env, st, Qe, hH, g, re, rd, hp, l⟩ => ?_
    subst hH
    cases ds with
    | nil => unfold putTs at hp; exact hp.elim
    | cons d ds =>
      obtain ⟨v, r, rfl, r1, r2⟩ := Reps.cons_inv rd
      unfold putTs at hp
      refine ⟨v, r, rfl, d, env, st, _, rfl, g, re, r1, hp, fun env1 σ1 re1 s1 hp1 => ?_⟩
      refine ⟨ds, env1, st, Qe, rfl, g, re1, r2, hp1, fun env2 σ2 re2 s2 q => l env2 σ2 re2 (fun is hm => ?_) q⟩
      unfold slotss at hm
      exact (s2 is fun i hi => hm i (List.mem_append_right _ hi)).trans (s1 is fun i hi => hm i (List.mem_append_left _ hi))
  | [], _ :: _, h => by unfold okTs at h; cases h
  | _ :: _, [], h => by unfold okTs at h; cases h
end
end
end TL

set_option Elab.async false
set_option linter.all false
set_option maxRecDepth 100000
set_option maxHeartbeats 4000000
/-! enumerate of a tuple. -/
namespace TL
open PySem PySem.Spec PyProof.Rows L2
open Sem (wp) in
theorem meets_enum1 {v : Value} {o : Obj} {H : Heap → Prop} (B : Begins v o H) :
    Meets (Builtin.«enumerate.__new__» ⟨[.type "enumerate", v], []⟩) (fun _ R s => H s.heap ∧
      R (.ok (.ret (.ref (s.heap.push o).objs.size))) { s with heap := (s.heap.push o).push { cls := .type "enumerate", data := .fields #[.none, .bool false, .ref s.heap.objs.size, rawInt 0, .none, .none] } }) :=
  .of_wp fun prog w A R s h => by
    obtain ⟨hp, g, d, tk, os⟩ := s; obtain ⟨h1, h⟩ := h
    have hsub := sub_enumerate
    have q1 : ∀ {A' : Around} {E : Value → Shared → Prop} {Q : Value → Shared → Prop}, Q (.ref hp.objs.size) ⟨hp.push o, g, d, tk, os⟩ → wpAny (model prog w) A' (pyIter v) Q E ⟨hp, g, d, tk, os⟩ :=
      fun q => B.iter prog w _ _ ⟨hp, g, d, tk, os⟩ _ h1 q
    wp_walk using q1
    refine wpAny_stack_any fun st => wpAny_pure ?_
    split
    · rename_i c _ _ _ _ _
      cases (c == Value.type "enumerate")
      · wp_walk using q1
        exact ⟨_, rfl, h⟩
      · wp_walk using q1
        exact ⟨_, rfl, h⟩
    · wp_walk using q1
      exact ⟨_, rfl, h⟩
theorem call_enum1 {prog : Program} {w : World} {A : Around} {E : Value → Shared → Prop} {s : Shared} {v : Value} {o : Obj} {H : Heap → Prop} {Q : Value → Shared → Prop} (B : Begins v o H) (h1 : H s.heap)
    (h : ∀ h', IsEnum h' (s.heap.objs.size + 1) s.heap.objs.size 0 .none → h'.get? s.heap.objs.size = some o → h'.objs.size = s.heap.objs.size + 2 →
      (∀ b o, s.heap.get? b = some o → h'.get? b = some o) → Q (.ref (s.heap.objs.size + 1)) { s with heap := h' }) :
    wpAny (model prog w) A (call (.type "enumerate") [v]) Q E s := by
  refine callType_new F.called_enumerate (by decide) (F.typeCall_enumerate_1 _) (F.newCall_enumerate_1 _) (fun obj => F.args_object_init_2 obj _) F.entry_enumerate_new
    (meets_enum1 B) ⟨h1, ?_⟩
  have hz : (s.heap.push o).objs.size = s.heap.objs.size + 1 := Heap.size_push ..
  show _ ∧ _
  rw [hz]
  have he : IsEnum ((s.heap.push o).push { cls := .type "enumerate", data := .fields #[.none, .bool false, .ref s.heap.objs.size, rawInt 0, .none, .none] }) (s.heap.objs.size + 1) s.heap.objs.size 0 .none := by
    have := Heap.get?_push_size (s.heap.push o) (o := { cls := .type "enumerate", data := .fields #[.none, .bool false, .ref s.heap.objs.size, rawInt 0, .none, .none] }) rfl
    rw [hz] at this; exact this
  refine ⟨⟨_, he, rfl⟩, h _ he (Heap.get?_push_of_some _ (Heap.get?_push_size _ B.free)) (by rw [Heap.size_push, hz]) fun b o x => Heap.get?_push_of_some _ (Heap.get?_push_of_some _ x)⟩

/-- the tuple at a, each item in a new pair -/
def IteT (K : PySem.W.Frag) (a : Addr) : L2.It :=
  ⟨fun i H => ∃ (xs : List V) (x : V), SqT K H a xs ∧ xs[i]? = some x, fun i H v H' => ∃ T x, v = .ref T ∧ H T = none ∧ H' = upd H T (.tup [.int (i : Nat), x]) ∧ ∀ xs, SqT K H a xs → xs[i]? = some x, fun i H => ∃ xs : List V, SqT K H a xs ∧ xs.length = i⟩
theorem turn_enumT {P : Program} {w : World} {K : PySem.W.Frag} {elts : List Expr} {kk : Nat} {tpos : Pos} (a e it : Addr) :
    Turn P w K (.Tuple elts kk tpos) (IteT K a) [e, it] e (fun i h => (∃ old, IsEnum h e it ((i : Nat) : Int) old) ∧ h.IsTupleIter it a i ∧ e ≠ it ∧ e ≠ a ∧ a ≠ it) where
  mem := by simp
  obj := fun i h st b hb => by
    obtain ⟨⟨old, he⟩, ⟨o, ho, hc, hd⟩, _⟩ := st
    have e' : b = e ∨ b = it := by simpa using hb
    rcases e' with z | z
    · rw [z]; exact ⟨_, he, fun v q => nomatch q⟩
    · rw [z]; exact ⟨o, ho, fun v q => by rw [hd] at q; cases q⟩
  keep := fun i h h' st k => let ⟨⟨old, he⟩, hi, hne⟩ := st; ⟨⟨old, k e (by simp) _ he⟩, hi.at fun o q => k it (by simp) o q, hne⟩
  item := by
    intro X hP hw hK hc i pins s σ H E I hf st hg
    subst hP hw hK
    obtain ⟨⟨old, he⟩, hit, hne, hea, hai⟩ := st
    obtain ⟨xs, x, hq, hx⟩ := hg
    obtain ⟨its, rv, p, hz⟩ := I.tuple hq
    obtain ⟨u, hu, ru⟩ := rv.get hx
    have hel : e < s.heap.objs.size := Heap.lt_size he
    have hil : it < s.heap.objs.size := by obtain ⟨_, q, _⟩ := hit; exact Heap.lt_size q
    have D := Draws.tuple (prog := X.prog) (w := X.w) (A := X.A.in1) (I.ok.hd hc) it a hai its.toArray
    have hlt : i < its.toArray.size := by
      have := (List.getElem?_eq_some_iff.mp hu).1
      simpa using this
    refine wpAny_pyNext_enum_itemD D he ⟨hit, (show s.heap.IsTuple a its.toArray from p)⟩ hlt hne (by simp [hne, hea]) fun y h' tk hy ho hst' hT hsz hk => ?_
    obtain ⟨hit', _⟩ := hst'
    have ey : y = u := by
      have e1 : its.toArray[i]? = some u := by simpa using hu
      rw [e1] at hy; exact (Option.some.inj hy).symm
    subst ey
    refine ⟨_, rfl, wpAny_letOwnedTupleGo_enum (s := { s with heap := h', toks := tk + 1 }) ho fun h'' he' sb => ?_⟩
    have hT2 : h''.get? s.heap.objs.size = some { cls := .type "tuple", data := .seq #[.int i tk, y] } := (sb.2 _ (Nat.ne_of_gt hel)).trans hT
    have new : ObjOk X.prog X.w (upd H s.heap.objs.size (.tup [.int (i : Nat), x])) h'' s.heap.objs.size (.tup [.int (i : Nat), x]) :=
      ⟨by show 2 ≤ sizeLine; decide, [.int i tk, y], .cons ⟨_, rfl⟩ (.cons ru .nil), ⟨_, hT2, rfl, _, rfl⟩⟩
    have I1 : L2.Inv X pins σ (upd H s.heap.objs.size (.tup [.int (i : Nat), x])) { s with heap := h'', toks := tk + 1 } :=
      I.turnedNew (ch := [e, it]) (fun b ob hb q => (sb.2 b (fun z => hb (by simp [z]))).trans (hk b ob (fun z => hb (by simp [z])) (fun z => hb (by simp [z])) q)) hf (Nat.le_refl _) new
    refine ⟨.ref s.heap.objs.size, _, I1, rfl, ⟨_, x, rfl, I.hok.fresh (Nat.le_refl _), rfl, fun ys hy => by rw [I.tuple_inj hy hq]; exact hx⟩, ⟨⟨y, ?_⟩, hit'.at fun o q => (sb.2 it (Ne.symm hne)).trans q, hne, hea, hai⟩, fun b hb => ?_⟩
    · have e1 : ((i + 1 : Nat) : Int) = (i : Int) + 1 := by omega
      rw [e1]; exact he'
    · have hb' : b < s.heap.objs.size := by
        have e' : b = e ∨ b = it := by simpa using hb
        rcases e' with z | z
        · rw [z]; exact hel
        · rw [z]; exact hil
      rw [upd_ne (Nat.ne_of_lt hb')]
      exact (hf b hb).1
  done := by
    intro X hP hw hK hc i pins s σ H E I hf st hg
    subst hP hw hK
    obtain ⟨⟨old, he⟩, hit, hne, hea, hai⟩ := st
    obtain ⟨xs, hq, hx⟩ := hg
    obtain ⟨its, rv, p, hz⟩ := I.tuple hq
    obtain ⟨f0, f1, f2, f3, f4, f5⟩ := hf it (by simp)
    have hl := rv.length
    have D := Draws.tuple (prog := X.prog) (w := X.w) (A := X.A.in1) (I.ok.hd hc) it a hai its.toArray
    have ei : i = its.toArray.size := by simp; omega
    subst ei
    exact wpAny_pyNext_enum_endD D he ⟨hit, (show s.heap.IsTuple a its.toArray from p)⟩ fun h' eb => ⟨rfl, I.turned (t' := s.toks) (fun b o hb q => eb b o hb q) f0 f1 f3 f4 f5⟩
  self := fun A i s Q E st h => let ⟨⟨_, he⟩, _⟩ := st; wpAny_pyIter_enum he h
def iEnum2 (K : PySem.W.Frag) (ta : TA) : TI := fun σ H R => ta σ H fun vs H1 => ∃ a xs, vs = [.ref a] ∧ ((SqL K H1 a xs ∧ R (Ite K a) H1) ∨ (SqT K H1 a xs ∧ R (IteT K a) H1))
theorem pi_enum2 {X : Cx} {e : Expr} {ta : TA} {p pos tpos : Pos} {elts : List Expr} {kk : Nat} (hg : Gl X "enumerate") (hm : X.mg "enumerate" = none) (ha : PA X [e] ta) (hs : starEach [e] X.env = [(false, eval e X.env)] := by rfl) :
    PI X (.Tuple elts kk tpos) (.Call (.Name "enumerate" p) [e] [] pos) (iEnum2 X.K ta) := by
  refine ⟨fun pins s σ H R I h => ?_⟩
  refine Call_ (ld_blt I hg hm boot_enumerate (PyProof.Rows.callWith_type1 (thn (ha.run pos pins s σ H _ I h) fun us s1 ⟨vs, H1, I1, r1, q1⟩ => ?_) hs rfl))
  obtain ⟨a, xs, ex, q1⟩ := q1
  subst ex
  cases r1 with
  | cons r rr =>
    cases rr
    cases r
    have fr : ∀ b ∈ [s1.heap.objs.size + 1, s1.heap.objs.size], FpOk X pins H1 b := fun b hb => by
      have e' : b = s1.heap.objs.size + 1 ∨ b = s1.heap.objs.size := by simpa using hb
      have hle : s1.heap.objs.size ≤ b := by
        rcases e' with z | z
        · rw [z]; exact Nat.le_add_right _ _
        · rw [z]; exact Nat.le_refl _
      exact I1.fpOk hle (I1.hok.fresh hle)
    rcases q1 with ⟨hq, q⟩ | ⟨hq, q⟩
    · obtain ⟨its, rv, p', hz⟩ := I1.list hq
      refine call_enumerate_list p'.isList fun h' he hit hsz hk => wpAny_pyIter_enum he ?_
      have I2 : L2.Inv X pins σ H1 { s1 with heap := h' } := I1.kept (t' := s1.toks) hk
      exact ⟨s1.heap.objs.size + 1, [s1.heap.objs.size + 1, s1.heap.objs.size], _, _, H1, rfl, I2, turn_enum a (s1.heap.objs.size + 1) s1.heap.objs.size, ⟨⟨.none, he⟩, hit, Nat.succ_ne_self _⟩, fr, q⟩
    · obtain ⟨its, rv, p', hz⟩ := I1.tuple hq
      have pt : s1.heap.IsTuple a its.toArray := p'
      have hlt : a < s1.heap.objs.size := by obtain ⟨o, ho, _⟩ := pt; exact Heap.lt_size ho
      refine call_enum1 (begins_tuple a its.toArray) pt fun h' he hit hsz hk => wpAny_pyIter_enum he ?_
      have I2 : L2.Inv X pins σ H1 { s1 with heap := h' } := I1.kept (t' := s1.toks) hk
      exact ⟨s1.heap.objs.size + 1, [s1.heap.objs.size + 1, s1.heap.objs.size], _, _, H1, rfl, I2, turn_enumT a (s1.heap.objs.size + 1) s1.heap.objs.size, ⟨⟨.none, he⟩, ⟨_, hit, rfl, rfl⟩, Nat.succ_ne_self _, Nat.ne_of_gt (Nat.lt_succ_of_lt hlt), Nat.ne_of_lt hlt⟩, fr, q⟩
end TL

set_option Elab.async false
set_option linter.all false
set_option maxRecDepth 100000
set_option maxHeartbeats 4000000
/-! What a for walks. -/
namespace TL
open PySem PySem.Spec PyProof.Rows L2

theorem _root_.L2.PI.imp {X : Cx} {tg e : Expr} {t t' : TI} (h : PI X tg e t) (i : ∀ σ H R, t' σ H R → t σ H R) : PI X tg e t' := ⟨fun pins s σ H R I q => h.run pins s σ H R I (i σ H R q)⟩
structure WalkD (W : Wd) (t0 : Sta) (J : L2.It) (src : Src) : Prop where
  goes : ∀ i t d, Ext t0 t → Good W t → src.g t.M → src.xs[i]? = some d → J.go i t.H
  stops : ∀ t, Ext t0 t → Good W t → src.g t.M → J.stop src.xs.length t.H
  yields : ∀ i t x H' d, Ext t0 t → Good W t → src.g t.M → src.xs[i]? = some d → J.yld i t.H x H' → ∃ t', t'.H = H' ∧ Ext t t' ∧ t'.M = t.M ∧ Good W t' ∧ Rep W t' d x
def tI (W : Wd) (B : Bnd) (p : XD → En → Mm → (Src → Mm → Prop) → Prop) : TI := fun σ H R => ∃ (env : En) (t : Sta) (Qp : Src → Mm → Prop), t.H = H ∧ Ext B.t0 t ∧ Good W t ∧ REnv W t env σ ∧ p (B.ex env) env t.M Qp ∧
  ∀ src t' J, Ext t t' → Good W t' → Qp src t'.M → WalkD W t' J src → R J t'.H
section
variable {W : Wd} {k : Nat} {B : Bnd} {X : Cx} {a b tg : Expr} {pos p : Pos} {pw pw2 : Wp}
/-- the sequence at hand stays -/
theorem seq_stays {t0 : Sta} {d : D} {xs : List D} {v : V} (g0 : Good W t0) (rd : Rep W t0 d v) (e : seqOf t0.M d = some xs) :
    ∃ (a : Addr) (vs : List V), v = .ref a ∧ vs.length = xs.length ∧ ((∃ ys, d = .tup ys) ∧ (∀ t, Ext t0 t → Good W t → SqT W.K t.H a vs ∧ Reps W t xs vs) ∨ (lstOf t0.M d = some xs ∧ SqL W.K t0.H a vs ∧ ∀ t, Ext t0 t → Good W t → grd d xs t.M → ∃ vs', SqL W.K t.H a vs' ∧ Reps W t xs vs')) := by
  cases d with
  | tup ys =>
    cases e
    obtain ⟨a, vs, rfl, h1, h2, h3⟩ := tupAt rd
    refine ⟨a, vs, rfl, h3.length, .inl ⟨⟨_, rfl⟩, fun t ex g => ?_⟩⟩
    have f := ex.fst g0
    simp only [Rep] at rd
    obtain ⟨a', vs', ea, hs, hl, hr⟩ := rd
    cases ea
    refine ⟨?_, h3.ext f⟩
    rcases h1 with h1 | h1
    · rcases hs with ⟨hF, hs⟩ | hs
      · exact .inl (Rd.ext f hF h1).2
      · rcases h1 with h1 | ⟨o, h1⟩
        · -- a known tuple that is tracked too: the known one
          exact (show SqT W.K t.H a vs from by
            have hk : t0.M a = none := by
              cases em : t0.M a with
              | none => rfl
              | some o =>
                have := g0.at_ a o em
                cases o with
                | lst ys => obtain ⟨_, q, _⟩ := this; rw [h1] at q; cases q
                | dct ys => obtain ⟨_, q, _⟩ := this; rw [h1] at q; cases q
                | ins c ys => obtain ⟨_, _, _, q, _⟩ := this; rw [h1] at q; cases q
            exact .inl (.inl (ex.keep a _ h1 hk).1))
        · exact (show SqT W.K t.H a vs from by
            have hk : t0.M a = none := by
              cases em : t0.M a with
              | none => rfl
              | some o =>
                have := g0.at_ a o em
                cases o with
                | lst ys => obtain ⟨_, q, _⟩ := this; rw [h1] at q; cases q
                | dct ys => obtain ⟨_, q, _⟩ := this; rw [h1] at q; cases q
                | ins c ys => obtain ⟨_, _, _, q, _⟩ := this; rw [h1] at q; cases q
            exact .inl (.inr ⟨o, (ex.keep a _ h1 hk).1⟩))
    · exact .inr h1
  | lst ys =>
    cases e
    obtain ⟨a, vs, rfl, h1, h2, h3⟩ := lstAt rd
    refine ⟨a, vs, rfl, h3.length, .inr ⟨rfl, .of h1, fun t ex g _ => ?_⟩⟩
    simp only [Rep] at rd
    obtain ⟨a', vs', ea, hs, hl, hr⟩ := rd
    cases ea
    exact ⟨vs', .of ((ex.fst g0 a hs.1).2 _ hs.2), hr.ext (ex.fst g0)⟩
  | klst ys =>
    cases e
    simp only [Rep] at rd
    obtain ⟨a, vs, rfl, hs, hl, hr⟩ := rd
    have h0 : SqL W.K t0.H a vs := by
      rcases hs with ⟨_, q⟩ | ⟨o, its, n, z1, z2, z6, z3, z4, z5⟩
      · exact .inl q
      · exact .inr ⟨o, its, n, z1, z2, z6 rfl, z3, z4, z5⟩
    refine ⟨a, vs, rfl, hr.length, .inr ⟨rfl, h0, fun t ex g _ => ?_⟩⟩
    refine ⟨vs, ?_, hr.ext (ex.fst g0)⟩
    rcases hs with ⟨hF, q⟩ | ⟨o, its, n, z1, z2, z6, z3, z4, z5⟩
    · exact .inl (Rd.ext (ex.fst g0) hF q).2
    · exact .inr ⟨o, its, n, z1, z2, z6 rfl, z3, z4, z5⟩
  | ref q =>
    have := repR rd; subst this
    have e' : (match t0.M q with | some (.lst xs) => some xs | _ => none) = some xs := e
    split at e'
    · rename_i ys em
      cases e'
      obtain ⟨vs, h1, h2, h3⟩ := g0.at_ q _ em
      refine ⟨q, vs, rfl, h3.length, .inr ⟨e, .of h1, fun t ex g hg => ?_⟩⟩
      have hg' : t.M q = some (.lst xs) := hg
      obtain ⟨vs', h1', _, h3'⟩ := g.at_ q _ hg'
      exact ⟨vs', .of h1', h3'⟩
    · cases e'
  | _ => cases e
theorem walk_l {t0 : Sta} {xs : List D} {a : Addr} {gd : Mm → Prop} (h : ∀ t, Ext t0 t → Good W t → gd t.M → ∃ vs', SqL W.K t.H a vs' ∧ Reps W t xs vs') : WalkD W t0 (Itl W.K a) ⟨gd, xs⟩ where
  goes := fun i t d e g hg hd => by
    obtain ⟨vs, h1, h2⟩ := h t e g hg
    obtain ⟨v, hv, _⟩ := h2.get hd
    exact ⟨vs, v, h1, hv⟩
  stops := fun t e g hg => by
    obtain ⟨vs, h1, h2⟩ := h t e g hg
    exact ⟨vs, h1, by rw [h2.length]; exact Nat.le_refl _⟩
  yields := fun i t x H' d e g hg hd y => by
    obtain ⟨vs, h1, h2⟩ := h t e g hg
    obtain ⟨y1, y2⟩ := y
    obtain ⟨v, hv, rv⟩ := h2.get hd
    have := y2 vs h1
    rw [hv] at this; cases this
    exact ⟨t, y1.symm, Ext.refl, rfl, g, rv⟩
theorem walk_t {t0 : Sta} {xs : List D} {a : Addr} {vs : List V} {gd : Mm → Prop} (h : ∀ t, Ext t0 t → Good W t → SqT W.K t.H a vs ∧ Reps W t xs vs) : WalkD W t0 (Itt W.K a) ⟨gd, xs⟩ where
  goes := fun i t d e g hg hd => by
    obtain ⟨h1, h2⟩ := h t e g
    obtain ⟨v, hv, _⟩ := h2.get hd
    exact ⟨vs, v, h1, hv⟩
  stops := fun t e g hg => by
    obtain ⟨h1, h2⟩ := h t e g
    exact ⟨vs, h1, by rw [h2.length]; exact Nat.le_refl _⟩
  yields := fun i t x H' d e g hg hd y => by
    obtain ⟨h1, h2⟩ := h t e g
    obtain ⟨y1, y2⟩ := y
    obtain ⟨v, hv, rv⟩ := h2.get hd
    have := y2 vs h1
    rw [hv] at this; cases this
    exact ⟨t, y1.symm, Ext.refl, rfl, g, rv⟩
theorem walk_s {t0 : Sta} {z : Str} : WalkD W t0 (Its z) ⟨fun _ => True, z.cps.toList.map fun c => .str ⟨#[c]⟩⟩ where
  goes := fun i t d e g hg hd => by
    have : i < (z.cps.toList.map fun c => D.str ⟨#[c]⟩).length := (List.getElem?_eq_some_iff.mp hd).1
    show i < z.cps.size
    simpa using this
  stops := fun t e g hg => by show z.cps.size ≤ _; simp
  yields := fun i t x H' d e g hg hd y => by
    obtain ⟨y1, c, y2, y3⟩ := y
    refine ⟨t, y1.symm, Ext.refl, rfl, g, ?_⟩
    have hd' : (z.cps.toList.map fun c => D.str ⟨#[c]⟩)[i]? = some d := hd
    rw [List.getElem?_map, Array.getElem?_toList, y2] at hd'
    cases hd'
    subst y3
    simp only [Rep]
    exact ⟨trivial, by show 1 ≤ sizeLine; decide⟩
theorem walk_r {t0 : Sta} {lo : Int} {n : Nat} : WalkD W t0 (Itr lo n) ⟨fun _ => True, rangeD lo n⟩ where
  goes := fun i t d e g hg hd => by
    have : i < (rangeD lo n).length := (List.getElem?_eq_some_iff.mp hd).1
    rwa [rangeD_length] at this
  stops := fun t e g hg => by show n ≤ _; rw [rangeD_length]; exact Nat.le_refl _
  yields := fun i t x H' d e g hg hd y => by
    obtain ⟨y1, y2⟩ := y
    refine ⟨t, y1.symm, Ext.refl, rfl, g, ?_⟩
    obtain ⟨v, hv, rv⟩ := (rangeD_rep (W := W) (t := t) n lo).get hd
    have hi : i < n := by
      have : i < (rangeD lo n).length := (List.getElem?_eq_some_iff.mp hd).1
      rwa [rangeD_length] at this
    rw [List.getElem?_map, List.getElem?_range hi] at hv
    cases hv
    rw [y2]; exact rv
def noSet : Expr → Bool
  | .Set _ _ _ => false
  | _ => true
theorem noSet_ok {e : Expr} {env : Env} (h : noSet e = true) : ∀ x, foldedSetIterable e env x = pure x := fun x => by
  cases e <;> first | rfl | cases h
theorem itK_inv {M : Mm} {d : D} {kk : Src → Prop} (h : itK M d kk) : (∃ z, d = .str z ∧ kk ⟨fun _ => True, z.cps.toList.map fun c => .str ⟨#[c]⟩⟩) ∨ ∃ xs, seqOf M d = some xs ∧ kk ⟨grd d xs, xs⟩ := by
  unfold itK at h
  split at h
  · exact .inl ⟨_, rfl, h⟩
  · obtain ⟨xs, e, h⟩ := someK_inv h
    exact .inr ⟨xs, e, h⟩
theorem i_seq (c : COk W k X) (ha : PE X a (tE W B pw)) : PI X tg a (tI W B fun x env M Q => pw x env M fun d M1 => itK M1 d fun src => Q src M1) := by
  refine ⟨fun pins s σ H R I ⟨env, t, Qp, hH, he, g, re, h, l⟩ => ?_⟩
  subst hH
  refine thn (ha.run pins s σ t.H _ I (tE_bind (Q := fun v H1 => ∃ (d : D) (t1 : Sta), t1.H = H1 ∧ Ext t t1 ∧ Good W t1 ∧ Rep W t1 d v ∧ itK t1.M d fun src => Qp src t1.M) rfl he g re h fun d v t1 e1 he1 g1 r1 rd h1 => ⟨d, t1, rfl, e1, g1, rd, h1⟩)) fun v s1 ⟨x, H1, I1, rx, d, t1, e0, e1, g1, rd, h1⟩ => ?_
  subst e0
  have hK := c.K
  have fresh : ∀ b ∈ [s1.heap.objs.size], FpOk X pins t1.H b := fun b hb => by
    have e : b = s1.heap.objs.size := by simpa using hb
    subst e
    exact I1.fpOk (Nat.le_refl _) (I1.hok.fresh (Nat.le_refl _))
  have sq : ∀ xs, seqOf t1.M d = some xs → Qp ⟨grd d xs, xs⟩ t1.M → wpAny (model X.prog X.w) X.A (pyIter v) (PIE X pins σ tg R) X.xe s1 := fun xs ex hq => by
    obtain ⟨q, vs, rfl, hlen, hcase⟩ := seq_stays g1 rd ex
    cases rx
    rcases hcase with ⟨⟨ys, rfl⟩, hst⟩ | ⟨el, b0, hst⟩
    · have b1 := (hst t1 Ext.refl g1).1
      rw [← hK] at b1
      obtain ⟨its, rv, p, hz⟩ := I1.tuple b1
      refine wpAny_pyIter_tuple (show s1.heap.IsTuple q its.toArray from p) ?_
      refine ⟨s1.heap.objs.size, [s1.heap.objs.size], _, Itt X.K q, t1.H, rfl, I1.kept (t' := s1.toks) fun b o e => Heap.get?_push_of_some _ e, turn_tuple q _, ⟨_, Heap.get?_push_size _ rfl, rfl, rfl⟩, fresh, ?_⟩
      rw [hK]
      exact l _ t1 _ e1 g1 hq (walk_t (gd := grd (.tup ys) xs) hst)
    · rw [← hK] at b0
      obtain ⟨its, rv, p, hz⟩ := I1.list b0
      refine wpAny_pyIter_list p.isList ?_
      refine ⟨s1.heap.objs.size, [s1.heap.objs.size], _, Itl X.K q, t1.H, rfl, I1.kept (t' := s1.toks) fun b o e => Heap.get?_push_of_some _ e, turn_list q _, ⟨_, Heap.get?_push_size _ rfl, rfl, rfl⟩, fresh, ?_⟩
      rw [hK]
      exact l _ t1 _ e1 g1 hq (walk_l hst)
  rcases itK_inv h1 with ⟨z, rfl, hq⟩ | ⟨xs, ex, hq⟩
  · obtain ⟨rfl, hz⟩ := repS rd
    obtain ⟨tk, rfl⟩ := rx
    have q : R (Its z) t1.H := l _ t1 _ e1 g1 hq walk_s
    cases ha : z.cps.all (· < 128)
    · exact wpAny_pyIter_wide ha (pi_one (tk := s1.toks) I1 _ (turn_str _ z tk "str_iterator" (.inr rfl)) ⟨_, Heap.get?_push_size _ rfl, rfl, rfl⟩ q)
    · exact wpAny_pyIter_ascii ha (pi_one (tk := s1.toks) I1 _ (turn_str _ z tk "str_ascii_iterator" (.inl rfl)) ⟨_, Heap.get?_push_size _ rfl, rfl, rfl⟩ q)
  · exact sq xs ex hq
theorem i_rng1 (c : COk W k X) (hg : Gl X "range") (hm : W.mg "range" = none) (hn : nost a = true) (ha : PE X a (tE W B pw)) :
    PI X tg (.Call (.Name "range" p) [a] [] pos) (tI W B fun x env M Q => pw x env M fun u M1 => u.asI fun n => -(2 ^ 62) ≤ n ∧ n < 2 ^ 62 ∧ Q ⟨fun _ => True, rangeD 0 n.toNat⟩ M1) := by
  rw [← c.mg] at hm
  refine (pi_range1 hg hm (pa_cons ha pa_nil (star_cons hn)) (star_cons hn)).imp fun σ H R ⟨env, t, Qp, hH, he, g, re, h, l⟩ => ?_
  subst hH
  refine tE_bind rfl he g re h fun d v t1 e1 he1 g1 r1 rd h1 => ?_
  obtain ⟨n, rfl, h2, h3, h4⟩ := D.asI_inv h1
  have := repI rd; subst this
  exact ⟨n, rfl, h2, h3, l _ t1 _ e1 g1 h4 walk_r⟩
theorem i_rng2 (c : COk W k X) (hg : Gl X "range") (hm : W.mg "range" = none) (hn : nost a = true) (hn2 : nost b = true) (ha : PE X a (tE W B pw)) (hb : PE X b (tE W B pw2)) :
    PI X tg (.Call (.Name "range" p) [a, b] [] pos) (tI W B fun x env M Q => pw x env M fun u M1 => pw2 x env M1 fun v M2 => u.asI fun l => v.asI fun h => -(2 ^ 62) ≤ l ∧ l < 2 ^ 62 ∧ -(2 ^ 62) ≤ h ∧ h < 2 ^ 62 ∧ Q ⟨fun _ => True, rangeD l (h - l).toNat⟩ M2) := by
  rw [← c.mg] at hm
  refine (pi_range2 hg hm (pa_cons ha (pa_cons hb pa_nil (star_cons hn2)) (star_cons hn)) (by rw [star_cons hn, star_cons hn2]; rfl) (star_cons hn2)).imp fun σ H R ⟨env, t, Qp, hH, he, g, re, h, l⟩ => ?_
  subst hH
  refine tE_bind rfl he g re h fun d v t1 e1 he1 g1 r1 rd h1 => tE_bind rfl he1 g1 r1 h1 fun d2 v2 t2 e2 he2 g2 r2 rd2 h2 => ?_
  obtain ⟨i, rfl, h3⟩ := D.asI_inv h2
  obtain ⟨j, rfl, z1, z2, z3, z4, h4⟩ := D.asI_inv h3
  have := repI rd; subst this
  have := repI rd2; subst this
  exact ⟨i, j, rfl, ⟨z1, z2, z3, z4⟩, l _ t2 _ (e1.trans e2) g2 h4 walk_r⟩
/-- a new pair -/
theorem pair_new {t : Sta} {T : Addr} {dx dy : D} {x y : V} (g : Good W t) (n : t.H T = none) (rx : Rep W t dx x) (ry : Rep W t dy y) : ∃ t', t'.H = upd t.H T (.tup [x, y]) ∧ Ext t t' ∧ t'.M = t.M ∧ Good W t' ∧ Rep W t' (.tup [dx, dy]) (.ref T) :=
  ⟨t.add T (.tup [x, y]), rfl, Ext.add n, rfl, g.add n, Rep.newTup n (by show 2 ≤ sizeLine; decide) (Reps.cons rx (Reps.one ry))⟩
theorem enumD_get : ∀ {xs : List D} {n i : Nat} {d : D}, (enumD n xs)[i]? = some d → ∃ y, xs[i]? = some y ∧ d = .tup [.int ((n + i : Nat) : Int), y]
  | [], n, i, d, h => by unfold enumD at h; simp at h
  | x :: xs, n, 0, d, h => by unfold enumD at h; simp at h; exact ⟨x, rfl, h.symm⟩
  | x :: xs, n, i + 1, d, h => by
    unfold enumD at h
    obtain ⟨y, h1, h2⟩ := enumD_get (xs := xs) (n := n + 1) (i := i) (by simpa using h)
    exact ⟨y, by simpa using h1, by rw [h2, show n + 1 + i = n + (i + 1) from by omega]⟩
theorem enumD_length : ∀ (xs : List D) (n : Nat), (enumD n xs).length = xs.length
  | [], _ => rfl
  | x :: xs, n => by unfold enumD; rw [List.length_cons, List.length_cons, enumD_length xs]
theorem walk_e {t0 : Sta} {xs : List D} {a : Addr} {gd : Mm → Prop} (h : ∀ t, Ext t0 t → Good W t → gd t.M → ∃ vs', SqL W.K t.H a vs' ∧ Reps W t xs vs') : WalkD W t0 (Ite W.K a) ⟨gd, enumD 0 xs⟩ where
  goes := fun i t d e g hg hd => by
    obtain ⟨vs, h1, h2⟩ := h t e g hg
    obtain ⟨y, hy, _⟩ := enumD_get hd
    obtain ⟨v, hv, _⟩ := h2.get hy
    exact ⟨vs, v, h1, hv⟩
  stops := fun t e g hg => by
    obtain ⟨vs, h1, h2⟩ := h t e g hg
    exact ⟨vs, h1, by show _ ≤ (enumD 0 xs).length; rw [enumD_length, h2.length]; exact Nat.le_refl _⟩
  yields := fun i t x H' d e g hg hd y => by
    obtain ⟨vs, h1, h2⟩ := h t e g hg
    obtain ⟨T, x', rfl, hT, rfl, hx⟩ := y
    obtain ⟨y, hy, rfl⟩ := enumD_get hd
    obtain ⟨v, hv, rv⟩ := h2.get hy
    have := hx vs h1
    rw [hv] at this; cases this
    have e0 : ((0 + i : Nat) : Int) = (i : Nat) := by congr 1; omega
    rw [e0]
    exact pair_new g hT (by simp only [Rep]) rv
theorem zipD_get : ∀ {xs ys : List D} {i : Nat} {d : D}, (zipD xs ys)[i]? = some d → ∃ x y, xs[i]? = some x ∧ ys[i]? = some y ∧ d = .tup [x, y]
  | [], ys, i, d, h => by unfold zipD at h; simp at h
  | x :: xs, [], i, d, h => by unfold zipD at h; simp at h
  | x :: xs, y :: ys, 0, d, h => by unfold zipD at h; simp at h; exact ⟨x, y, rfl, rfl, h.symm⟩
  | x :: xs, y :: ys, i + 1, d, h => by
    unfold zipD at h
    obtain ⟨a, b, h1, h2, h3⟩ := zipD_get (xs := xs) (ys := ys) (i := i) (by simpa using h)
    exact ⟨a, b, by simpa using h1, by simpa using h2, h3⟩
theorem zipD_length : ∀ (xs ys : List D), (zipD xs ys).length = min xs.length ys.length
  | [], ys => by unfold zipD; simp
  | x :: xs, [] => by unfold zipD; simp
  | x :: xs, y :: ys => by unfold zipD; rw [List.length_cons, List.length_cons, List.length_cons, zipD_length xs ys]; omega
theorem walk_z {t0 : Sta} {xs ys : List D} {a b : Addr} {gd gd2 : Mm → Prop} (h : ∀ t, Ext t0 t → Good W t → gd t.M → ∃ vs', SqL W.K t.H a vs' ∧ Reps W t xs vs') (h' : ∀ t, Ext t0 t → Good W t → gd2 t.M → ∃ vs', SqL W.K t.H b vs' ∧ Reps W t ys vs') :
    WalkD W t0 (Itz W.K a b) ⟨fun M => gd M ∧ gd2 M, zipD xs ys⟩ where
  goes := fun i t d e g hg hd => by
    obtain ⟨vs, h1, h2⟩ := h t e g hg.1
    obtain ⟨us, h3, h4⟩ := h' t e g hg.2
    obtain ⟨x, y, hx, hy, _⟩ := zipD_get hd
    obtain ⟨v, hv, _⟩ := h2.get hx
    obtain ⟨u, hu, _⟩ := h4.get hy
    exact ⟨vs, us, v, u, h1, h3, hv, hu⟩
  stops := fun t e g hg => by
    obtain ⟨vs, h1, h2⟩ := h t e g hg.1
    obtain ⟨us, h3, h4⟩ := h' t e g hg.2
    refine ⟨vs, us, h1, h3, ?_⟩
    have e1 := h2.length
    have e2 := h4.length
    show vs.length ≤ (zipD xs ys).length ∨ us.length ≤ (zipD xs ys).length
    rw [zipD_length]; omega
  yields := fun i t x H' d e g hg hd y => by
    obtain ⟨vs, h1, h2⟩ := h t e g hg.1
    obtain ⟨us, h3, h4⟩ := h' t e g hg.2
    obtain ⟨T, x', y', rfl, hT, rfl, hx, hy⟩ := y
    obtain ⟨x, y, zx, zy, rfl⟩ := zipD_get hd
    obtain ⟨v, hv, rv⟩ := h2.get zx
    obtain ⟨u, hu, ru⟩ := h4.get zy
    have := hx vs h1
    rw [hv] at this; cases this
    have := hy us h3
    rw [hu] at this; cases this
    exact pair_new g hT rv ru
theorem walk_zt {t0 : Sta} {xs ys : List D} {a b : Addr} {vs us : List V} (h : ∀ t, Ext t0 t → Good W t → SqT W.K t.H a vs ∧ Reps W t xs vs) (h' : ∀ t, Ext t0 t → Good W t → SqT W.K t.H b us ∧ Reps W t ys us) :
    WalkD W t0 (RZ.ItzT W.K a b) ⟨fun _ => True, zipD xs ys⟩ where
  goes := fun i t d e g hg hd => by
    obtain ⟨h1, h2⟩ := h t e g
    obtain ⟨h3, h4⟩ := h' t e g
    obtain ⟨x, y, hx, hy, _⟩ := zipD_get hd
    obtain ⟨v, hv, _⟩ := h2.get hx
    obtain ⟨u, hu, _⟩ := h4.get hy
    exact ⟨vs, us, v, u, h1, h3, hv, hu⟩
  stops := fun t e g hg => by
    obtain ⟨h1, h2⟩ := h t e g
    obtain ⟨h3, h4⟩ := h' t e g
    refine ⟨vs, us, h1, h3, ?_⟩
    have e1 := h2.length
    have e2 := h4.length
    show vs.length ≤ (zipD xs ys).length ∨ us.length ≤ (zipD xs ys).length
    rw [zipD_length]; omega
  yields := fun i t x H' d e g hg hd y => by
    obtain ⟨h1, h2⟩ := h t e g
    obtain ⟨h3, h4⟩ := h' t e g
    obtain ⟨T, x', y', rfl, hT, rfl, hx, hy⟩ := y
    obtain ⟨x, y, zx, zy, rfl⟩ := zipD_get hd
    obtain ⟨v, hv, rv⟩ := h2.get zx
    obtain ⟨u, hu, ru⟩ := h4.get zy
    have := hx vs h1
    rw [hv] at this; cases this
    have := hy us h3
    rw [hu] at this; cases this
    exact pair_new g hT rv ru
theorem seq_of_lst {M : Mm} {d : D} {xs : List D} (e : lstOf M d = some xs) : seqOf M d = some xs := by
  cases d <;> first | exact e | cases e
theorem walk_eT {t0 : Sta} {xs : List D} {a : Addr} {vs : List V} {gd : Mm → Prop} (h : ∀ t, Ext t0 t → Good W t → SqT W.K t.H a vs ∧ Reps W t xs vs) : WalkD W t0 (IteT W.K a) ⟨gd, enumD 0 xs⟩ where
  goes := fun i t d e g hg hd => by
    obtain ⟨h1, h2⟩ := h t e g
    obtain ⟨y, hy, _⟩ := enumD_get hd
    obtain ⟨v, hv, _⟩ := h2.get hy
    exact ⟨vs, v, h1, hv⟩
  stops := fun t e g hg => by
    obtain ⟨h1, h2⟩ := h t e g
    exact ⟨vs, h1, by show _ = (enumD 0 xs).length; rw [enumD_length, h2.length]⟩
  yields := fun i t x H' d e g hg hd y => by
    obtain ⟨h1, h2⟩ := h t e g
    obtain ⟨T, x', rfl, hT, rfl, hx⟩ := y
    obtain ⟨y, hy, rfl⟩ := enumD_get hd
    obtain ⟨v, hv, rv⟩ := h2.get hy
    have := hx vs h1
    rw [hv] at this; cases this
    have e0 : ((0 + i : Nat) : Int) = (i : Nat) := by congr 1; omega
    rw [e0]
    exact pair_new g hT (by simp only [Rep]) rv
theorem i_enum {es : List Expr} {kk : Nat} {tp : Pos} (c : COk W k X) (hg : Gl X "enumerate") (hm : W.mg "enumerate" = none) (hn : nost a = true) (ha : PE X a (tE W B pw)) :
    PI X (.Tuple es kk tp) (.Call (.Name "enumerate" p) [a] [] pos) (tI W B fun x env M Q => pw x env M fun u M1 => someK (seqOf M1 u) fun xs => Q ⟨grd u xs, enumD 0 xs⟩ M1) := by
  rw [← c.mg] at hm
  refine (pi_enum2 hg hm (pa_cons ha pa_nil (star_cons hn)) (star_cons hn)).imp fun σ H R ⟨env, t, Qp, hH, he, g, re, h, l⟩ => ?_
  subst hH
  refine tE_bind rfl he g re h fun d v t1 e1 he1 g1 r1 rd h1 => ?_
  obtain ⟨xs, ex, h1⟩ := someK_inv h1
  obtain ⟨q, vs, rfl, hlen, hcase⟩ := seq_stays g1 rd ex
  rw [c.K]
  rcases hcase with ⟨⟨ys, rfl⟩, hst⟩ | ⟨el, b0, hst⟩
  · exact ⟨q, vs, rfl, .inr ⟨(hst t1 Ext.refl g1).1, l _ t1 _ e1 g1 h1 (walk_eT (gd := grd (.tup ys) xs) hst)⟩⟩
  · exact ⟨q, vs, rfl, .inl ⟨b0, l _ t1 _ e1 g1 h1 (walk_e hst)⟩⟩
theorem i_zip {es : List Expr} {kk : Nat} {tp : Pos} (c : COk W k X) (hg : Gl X "zip") (hm : W.mg "zip" = none) (hn : nost a = true) (hn2 : nost b = true) (ha : PE X a (tE W B pw)) (hb : PE X b (tE W B pw2)) :
    PI X (.Tuple es kk tp) (.Call (.Name "zip" p) [a, b] [] pos) (tI W B fun x env M Q => pw x env M fun u M1 => pw2 x env M1 fun v M2 => zipK M2 u v fun src => Q src M2) := by
  rw [← c.mg] at hm
  refine (RZ.pi_zipA hg hm (pa_cons ha (pa_cons hb pa_nil (star_cons hn2)) (star_cons hn)) (star_cons hn) (star_any (by simp [hn2]))).imp fun σ H R ⟨env, t, Qp, hH, he, g, re, h, l⟩ => ?_
  subst hH
  refine tE_bind rfl he g re h fun d v t1 e1 he1 g1 r1 rd h1 => tE_bind rfl he1 g1 r1 h1 fun d2 v2 t2 e2 he2 g2 r2 rd2 h2 => ?_
  have rd' := rd.ext (e2.fst g1)
  rw [c.K]
  have two : (someK (lstOf t2.M d) fun xs => someK (lstOf t2.M d2) fun ys => Qp ⟨fun M => grd d xs M ∧ grd d2 ys M, zipD xs ys⟩ t2.M) → ∃ a b xs ys, [v, v2] = [V.ref a, V.ref b] ∧ (SqL W.K t2.H a xs ∧ SqL W.K t2.H b ys ∧ R (Itz W.K a b) t2.H ∨ SqT W.K t2.H a xs ∧ SqT W.K t2.H b ys ∧ R (RZ.ItzT W.K a b) t2.H) := fun hz => by
    obtain ⟨xs, ex, hz⟩ := someK_inv hz
    obtain ⟨ys, ey, hz⟩ := someK_inv hz
    obtain ⟨q, vs, rfl, _, hc1⟩ := seq_stays g2 rd' (seq_of_lst ex)
    obtain ⟨q2, us, rfl, _, hc2⟩ := seq_stays g2 rd2 (seq_of_lst ey)
    rcases hc1 with ⟨⟨zs, rfl⟩, _⟩ | ⟨_, b0, hst⟩
    · cases ex
    · rcases hc2 with ⟨⟨zs, rfl⟩, _⟩ | ⟨_, b1, hst2⟩
      · cases ey
      · exact ⟨q, q2, vs, us, rfl, .inl ⟨b0, b1, l _ t2 _ (e1.trans e2) g2 hz (walk_z hst hst2)⟩⟩
  unfold zipK at h2
  split at h2
  · rename_i xs ys
    obtain ⟨q, vs, rfl, _, hc1⟩ := seq_stays g2 rd' (show seqOf t2.M (.tup xs) = some xs from rfl)
    obtain ⟨q2, us, rfl, _, hc2⟩ := seq_stays g2 rd2 (show seqOf t2.M (.tup ys) = some ys from rfl)
    rcases hc1 with ⟨_, hst⟩ | ⟨z, _⟩
    · rcases hc2 with ⟨_, hst2⟩ | ⟨z, _⟩
      · exact ⟨q, q2, vs, us, rfl, .inr ⟨(hst t2 Ext.refl g2).1, (hst2 t2 Ext.refl g2).1, l _ t2 _ (e1.trans e2) g2 h2 (walk_zt hst hst2)⟩⟩
      · cases z
    · cases z
  · exact two h2
end
end TL

set_option Elab.async false
set_option linter.all false
set_option maxRecDepth 100000
set_option maxHeartbeats 4000000
/-! list(zip(a, b)) of two lists. -/
namespace TL
open PySem PySem.Spec PyProof.Rows L2
/-- where the zip stands: nothing handed out yet, or the tuple T is still out -/
def ZipSt (h : Heap) (z TI TO : Addr) : Prop := (IsZip h z TI TO .none ∧ ∃ x y, IsPair h TO x y) ∨ (∃ T f oT, IsZipHeld h z TI TO T f ∧ h.get? T = some oT) ∧ ∃ o, h.get? TO = some o
theorem pyNext_zst_item {prog : Program} {w : World} {A : Around} {E : Value → Shared → Prop} {s : Shared} {z TI TO i1 i2 l1 l2 : Addr} {k1 k2 : Nat} {xs ys : Array Value} {x y : Value} {Q : Option Value → Shared → Prop} (D : ZipApart z TI TO i1 i2 l1 l2)
    (hz : ZipSt s.heap z TI TO) (hTI : IsPair s.heap TI (.ref i1) (.ref i2))
    (h1 : s.heap.IsListIter i1 l1 k1) (h2 : s.heap.IsListIter i2 l2 k2) (hl1 : s.heap.IsList l1 xs) (hl2 : s.heap.IsList l2 ys) (hx : xs[k1]? = some x) (hy : ys[k2]? = some y)
    (hQ : ∀ h', ZipSt h' z TI TO → h'.IsListIter i1 l1 (k1 + 1) → h'.IsListIter i2 l2 (k2 + 1) → IsPair h' s.heap.objs.size x y → h'.objs.size = s.heap.objs.size + 1 →
      (∀ c o, c ≠ z → c ≠ TO → c ≠ i1 → c ≠ i2 → s.heap.get? c = some o → h'.get? c = some o) → Q (some (.ref s.heap.objs.size)) { s with heap := h' }) :
    wpAny (model prog w) A (pyNext (.ref z)) Q E s := by
  rcases hz with ⟨hz, a, b, hTO⟩ | ⟨⟨T, f, oT, hz, hT⟩, oTO, hTO⟩
  · exact wpAny_pyNext_zip_item D hz hTI hTO h1 h2 hl1 hl2 hx hy fun h' a1 a2 a3 a4 a5 a6 a7 => hQ h' (.inr ⟨⟨_, false, _, a1, a5⟩, _, a2⟩) a3 a4 a5 a6 a7
  · refine wpAny_pyNext_zip_item_held D hz hT hTI h1 h2 hl1 hl2 hx hy fun h' a1 a3 a4 a5 a6 a7 => hQ h' (.inr ⟨⟨T, true, ?_⟩, _, a7 TO oTO D.TOz D.TOi1 D.TOi2 hTO⟩) a3 a4 a5 a6 fun c o c1 _ c3 c4 e => a7 c o c1 c3 c4 e
    obtain ⟨o1, g1, _⟩ := a3
    obtain ⟨o2, g2, _⟩ := a4
    by_cases e1 : T = z
    · exact ⟨_, a1, by rw [e1]; exact e1 ▸ a1⟩
    · by_cases e2 : T = i1
      · exact ⟨_, a1, e2 ▸ g1⟩
      · by_cases e3 : T = i2
        · exact ⟨_, a1, e3 ▸ g2⟩
        · exact ⟨_, a1, a7 T oT e1 e2 e3 hT⟩
theorem pyNext_zst_end {prog : Program} {w : World} {A : Around} {E : Value → Shared → Prop} {s : Shared} {z TI TO i1 i2 l1 l2 : Addr} {k1 k2 : Nat} {xs ys : Array Value} {Q : Option Value → Shared → Prop} (hh : A.handled = none) (D : ZipApart z TI TO i1 i2 l1 l2)
    (hz : ZipSt s.heap z TI TO) (hTI : IsPair s.heap TI (.ref i1) (.ref i2))
    (h1 : s.heap.IsListIter i1 l1 k1) (h2 : s.heap.IsListIter i2 l2 k2) (hl1 : s.heap.IsList l1 xs) (hl2 : s.heap.IsList l2 ys) (hend : xs[k1]? = none ∨ ys[k2]? = none)
    (hQ : ∀ h', (∀ c o, c ≠ z → c ≠ TO → c ≠ i1 → c ≠ i2 → s.heap.get? c = some o → h'.get? c = some o) → Q none { s with heap := h' }) : wpAny (model prog w) A (pyNext (.ref z)) Q E s := by
  rcases hz with ⟨hz, a, b, hTO⟩ | ⟨⟨T, f, oT, hz, hT⟩, _⟩
  · exact wpAny_pyNext_zip_end hh D hz hTI hTO h1 h2 hl1 hl2 hend hQ
  · exact wpAny_pyNext_zip_end_held hh D hz hT hTI h1 h2 hl1 hl2 hend fun h' k => hQ h' fun c o c1 _ c3 c4 e => k c o c1 c3 c4 e
theorem Heap.get_or {h h' : Heap} {T S : Addr} (k : ∀ b o, b ≠ S → h.get? b = some o → h'.get? b = some o) (hS : ∃ o, h'.get? S = some o) {o : Obj} (e : h.get? T = some o) : ∃ o, h'.get? T = some o := by
  by_cases q : T = S
  · subst q; exact hS
  · exact ⟨o, k T o q e⟩
theorem zl_loop {X : Cx} {A : Around} {pins : List (Addr × Obj)} {σ : L2.St} {R : Result → Shared → Prop} {z TI TO i1 i2 l1 l2 S : Addr} {xs ys : List V} {its its2 : Array Value} {G : Nat → List V → Hp → Prop} {n : Nat}
    (hc : A.handled = none) (D : ZipApart z TI TO i1 i2 l1 l2) (sz : S ≠ z) (sTI : S ≠ TI) (sTO : S ≠ TO) (si1 : S ≠ i1) (si2 : S ≠ i2) (sl1 : S ≠ l1) (sl2 : S ≠ l2) (hn : n = min its.size its2.size) (hnz : n ≤ sizeLine)
    (rx : Vals xs its.toList) (ry : Vals ys its2.toList)
    (step : ∀ i out H T x y, G i out H → H T = none → H S = some (.lst out) → out.length = i → i < n → xs[i]? = some x → ys[i]? = some y → G (i + 1) (out ++ [.ref T]) (upd (upd H T (.tup [x, y])) S (.lst (out ++ [.ref T]))))
    (fin : ∀ out H s, L2.Inv X pins σ H s → out.length = n → G n out H → H S = some (.lst out) → R (.ok (.ret .none)) s) :
    ∀ (k i : Nat) (s : Shared) (H : Hp) (out : List V), n - i = k → i ≤ n → L2.Inv X pins σ H s → (∀ b ∈ [z, TO, i1, i2], FpOk X pins H b) → out.length = i → H S = some (.lst out) → G i out H →
      ZipSt s.heap z TI TO → IsPair s.heap TI (.ref i1) (.ref i2) → s.heap.IsListIter i1 l1 i → s.heap.IsListIter i2 l2 i → s.heap.IsList l1 its → s.heap.IsList l2 its2 →
      codeAny (model X.prog X.w) A (.builtin "list.extend.loop" ⟨[.ref S, .ref z, .none], []⟩) R s := by
  intro k
  induction k with
  | zero =>
    intro i s H out hk hi I hf hlen hS hG hz hTI h1 h2 hl1 hl2
    have ei : i = n := by omega
    refine codeAny_builtin F.entry_extend_loop ?_
    rw [Around.under_plainId F.plain_extend_loop _]
    show wpAny _ A.in1 (pyNext (.ref z) >>= _) _ _ s
    refine wpAny_bind (pyNext_zst_end (A := A.in1) hc D hz hTI h1 h2 hl1 hl2 (by
      subst ei hn
      rcases Nat.le_total its.size its2.size with q | q
      · exact .inl (by rw [Array.getElem?_eq_none]; omega)
      · exact .inr (by rw [Array.getElem?_eq_none]; omega)) fun h' kp => ?_)
    have I1 : L2.Inv X pins σ H { s with heap := h' } := I.turnedL (t' := s.toks) (ch := [z, TO, i1, i2]) (fun c o hb q => kp c o (fun e => hb (by simp [e])) (fun e => hb (by simp [e])) (fun e => hb (by simp [e])) (fun e => hb (by simp [e])) q) hf
    subst ei
    exact wpAny_pure (fin out H _ I1 hlen hG hS)
  | succ k ih =>
    intro i s H out hk hi I hf hlen hS hG hz hTI h1 h2 hl1 hl2
    have hlt : i < n := by omega
    have a1 : i < its.size := by omega
    have a2 : i < its2.size := by omega
    have b1 : i < xs.length := by rw [rx.length, Array.length_toList]; exact a1
    have b2 : i < ys.length := by rw [ry.length, Array.length_toList]; exact a2
    obtain ⟨u, hu, ru⟩ := rx.get (List.getElem?_eq_getElem b1)
    obtain ⟨v, hv, rv⟩ := ry.get (List.getElem?_eq_getElem b2)
    refine codeAny_builtin F.entry_extend_loop ?_
    rw [Around.under_plainId F.plain_extend_loop _]
    show wpAny _ A.in1 (pyNext (.ref z) >>= _) _ _ s
    refine wpAny_bind (pyNext_zst_item D hz hTI h1 h2 hl1 hl2 (x := u) (y := v) (by simpa using hu) (by simpa using hv) fun h' hz' h1' h2' hT hsz kp => ?_)
    have hTn : H s.heap.objs.size = none := I.hok.fresh (Nat.le_refl _)
    have new : ObjOk X.prog X.w (upd H s.heap.objs.size (.tup [xs[i], ys[i]])) h' s.heap.objs.size (.tup [xs[i], ys[i]]) :=
      ⟨by show 2 ≤ sizeLine; decide, [u, v], .cons ru (.cons rv .nil), ⟨_, hT, rfl, _, rfl⟩⟩
    have I1 : L2.Inv X pins σ (upd H s.heap.objs.size (.tup [xs[i], ys[i]])) { s with heap := h' } :=
      I.turnedNew (t' := s.toks) (ch := [z, TO, i1, i2]) (fun c o hb q => kp c o (fun e => hb (by simp [e])) (fun e => hb (by simp [e])) (fun e => hb (by simp [e])) (fun e => hb (by simp [e])) q) hf (Nat.le_refl _) new
    have hSne : S ≠ s.heap.objs.size := fun e => by rw [e, hTn] at hS; cases hS
    have hS1 : upd H s.heap.objs.size (.tup [xs[i], ys[i]]) S = some (.lst out) := by rw [upd_ne hSne]; exact hS
    obtain ⟨_, itS, cS, rS, gS⟩ := I1.hok S _ hS1
    have lS : itS.toArray.size = i := by rw [List.size_toArray, ← rS.length, hlen]
    show wpAny _ A.in1 (updateSeq S (·.push (.ref s.heap.objs.size)) >>= _) _ _ _
    refine wpAny_bind ?_
    have up : ∀ b o, b ≠ S → h'.get? b = some o → (h'.update S (Obj.mapSeq (·.push (.ref s.heap.objs.size)))).get? b = some o := fun b o hb e => (Heap.get?_update_other _ _ (Ne.symm hb)).trans e
    have gS2 := Heap.get?_update_self (Obj.mapSeq (·.push (Value.ref s.heap.objs.size))) gS rfl
    refine wpAny_updateSeq (s := { s with heap := h' }) gS rfl (wpAny_pure ⟨plainId_quiet F.plain_extend_loop _, ?_⟩) (by rw [lS]; omega) (by show (itS.toArray.push _).size ≤ sizeLine + 1; rw [Array.size_push, lS]; omega)
    obtain ⟨c2, e2⟩ : ∃ c2, Obj.mapSeq (fun x => x.push (Value.ref s.heap.objs.size)) { cls := Value.type "list", data := Data.seq itS.toArray cS } = { cls := Value.type "list", data := Data.seq (itS ++ [Value.ref s.heap.objs.size]).toArray c2 } := ⟨_, by simp [Obj.mapSeq]; rfl⟩
    have lo : (out ++ [V.ref s.heap.objs.size]).length = i + 1 := by rw [List.length_append, hlen] <;> rfl
    have I2 : L2.Inv X pins σ (upd (upd H s.heap.objs.size (.tup [xs[i], ys[i]])) S (.lst (out ++ [.ref s.heap.objs.size]))) { s with heap := h'.update S (Obj.mapSeq (·.push (.ref s.heap.objs.size))) } := by
      refine I1.write (x := S) (e := S) (t' := s.toks) (by rw [hS1]; trivial) (.inl rfl) (fun b u hb q => up b u hb q) ⟨_, gS2⟩ ⟨by rw [lo]; omega, itS ++ [Value.ref s.heap.objs.size], c2, rS.append (.cons (show L2.RelV (V.ref s.heap.objs.size) (Value.ref s.heap.objs.size) from rfl) .nil), ?_⟩
      rw [gS2, e2]
    have st := step i out H s.heap.objs.size _ _ hG hTn hS hlen hlt (List.getElem?_eq_getElem b1) (List.getElem?_eq_getElem b2)
    have pz : ∀ {b : Addr} {o : Obj}, b ≠ S → h'.get? b = some o → (h'.update S (Obj.mapSeq (·.push (.ref s.heap.objs.size)))).get? b = some o := fun {b o} hb e => up b o hb e
    have hT2 := kp TI _ D.TIz D.TITO D.TIi1 D.TIi2 hTI
    obtain ⟨o1, e1, c1⟩ := id hl1
    obtain ⟨o2, e2, c2⟩ := id hl2
    refine ih (i + 1) _ _ (out ++ [.ref s.heap.objs.size]) (by omega) hlt I2 (fun b hb => ?_) lo upd_same st ?_ (pz (Ne.symm sTI) hT2) (h1'.at fun o e => pz (Ne.symm si1) e) (h2'.at fun o e => pz (Ne.symm si2) e)
      ⟨o1, pz (Ne.symm sl1) (kp _ _ D.l1z D.l1TO D.l1i1 D.l1i2 e1), c1⟩ ⟨o2, pz (Ne.symm sl2) (kp _ _ D.l2z D.l2TO D.l2i1 D.l2i2 e2), c2⟩
    · obtain ⟨f0, f1⟩ := hf b hb
      have ns : b ≠ S := fun e => by rw [e, hS] at f0; cases f0
      refine ⟨?_, f1⟩
      rw [upd_ne ns]
      have ne : b ≠ s.heap.objs.size := fun e => by
        have e' : b = z ∨ b = TO ∨ b = i1 ∨ b = i2 := by simpa using hb
        have hlt : b < s.heap.objs.size := by
          rcases e' with q | q | q | q
          · rw [q]
            rcases hz with ⟨hz, _⟩ | ⟨⟨_, _, _, hz, _⟩, _⟩ <;> exact Heap.lt_size hz
          · rw [q]
            rcases hz with ⟨_, _, _, hz⟩ | ⟨_, _, hz⟩ <;> exact Heap.lt_size hz
          · rw [q]; obtain ⟨_, e1, _⟩ := h1; exact Heap.lt_size e1
          · rw [q]; obtain ⟨_, e1, _⟩ := h2; exact Heap.lt_size e1
        exact absurd (e ▸ hlt) (Nat.lt_irrefl _)
      rw [upd_ne ne]; exact f0
    · rcases hz' with ⟨q, x, y, q2⟩ | ⟨⟨T, f, oT, q, q2⟩, o3, q3⟩
      · exact .inl ⟨pz (Ne.symm sz) q, x, y, pz (Ne.symm sTO) q2⟩
      · obtain ⟨o, e⟩ := Heap.get_or up ⟨_, gS2⟩ q2
        exact .inr ⟨⟨T, f, o, pz (Ne.symm sz) q, e⟩, o3, pz (Ne.symm sTO) q3⟩
theorem zip_no_len : typeLookup (.type "zip") "__len__" = pure none := am_miss_of_fast (by decide +kernel)
theorem zip_no_hint : typeLookup (.type "zip") "__length_hint__" = pure none := am_miss_of_fast (by decide +kernel)
def tLZ (K : PySem.W.Frag) (ta : TA) : TE := fun σ H Q => ta σ H fun vs H1 => ∃ a b xs ys, vs = [.ref a, .ref b] ∧ SqL K H1 a xs ∧ SqL K H1 b ys ∧ min xs.length ys.length ≤ sizeLine ∧ ∀ S, H1 S = none → ∃ G : Nat → List V → Hp → Prop, G 0 [] (upd H1 S (.lst [])) ∧
  (∀ i out H T x y, G i out H → H T = none → H S = some (.lst out) → out.length = i → i < min xs.length ys.length → xs[i]? = some x → ys[i]? = some y → G (i + 1) (out ++ [.ref T]) (upd (upd H T (.tup [x, y])) S (.lst (out ++ [.ref T])))) ∧
  ∀ out H, out.length = min xs.length ys.length → G (min xs.length ys.length) out H → H S = some (.lst out) → Q (.ref S) H
theorem pe_listZip {X : Cx} {e e2 : Expr} {ta : TA} {p p2 q pos : Pos} (hg : Gl X "list") (hm : X.mg "list" = none) (hg2 : Gl X "zip") (hm2 : X.mg "zip" = none) (hc : X.calm = true) (ha : PA X [e, e2] ta)
    (hs : starEach [e, e2] X.env = (false, eval e X.env) :: starEach [e2] X.env := by rfl) (hpl : ∀ pos, (backTo pos (starEach [e2] X.env)).any (·.1) = false) :
    PE X (.Call (.Name "list" p) [.Call (.Name "zip" p2) [e, e2] [] q] [] pos) (tLZ X.K ta) := by
  refine ⟨fun pins s σ H Q I h => ?_⟩
  refine Call_ (ld_blt I hg hm boot_list ?_)
  refine PyProof.Rows.callWith_type1 (PyProof.Rows.args_cons ?_ rfl) rfl rfl
  refine Call_ (ld_blt I hg2 hm2 PyProof.Rows.boot_zip (PyProof.Rows.callWith_type1 (thn (ha.run q pins s σ H _ I h) fun us s1 ⟨vs, H1, I1, r1, q1⟩ => ?_) hs (hpl q)))
  obtain ⟨a, b, xs, ys, ex, hqx, hqy, hmin, fam⟩ := q1
  subst ex
  cases r1 with
  | cons r rr =>
    cases rr with
    | cons r' rr =>
      cases rr
      cases r
      cases r'
      obtain ⟨its, rv, p1, _⟩ := I1.list hqx
      obtain ⟨its2, rv2, p2, _⟩ := I1.list hqy
      refine call_zip_2 p1.isList p2.isList fun h' hz hTI hTO h1 h2 hsz hk => ?_
      refine PyProof.Rows.args_nil ?_
      have I2 : L2.Inv X pins σ H1 { s1 with heap := h' } := I1.kept (t' := s1.toks) hk
      have al := p1.lt
      have bl := p2.lt
      have D := PySem.W.ktu_apart s1.heap.objs.size a b al bl
      have fresh4 : ∀ c, c ∈ [s1.heap.objs.size + 4, s1.heap.objs.size + 3, s1.heap.objs.size, s1.heap.objs.size + 1] → FpOk X pins H1 c := fun c hcm => by
        have e' : c = s1.heap.objs.size + 4 ∨ c = s1.heap.objs.size + 3 ∨ c = s1.heap.objs.size ∨ c = s1.heap.objs.size + 1 := by simpa using hcm
        have hle : s1.heap.objs.size ≤ c := by
          rcases e' with z | z | z | z
          · rw [z]; exact Nat.le_add_right _ _
          · rw [z]; exact Nat.le_add_right _ _
          · rw [z]; exact Nat.le_refl _
          · rw [z]; exact Nat.le_add_right _ _
        exact I1.fpOk hle (I1.hok.fresh hle)
      have hl1 : h'.IsList a its.toArray := p1.isList.at fun o e => hk a o e
      have hl2 : h'.IsList b its2.toArray := p2.isList.at fun o e => hk b o e
      refine callType_codes (Q₁ := fun obj s₁ => obj = .ref h'.objs.size ∧ s₁ = { s1 with heap := h'.push { cls := .type "list", data := .seq #[] } }) F.called_list (F.typeCall_list_1 _) F.entry_list_init
        (code_list_new (s := { s1 with heap := h' }) _ ⟨rfl, rfl⟩) fun obj s₁ h₁ => ?_
      obtain ⟨rfl, rfl⟩ := h₁
      have hS : (h'.push { cls := .type "list", data := .seq #[] }).get? h'.objs.size = some { cls := .type "list", data := .seq #[] } := Heap.get?_push_size _ rfl
      refine ⟨⟨_, hS, rfl⟩, F.args_list_init_2 _ _, ?_⟩
      generalize eN : s1.heap.objs.size = N at *
      generalize eS : h'.objs.size = S at *
      show wpAny _ X.A.in1.in1 (do let old ← Builtin.List.listItems (.ref S); Builtin.List.listUpdate (.ref S) (fun _ => #[]); letGo old.toList.reverse; Builtin.List.listExtendWith (.ref S) (.ref (N + 4)) .none) _ _ _
      refine wpAny_bind ?_
      unfold Builtin.List.listItems
      refine wpAny_bind (wpAny_seqItems hS rfl (wpAny_pure ?_))
      show wpAny _ X.A.in1.in1 (updateSeq S (fun _ => #[]) >>= fun _ => letGo (#[] : Array Value).toList.reverse >>= fun _ => Builtin.List.listExtendWith (.ref S) (.ref (N + 4)) .none) _ _ _
      refine wpAny_bind (wpAny_updateSeq hS rfl ?_)
      have hS2 := Heap.get?_update_self (Obj.mapSeq (fun _ => (#[] : Array Value))) hS rfl
      refine wpAny_bind (wpAny_letGo ?_)
      unfold Builtin.List.listExtendWith
      have old : ∀ {b : Addr} {o : Obj}, h'.get? b = some o → b ≠ S := fun {b o} e z => by
        have := Heap.lt_size e
        rw [eS, z] at this
        exact absurd this (Nat.lt_irrefl _)
      have up : ∀ (h : Heap) (f : Obj → Obj), (∀ b o, h'.get? b = some o → h.get? b = some o) → ∀ b o, h'.get? b = some o → (h.update S f).get? b = some o := fun h f k b o e =>
        (Heap.get?_update_other _ _ (Ne.symm (old e))).trans (k b o e)
      have k1 : ∀ b o, h'.get? b = some o → (h'.push { cls := .type "list", data := .seq #[] }).get? b = some o := fun b o e => Heap.get?_push_of_some _ e
      have k2 := up _ (Obj.mapSeq (fun _ => (#[] : Array Value))) k1
      have zt : ∀ {h : Heap}, (∀ b o, h'.get? b = some o → h.get? b = some o) → ({ s1 with heap := h } : Shared).TypeIs (.ref (N + 4)) "zip" := fun {h} k => ⟨_, k _ _ hz, rfl⟩
      have nS : S ≠ N + 4 := fun e => old hz e.symm
      refine wpAny_bind (wpAny_typeOf (zt k2) ?_)
      have g1 : Builtin.List.listSameRef (.ref S) (.ref (N + 4)) = false := by simp [Builtin.List.listSameRef, nS]
      have g2 : (Value.type "zip" == Value.type "list") = false := by decide
      have g3 : (Value.type "zip" == Value.type "tuple") = false := by decide
      simp only [g1, g2, g3, Bool.or_false, Bool.false_eq_true, if_false]
      refine wpAny_bind (wpAny_pyIter_zip (s := { s1 with heap := _ }) (k2 _ _ hz) ?_)
      refine wpAny_bind (wpAny_holding ?_)
      unfold Builtin.List.listLengthHint
      refine wpAny_bind (wpAny_specialOf (zt k2) zip_no_len ?_)
      show wpAny _ X.A.in1.in1 (specialOf (Value.ref (N + 4)) (Str.ofString "__length_hint__") >>= _) _ _ _
      refine wpAny_bind (wpAny_specialOf (zt k2) zip_no_hint ?_)
      refine wpAny_pure ?_
      show wpAny _ X.A.in1.in1 (rule "list.extend.makes-room" >>= fun _ => Builtin.List.listTouch (.ref S) >>= fun _ =>
        again (.builtin "list.extend.loop" ⟨[.ref S, .ref (N + 4), .none], []⟩)) _ _ _
      refine wpAny_bind (wpAny_rule ?_)
      refine wpAny_bind ?_
      show wpAny _ X.A.in1.in1 (updateSeq S (·.push .none) >>= fun _ => updateSeq S (·.pop)) _ _ _
      refine wpAny_bind (wpAny_updateSeq hS2 rfl ?_)
      have hS3 := Heap.get?_update_self (Obj.mapSeq (·.push Value.none)) hS2 rfl
      refine wpAny_updateSeq (hz := by seq_fits) hS3 rfl ?_
      have hS4 := Heap.get?_update_self (Obj.mapSeq (·.pop)) hS3 rfl
      have k4 := up _ (Obj.mapSeq (·.pop)) (up _ (Obj.mapSeq (·.push Value.none)) k2)
      refine wpAny_pure ⟨plainId_quiet F.plain_extend_loop _, ?_⟩
      have hSn : H1 S = none := I2.hok.fresh (Nat.le_of_eq eS)
      obtain ⟨G, G0, Gs, Gf⟩ := fam S hSn
      have I3 : L2.Inv X pins σ (upd H1 S (.lst [])) { s1 with heap := (((h'.push { cls := .type "list", data := .seq #[] }).update S (Obj.mapSeq (fun _ => (#[] : Array Value)))).update S (Obj.mapSeq (·.push Value.none))).update S (Obj.mapSeq (·.pop)) } :=
        I2.laid (t' := s1.toks) k4 (Nat.le_of_eq eS) ⟨Nat.zero_le _, [], _, .nil, hS4⟩
      have e1 := rv.length
      have e2 := rv2.length
      refine zl_loop (A := X.A.in1) (G := G) (n := min xs.length ys.length) (R := _) (show X.A.in1.handled = none from I.ok.hd hc) D nS (fun e => old hTI e.symm) (fun e => old hTO e.symm) (fun e => ?_) (fun e => ?_) (fun e => ?_) (fun e => ?_) (by rw [e1, e2]; simp) hmin (by simpa using rv) (by simpa using rv2) Gs (fun out H s J lo g hs => ?_)
        _ 0 _ _ [] rfl (Nat.zero_le _) I3 (fun b hb => ?_) rfl upd_same G0 (.inl ⟨k4 _ _ hz, _, _, k4 _ _ hTO⟩) (k4 _ _ hTI) (h1.at fun o e => k4 _ o e) (h2.at fun o e => k4 _ o e) (hl1.at fun o e => k4 _ o e) (hl2.at fun o e => k4 _ o e)
      · obtain ⟨o, q, _⟩ := h1; exact old q e.symm
      · obtain ⟨o, q, _⟩ := h2; exact old q e.symm
      · obtain ⟨o, q, _⟩ := hl1; exact old q e.symm
      · obtain ⟨o, q, _⟩ := hl2; exact old q e.symm
      · exact ⟨rfl, .ref S, H, J, rfl, Gf out H lo g hs⟩
      · obtain ⟨f0, f1⟩ := fresh4 b hb
        have ns : b ≠ S := fun e => by
          have e' : b = N + 4 ∨ b = N + 3 ∨ b = N ∨ b = N + 1 := by simpa using hb
          subst e
          rcases e' with z | z | z | z
          · exact nS z
          · exact old hTO z.symm
          · obtain ⟨o, q, _⟩ := h1; exact old q z.symm
          · obtain ⟨o, q, _⟩ := h2; exact old q z.symm
        exact ⟨by rw [upd_ne ns]; exact f0, f1⟩
end TL

set_option Elab.async false
set_option linter.all false
set_option maxRecDepth 100000
set_option maxHeartbeats 4000000
/-! List comprehensions. -/
namespace TL
open PySem PySem.Spec PyProof.Rows L2

def t00 : Sta := ⟨fun _ => none, fun _ => none, fun _ => False⟩
def B0 : Bnd := ⟨t00, fun _ => noX⟩
theorem ext00 {t : Sta} : Ext t00 t := ⟨fun _ _ h => (by cases h), fun _ h => (show False from h).elim, fun _ _ h => (by cases h)⟩
theorem tk0 {W : Wd} {X : Cx} : Takes X (wX W B0) := fun u s' ⟨a, B, sI, pins, σ, H, cls, d, e, I, nb, up, sky, na, os, ag, w⟩ => by
  obtain ⟨_, _, _, _, _, _, _, _, _, z⟩ := w
  exact z.elim
def tCd (W : Wd) (B : Bnd) (c : Eo) : TT := fun σ H Q => ∃ (env : En) (t : Sta) (Qp : Bool → Mm → Prop), t.H = H ∧ Ext B.t0 t ∧ Good W t ∧ REnv W t env σ ∧ wpCd c (B.ex env) env t.M Qp ∧ ∀ b t', Ext t t' → Good W t' → Qp b t'.M → Q b t'.H
theorem _root_.L2.PTs.imp {X : Cx} {es : List Expr} {t t' : TT} (h : PTs X es t) (i : ∀ σ H Q, t' σ H Q → t σ H Q) : PTs X es t' := ⟨fun pins s σ H Q I q => h.run pins s σ H Q I (i σ H Q q)⟩
section
variable {W : Wd} {k : Nat} {B : Bnd} {X : Cx}
theorem cd_none : PTs X [] (tCd W B .none) := pts_nil.imp fun σ H Q ⟨env, t, Qp, hH, he, g, re, h, l⟩ => by
  subst hH; unfold wpCd at h; exact l true t Ext.refl g h
theorem cd_some {c : Expr} {e : E} (h : PT X c (tB' W B (wpE e))) : PTs X [c] (tCd W B (.some e)) := (pts_one h).imp fun σ H Q ⟨env, t, Qp, hH, he, g, re, h, l⟩ => by
  subst hH; unfold wpCd at h; exact ⟨env, t, Qp, rfl, he, g, re, h, l⟩
theorem wipe_wipe {σ : L2.St} {is : List Nat} : ∀ {js : List Nat}, (∀ j ∈ js, j ∈ is) → wipe (wipe σ js) is = wipe σ is
  | [], _ => rfl
  | j :: js, h => by
    show wipe ((wipe σ js).set j none) is = wipe σ is
    rw [wipe_set (h j List.mem_cons_self)]
    exact wipe_wipe fun i hi => h i (List.mem_cons_of_mem _ hi)
/-- a thing of which nothing is told, changed -/
theorem Fst.hidAt {t : Sta} {a : Addr} {o : HO} (nf : ¬ t.F a) : Fst t (t.hid a o) := fun b f => ⟨f, fun u h => by
  show upd t.H a o b = some u
  rw [upd_ne (show b ≠ a from fun z => nf (by rw [← z]; exact f))]; exact h⟩
theorem Good.hidAt {t : Sta} {a : Addr} {o : HO} (g : Good W t) (nf : ¬ t.F a) (nm : t.M a = none) : Good W (t.hid a o) where
  at_ := fun b p h => (g.at_ b p h).ext (Fst.hidAt nf) fun u q => by
    have ne : b ≠ a := fun z => by subst z; rw [nm] at h; cases h
    show upd t.H a o b = some u
    rw [upd_ne ne]; exact q
  fr := fun b f => by
    have ne : b ≠ a := fun z => nf (by rw [← z]; exact f)
    obtain ⟨h1, u, h2⟩ := g.fr b f
    exact ⟨h1, u, by show upd t.H a o b = some u; rw [upd_ne ne]; exact h2⟩
theorem Ext.hidAt {t1 t : Sta} {a : Addr} {o : HO} (e : Ext t1 t) (n : t1.H a = none) : Ext t1 (t.hid a o) where
  keep := fun b u h m => by
    obtain ⟨h1, h2⟩ := e.keep b u h m
    exact ⟨by show upd t.H a o b = some u; rw [upd_ne (ne_new n h)]; exact h1, h2⟩
  grow := fun b f => e.grow b f
  old := fun b u h m f => e.old b u h m f
/-- told at last: finished, or changeable -/
theorem told_fin {t1 t : Sta} {a : Addr} {vs : List V} {acc : List D} (e : Ext t1 t) (g : Good W t) (n : t1.H a = none) (nm : t.M a = none) (ha : t.H a = some (.lst vs)) (hz : vs.length ≤ sizeLine) (r : Reps W t acc vs) :
    Ext t1 ⟨t.H, t.M, fun b => b = a ∨ t.F b⟩ ∧ Good W ⟨t.H, t.M, fun b => b = a ∨ t.F b⟩ ∧ Rep W ⟨t.H, t.M, fun b => b = a ∨ t.F b⟩ (.lst acc) (.ref a) := by
  have f : Fst t ⟨t.H, t.M, fun b => b = a ∨ t.F b⟩ := fun b f => ⟨.inr f, fun _ h => h⟩
  refine ⟨⟨e.keep, fun b f => .inr (e.grow b f), fun b u h m f => ?_⟩, ⟨fun b p h => (g.at_ b p h).ext f fun _ q => q, fun b f => ?_⟩, ?_⟩
  · rcases f with rfl | f
    · rw [n] at h; cases h
    · exact e.old b u h m f
  · rcases f with rfl | f
    · exact ⟨nm, _, ha⟩
    · exact g.fr b f
  · simp only [Rep]
    exact ⟨a, vs, rfl, ⟨.inl rfl, ha⟩, hz, r.ext f⟩
theorem told_put {t1 t : Sta} {a : Addr} {vs : List V} {acc : List D} (e : Ext t1 t) (g : Good W t) (n : t1.H a = none) (nm : t.M a = none) (nf : ¬ t.F a) (ha : t.H a = some (.lst vs)) (hz : vs.length ≤ sizeLine) (r : Reps W t acc vs) :
    Ext t1 ⟨t.H, mput t.M a (.lst acc), t.F⟩ ∧ Good W ⟨t.H, mput t.M a (.lst acc), t.F⟩ := by
  have f : Fst t ⟨t.H, mput t.M a (.lst acc), t.F⟩ := fun b f => ⟨f, fun _ h => h⟩
  refine ⟨⟨fun b u h m => ?_, e.grow, e.old⟩, ⟨fun b p h => ?_, fun b fb => ?_⟩⟩
  · obtain ⟨h1, h2⟩ := e.keep b u h m
    exact ⟨h1, by show mput t.M a _ b = none; rw [mput_ne (ne_new n h)]; exact h2⟩
  · by_cases q : b = a
    · subst q
      have h' : mput t.M b (.lst acc) b = some p := h
      rw [mput_same] at h'; cases h'
      exact ⟨vs, ha, hz, r.ext f⟩
    · have h' : mput t.M a (.lst acc) b = some p := h
      rw [mput_ne q] at h'
      exact (g.at_ b p h').ext f fun _ q => q
  · have ne : b ≠ a := fun z => nf (by rw [← z]; exact fb)
    obtain ⟨h1, h2⟩ := g.fr b fb
    exact ⟨by show mput t.M a _ b = none; rw [mput_ne ne]; exact h1, h2⟩
theorem drop_cons {α : Type} {xs : List α} {i : Nat} {x : α} (h : xs[i]? = some x) : xs.drop i = x :: xs.drop (i + 1) := by
  obtain ⟨hi, e⟩ := List.getElem?_eq_some_iff.mp h
  rw [List.drop_eq_getElem_cons hi, e]
def cStep (env : En) (tg : Tg) (cond : Eo) (elt : E) : D → List D → Mm → (List D → Mm → Prop) → Prop := fun d acc M k => putT tg d (wipeE env tg.slots) M fun env1 => wpCd cond noX env1 M fun r M2 => if r = true then wpE elt noX env1 M2 fun y M3 => k (acc ++ [y]) M3 else k acc M2
theorem comp_imp {fz : Bool} {tg : Tg} {it : It} {cond : Eo} {elt : E} {vs : List Nat} (hv : vs = tg.slots) {σ : L2.St} {H : Hp} {Q : VK} (h : tE W B (wpE (.comp fz tg it cond elt)) σ H Q) :
    tLc (tI W B (wpIt it)) (gT W tg) (tCd W B0 cond) (tE W B0 (wpE elt)) vs σ H Q := by
  subst hv
  obtain ⟨env, t, Qp, rfl, he, g, re, h, l⟩ := h
  unfold wpE at h
  refine ⟨env, t, _, rfl, he, g, re, h, fun src t1 J e1 g1 ⟨hlen, h1⟩ wk zD hD => ?_⟩
  have h1 : compGo (cStep env tg cond elt) src.g src.xs [] t1.M fun acc M2 => newL fz acc M2 Qp := h1
  have r1 := re.ext (e1.fst g)
  let Inv' : Nat → Hp → Prop := fun i H => ∃ (acc : List D) (vs : List V) (t2 : Sta), t2.H = H ∧ Ext t1 t2 ∧ Good W t2 ∧ t2.H zD = some (.lst vs) ∧ t2.M zD = none ∧ ¬ t2.F zD ∧ vs.length ≤ i ∧ Reps W t2 acc vs ∧
    compGo (cStep env tg cond elt) src.g (src.xs.drop i) acc t2.M fun acc M2 => newL fz acc M2 Qp
  refine ⟨fun i m H => m = src.xs.length - i ∧ i ≤ src.xs.length ∧ Inv' i H, ⟨src.xs.length, by simp, Nat.zero_le _, [], [], t1.hid zD (.lst []), rfl, Ext.refl.hidAt hD, g1.hidAt (g1.notF hD) (g1.fresh hD), upd_same, g1.fresh hD, g1.notF hD, Nat.le_refl _, Reps.nil, h1⟩, ?_⟩
  rintro i m H ⟨rfl, hi, acc, vs, t2, rfl, e2, g2, hd2, hm2, hf2, hl2, rp2, h2⟩
  by_cases hlt : i < src.xs.length
  · obtain ⟨d, hd⟩ : ∃ d, src.xs[i]? = some d := ⟨src.xs[i], by simp [hlt]⟩
    rw [drop_cons hd] at h2
    obtain ⟨hg, h2⟩ := h2
    refine .inr ⟨wk.goes i t2 d e2 g2 hg hd, Inv' (i + 1), fun H' p' => ⟨src.xs.length - (i + 1), by omega, rfl, hlt, p'⟩, fun x H' y => ?_⟩
    obtain ⟨t3, rfl, e3, em3, g3, rd3⟩ := wk.yields i t2 x H' d e2 g2 hg hd y
    have r3 : REnv W t3 (wipeE env tg.slots) (wipe σ tg.slots) := ((r1.ext (e2.fst g1)).ext (e3.fst g2)).wipe _
    unfold cStep at h2
    rw [← em3] at h2
    obtain ⟨k3, m3⟩ := e3.keep zD _ hd2 hm2
    have f3 : ¬ t3.F zD := fun z => hf2 (e3.old zD _ hd2 hm2 z)
    refine ⟨d, wipeE env tg.slots, t3, _, rfl, g3, r3, rd3, h2, fun env' σ' re' so hq => ?_⟩
    refine ⟨(so tg.slots fun _ z => z).trans (wipe_wipe fun _ z => z), env', t3, _, rfl, ext00, g3, re', hq, fun b t4 e4 g4 h4 => ?_⟩
    obtain ⟨k4, m4⟩ := e4.keep zD _ k3 m3
    have f4 : ¬ t4.F zD := fun z => f3 (e4.old zD _ k3 m3 z)
    have rp4 : Reps W t4 acc vs := (rp2.ext (e3.fst g2)).ext (e4.fst g3)
    cases b with
    | true =>
      rw [if_pos rfl] at h4 ⊢
      refine tE_bind rfl ext00 g4 (re'.ext (e4.fst g3)) h4 fun dy v t5 e5 _ g5 _ rd5 h5 => ?_
      obtain ⟨k5, m5⟩ := e5.keep zD _ k4 m4
      have f5 : ¬ t5.F zD := fun z => f4 (e5.old zD _ k4 m4 z)
      refine ⟨vs, k5, by omega, acc ++ [dy], vs ++ [v], t5.hid zD (.lst (vs ++ [v])), rfl, (((e2.trans e3).trans e4).trans e5).hidAt hD, g5.hidAt f5 m5, upd_same, m5, f5, by rw [List.length_append]; simp; omega, ?_, h5⟩
      exact ((rp4.ext (e5.fst g4)).append (Reps.one rd5)).ext (Fst.hidAt f5)
    | false =>
      rw [if_neg Bool.false_ne_true] at h4 ⊢
      exact ⟨acc, vs, t4, rfl, (e2.trans e3).trans e4, g4, k4, m4, f4, by omega, rp4, h4⟩
  · have ei : i = src.xs.length := by omega
    subst ei
    rw [List.drop_length] at h2
    obtain ⟨hg, h2⟩ := h2
    refine .inl ⟨wk.stops t2 e2 g2 hg, ?_⟩
    have hz : vs.length ≤ sizeLine := by omega
    have h2 : newL fz acc t2.M Qp := h2
    unfold newL at h2
    cases fz with
    | true =>
      rw [if_pos rfl] at h2
      obtain ⟨z1, z2, z3⟩ := told_fin e2 g2 hD hm2 hd2 hz rp2
      exact l (.lst acc) (.ref zD) ⟨t2.H, t2.M, fun b => b = zD ∨ t2.F b⟩ (e1.trans z1) z2 z3 h2
    | false =>
      rw [if_neg Bool.false_ne_true] at h2
      obtain ⟨z1, z2⟩ := told_put e2 g2 hD hm2 hf2 hd2 hz rp2
      exact l (.ref zD) (.ref zD) ⟨t2.H, mput t2.M zD (.lst acc), t2.F⟩ (e1.trans z1) z2 Rep.ref (h2 zD hm2)
end
end TL

set_option Elab.async false
set_option linter.all false
set_option maxRecDepth 100000
set_option maxHeartbeats 4000000
/-! list(zip(a, b)); an own ==. -/
namespace TL
open PySem PySem.Spec PyProof.Rows L2
section
variable {W : Wd} {k j : Nat} {B : Bnd} {X : Cx} {a b : Expr} {pos p : Pos} {pw pw2 : Wp}
theorem zipD_take {xs ys : List D} {i : Nat} {x y : D} (hx : xs[i]? = some x) (hy : ys[i]? = some y) : (zipD xs ys).take (i + 1) = (zipD xs ys).take i ++ [.tup [x, y]] := by
  have hl : i < (zipD xs ys).length := by
    rw [zipD_length]
    have := (List.getElem?_eq_some_iff.mp hx).1
    have := (List.getElem?_eq_some_iff.mp hy).1
    omega
  rw [List.take_add_one]
  have e := List.getElem?_eq_getElem hl
  obtain ⟨x', y', h1, h2, h3⟩ := zipD_get e
  rw [hx] at h1; rw [hy] at h2
  cases h1; cases h2
  rw [e, h3]; rfl
theorem e_lz {fz : Bool} {p2 q : Pos} (c : COk W k X) (hg : Gl X "list") (hm : W.mg "list" = none) (hg2 : Gl X "zip") (hm2 : W.mg "zip" = none) (hn : nost a = true) (hn2 : nost b = true) (ha : PE X a (tE W B pw)) (hb : PE X b (tE W B pw2)) :
    PE X (.Call (.Name "list" p) [.Call (.Name "zip" p2) [a, b] [] q] [] pos) (tE W B fun x env M Q => pw x env M fun u M1 => pw2 x env M1 fun v M2 => someK (lstOf M2 u) fun xs => someK (lstOf M2 v) fun ys => (zipD xs ys).length ≤ sizeLine ∧ newL fz (zipD xs ys) M2 Q) := by
  rw [← c.mg] at hm hm2
  refine (pe_listZip hg hm hg2 hm2 c.calm (pa_cons ha (pa_cons hb pa_nil (star_cons hn2)) (star_cons hn)) (star_cons hn) (fun pos => star_any (by simp [hn2]))).imp fun σ H Q ⟨env, t, Qp, hH, he, g, re, h, l⟩ => ?_
  subst hH
  refine tE_bind rfl he g re h fun d v t1 e1 he1 g1 r1 rd h1 => tE_bind rfl he1 g1 r1 h1 fun d2 v2 t2 e2 he2 g2 r2 rd2 h2 => ?_
  obtain ⟨xs, ex, h2⟩ := someK_inv h2
  obtain ⟨ys, ey, hz, h2⟩ := someK_inv h2
  have rd' := rd.ext (e2.fst g1)
  obtain ⟨q1, vs, rfl, b1, b2, b3⟩ := lstOf_at g2 rd' ex
  obtain ⟨q2, us, rfl, c1, c2, c3⟩ := lstOf_at g2 rd2 ey
  have l1 := b3.length
  have l2 := c3.length
  rw [zipD_length] at hz
  rw [c.K]
  refine ⟨q1, q2, vs, us, rfl, b1, c1, by rw [l1, l2]; exact hz, fun S hS => ?_⟩
  have mS := g2.fresh hS
  refine ⟨fun i out H => ∃ t3, t3.H = H ∧ Ext t2 t3 ∧ Good W t3 ∧ t3.M = t2.M ∧ ¬ t3.F S ∧ Reps W t3 ((zipD xs ys).take i) out,
    ⟨t2.hid S (.lst []), rfl, Ext.refl.hidAt hS, g2.hidAt (g2.notF hS) mS, rfl, g2.notF hS, by rw [List.take_zero]; exact Reps.nil⟩, ?_, ?_⟩
  · rintro i out H T x y ⟨t3, rfl, e3, g3, m3, f3, r3⟩ hT hS3 lo hi hx hy
    obtain ⟨dx, hdx, rx⟩ := b3.get' hx
    obtain ⟨dy, hdy, ry⟩ := c3.get' hy
    obtain ⟨t4, h4, e4, m4, g4, rd4⟩ := pair_new g3 hT (rx.ext (e3.fst g2)) (ry.ext (e3.fst g2))
    have mS3 : t3.M S = none := by rw [m3]; exact mS
    have mS4 : t4.M S = none := by rw [m4]; exact mS3
    have f4 : ¬ t4.F S := fun z => f3 (e4.old S _ hS3 mS3 z)
    refine ⟨t4.hid S (.lst (out ++ [.ref T])), by show upd t4.H S _ = _; rw [h4], (e3.trans e4).hidAt hS, g4.hidAt f4 mS4, by show t4.M = _; rw [m4, m3], f4, ?_⟩
    rw [zipD_take hdx hdy]
    exact ((r3.ext (e4.fst g3)).append (Reps.one rd4)).ext (Fst.hidAt f4)
  · rintro out H lo ⟨t3, rfl, e3, g3, m3, f3, r3⟩ hS3
    have hl : (zipD xs ys).length ≤ min vs.length us.length := by rw [zipD_length, l1, l2]; exact Nat.le_refl _
    rw [List.take_of_length_le hl] at r3
    have mS3 : t3.M S = none := by rw [m3]; exact mS
    have hzo : out.length ≤ sizeLine := by rw [lo, l1, l2]; exact hz
    unfold newL at h2
    rw [← m3] at h2
    cases fz with
    | true =>
      rw [if_pos rfl] at h2
      obtain ⟨z1, z2, z3⟩ := told_fin e3 g3 hS mS3 hS3 hzo r3
      exact l (.lst _) (.ref S) ⟨t3.H, t3.M, fun b => b = S ∨ t3.F b⟩ ((e1.trans e2).trans z1) z2 z3 h2
    | false =>
      rw [if_neg Bool.false_ne_true] at h2
      obtain ⟨z1, z2⟩ := told_put e3 g3 hS mS3 f3 hS3 hzo r3
      exact l (.ref S) (.ref S) ⟨t3.H, mput t3.M S (.lst _), t3.F⟩ ((e1.trans e2).trans z1) z2 Rep.ref (h2 S mS3)

/-- the class's own == -/
structure UeqOk (W : Wd) (k : Nat) (C : Str) (ct : Contract) : Prop where
  ex : ∃ (A f : Addr) (fd : FuncData) (ps : List Str), W.mg C = some (.ref A) ∧ Cls W.K A ∧ Meth W.K A "__eq__" f ∧ PySem.W.notFirst W.K A (.type "tuple") = true ∧ FnG W k f fd ps ct ∧ Binds W.K fd ps []
theorem op_ueq {C : Str} {ct : Contract} (c : COk W k X) (o : UeqOk W k C ct) : OpR X (compareOp .Eq) (l2 W fun u v M Q => insK M u C fun _ _ => ueqOk M v C ∧ ct [u, v] M noX fun d M' => d.asB fun r => Q (.bl r) M') := by
  intro pins s σ H x y v u Q I rx ry ⟨dx, dy, t, Qp, hH, g, r1, r2, q, l⟩
  subst hH
  obtain ⟨A, f, fd, ps, o1, o2, o3, o4, F, hb⟩ := o.ex
  obtain ⟨p, fs, rfl, em, hu, hq⟩ := insK_inv q
  have := repR r1; subst this
  cases rx
  obtain ⟨dx, vs, h1, h2, h3⟩ := ins_at g em o1
  obtain ⟨mA, J, _⟩ := ins_get I.hok h1
  obtain ⟨od, J, _⟩ := J.look
  obtain ⟨m, hF⟩ := I.fr
  have kk := c.K
  have looks : ∃ tb, PySem.W.Looks (model X.prog X.w) s.heap (typeOf u) tb ∧ PySem.W.notFirst X.K A tb = true := by
    unfold ueqOk at hu
    split at hu
    · obtain ⟨a, ws, rfl, b1, _⟩ := tupAt r2
      cases ry
      rw [← kk] at b1
      obtain ⟨its, rv, p, hz⟩ := I.tuple b1
      obtain ⟨ob, ho, hc, _⟩ := (show s.heap.IsTuple a its.toArray from p)
      exact ⟨.type "tuple", fun A Q E s k q => wpAny_typeOf_ref (k _ _ ho) (by rw [hc]; exact q), by rw [kk]; exact o4⟩
    · split at hu
      · rename_i em2
        subst hu
        have := repR r2; subst this
        cases ry
        obtain ⟨dx2, vs2, k1, k2, k3⟩ := ins_at g em2 o1
        obtain ⟨mA2, J2, _⟩ := ins_get I.hok k1
        obtain ⟨od2, J2, _⟩ := J2.look
        exact ⟨.ref A, J2.type, by simp [PySem.W.notFirst]⟩
      · exact hu.elim
    · exact hu.elim
  obtain ⟨tb, hlk, hnf⟩ := looks
  show wpAny (model X.prog X.w) X.A (richCompare .Eq (.ref p) u) (EP X pins σ Q) X.xe s
  refine PySem.W.cmp_K (op := .Eq) (tb := tb) c.room.units0 hF I.ok.mod.kin J hlk hnf (by rw [kk]; exact o3.at_) (by rw [kk]; exact o3.fn) ?_
  have hl := F.len _ _ _ _ hq
  have bd : BindsTo s fd ⟨[.ref p, u], []⟩ (ps.zip [.ref p, u]) := by
    have := hb s [.ref p, u] (by rw [← kk]; exact I.kIn) (by simpa using hl)
    simpa using this
  refine wpAny_call (codeAny_mono (run_gn (A := X.A) (Qp := fun d M' => d.asB fun r => Qp (.bl r) M') (Q := fun v H' => ∃ r, v = .bl r ∧ Q (.bl r) H') c F c.room c.gd I.env0.frames I bd (.cons (show L2.RelV (V.ref p) (Value.ref p) from rfl) (.cons ry .nil)) g (Reps.cons r1 (Reps.one r2)) hq (fun d v t' e' g' rd h' => ?_)) fun r s' z => ?_)
  · obtain ⟨r, rfl, h'⟩ := D.asB_inv h'
    have := repB rd; subst this
    exact ⟨r, rfl, l _ _ t' e' g' rd h'⟩
  · cases r with
    | error e => exact z.elim
    | ok fl =>
      cases fl with
      | ret w =>
        obtain ⟨v, H', I', rz, r, ev, q⟩ := z
        subst ev
        cases rz
        exact ⟨.bl r, H', I', rfl, q⟩
      | next => exact z.elim
      | brk => exact z.elim
      | cont => exact z.elim
def wUeq (C : Str) (ct : Contract) (p q : Wp) : Wp := fun x env M Q => p x env M fun u M1 => q x env M1 fun v M2 => insK M2 u C fun _ _ => ueqOk M2 v C ∧ ct [u, v] M2 noX fun d M' => d.asB fun r => Q (.bl r) M'
theorem e_ueq {C : Str} {ct : Contract} (c : COk W k X) (o : UeqOk W k C ct) (ha : PE X a (tE W B pw)) (hb : PE X b (tE W B pw2)) (hm : behindInMarks .Eq b = false) : PE X (.Compare a [.Eq] [b] pos) (tE W B (wUeq C ct pw pw2)) := e_two (pe_cmpR (op_ueq c o) ha hb hm)
theorem t_ueq {C : Str} {ct : Contract} (c : COk W k X) (o : UeqOk W k C ct) (ha : PE X a (tE W B pw)) (hb : PE X b (tE W B pw2)) (hm : behindInMarks .Eq b = false) : PT X (.Compare a [.Eq] [b] pos) (tB' W B (wUeq C ct pw pw2)) := t_test (pt_cmpR (op_ueq c o) ha hb hm) fun _ _ _ h => tE_two h
end
end TL

set_option Elab.async false
set_option linter.all false
set_option maxRecDepth 100000
set_option maxHeartbeats 4000000
/-! The check of a text against the small language: expressions. -/
namespace TL
open PySem PySem.Spec PyProof.Rows L2

structure Sit where
  N : List Str
  sc : Scope
  fn : Str → Bool
structure SitOk (S : Sit) (X : Cx) : Prop where
  N : X.N = S.N
  sc : X.env.scope = S.sc
  fn : X.fn = S.fn
def visB (sc : Scope) (x : Str) : Bool := match sc.names.lookup x with
  | some .local => true
  | some .cell => true
  | some .free => true
  | _ => false
theorem visB_ok {sc : Scope} {x : Str} (h : visB sc x = true) : Vis sc x := by
  unfold visB at h
  split at h
  · exact .inl (by assumption)
  · exact .inr (.inl (by assumption))
  · exact .inr (.inr (by assumption))
  · cases h
def glB (sc : Scope) (x : Str) : Bool := decide (sc.names.lookup x = some .globalImplicit)
def Sit.blk (S : Sit) (scope : Scope) : Sit := ⟨S.N, relS scope S.sc, fun x => scope.names.lookup x == some .cell⟩

inductive Need where
  | free (x : Str)
  | glob (x : Str) (d : D)
  | fn (x : Str) (c : Contract)
  | fnk (x : Str) (c : Contract) (n : Nat) (ks : List Str) (pm : List Nat)
  | mk (C : Str) (c : Contract)
  | mkk (C : Str) (c : Contract) (n : Nat) (ks : List Str) (pm : List Nat)
  | fld (C f : Str)
  | mth (C m : Str) (c : Contract)
  | prp (C f : Str) (c : Contract)
  | ueq (C : Str) (c : Contract)
  | isi (T : Str) (cs : List Str)
def NeedOk (W : Wd) (k : Nat) : Need → Prop
  | .free x => W.mg x = none
  | .glob x d => ∃ v u, W.mg x = some u ∧ RelV v u ∧ ∀ t, Rep W t d v
  | .fn x c => ∃ f fd ps, FnG W k f fd ps c ∧ W.mg x = some (.ref f) ∧ PySem.W.keepIn W.K (.ref f) = true ∧ Binds W.K fd ps []
  | .fnk x c n ks pm => ∃ f fd ps, FnG W k f fd ps c ∧ W.mg x = some (.ref f) ∧ PySem.W.keepIn W.K (.ref f) = true ∧ KwB W.K fd ps n ks pm
  | .mk C c => MkOk W k C c
  | .mkk C c n ks pm => MkkOk W k C c n ks pm
  | .fld C f => FldOk W C f
  | .mth C m c => MthOk W k C m c
  | .prp C f c => PrpOk W k C f c
  | .ueq C c => UeqOk W k C c
  | .isi T cs => ∃ c u, IsiOk W T cs c u

/-! the shapes -/
def onName (e : Expr) (k : Str → Bool) : Bool := match e with | .Name x _ => k x | _ => false
def onConst (e : Expr) (k : Const → Bool) : Bool := match e with | .Constant c _ _ => k c | _ => false
def onBin (e : Expr) (k : Expr → Operator → Expr → Bool) : Bool := match e with | .BinOp l o r _ => k l o r | _ => false
def onUn (e : Expr) (k : UnaryOp → Expr → Bool) : Bool := match e with | .UnaryOp o r _ => k o r | _ => false
def onCmp (e : Expr) (k : Expr → CmpOp → Expr → Bool) : Bool := match e with | .Compare l [o] [r] _ => k l o r | _ => false
def onCmp2 (e : Expr) (k : Expr → CmpOp → Expr → CmpOp → Expr → Bool) : Bool := match e with | .Compare l [o, p] [m, r] _ => k l o m p r | _ => false
def onBool (e : Expr) (k : BoolOp → List Expr → Bool) : Bool := match e with | .BoolOp o es _ => k o es | _ => false
def onIf (e : Expr) (k : Expr → Expr → Expr → Bool) : Bool := match e with | .IfExp c a b _ => k c a b | _ => false
def onTup (e : Expr) (k : List Expr → Bool) : Bool := match e with | .Tuple es _ _ => k es | _ => false
def onLst (e : Expr) (k : List Expr → Bool) : Bool := match e with | .List es _ => k es | _ => false
def onIx (e : Expr) (k : Expr → Expr → Bool) : Bool := match e with | .Subscript a i _ => k a i | _ => false
def onSl (e : Expr) (k : Expr → Option Expr → Option Expr → Bool) : Bool := match e with | .Subscript a (.Slice lo hi none _) _ => k a lo hi | _ => false
def onRev (e : Expr) (k : Expr → Bool) : Bool := match e with | .Subscript a (.Slice none none (some (.UnaryOp .USub (.Constant (.int 1) _ _) _)) _) _ => k a | _ => false
def onCall (e : Expr) (k : Str → List Expr → List Keyword → Bool) : Bool := match e with | .Call (.Name x _) es ks _ => k x es ks | _ => false
def onMeth (e : Expr) (k : Expr → Str → List Expr → Bool) : Bool := match e with | .Call (.Attribute o m apos) es [] pos => (apos.endLine == pos.line) && k o m es | _ => false
def onAttr (e : Expr) (k : Expr → Str → Bool) : Bool := match e with | .Attribute o f _ => k o f | _ => false
def onComp (e : Expr) (k : Expr → Expr → Expr → List Expr → Scope → Bool) : Bool := match e with | .ListComp x [⟨tg, iter, ifs, 0⟩] sc _ => k x tg iter ifs sc | _ => false
def onDict0 (e : Expr) : Bool := match e with | .Dict [] [] _ => true | _ => false
def on1 {α : Type} (l : List α) (k : α → Bool) : Bool := match l with | [x] => k x | _ => false
def on2 {α : Type} (l : List α) (k : α → α → Bool) : Bool := match l with | [x, y] => k x y | _ => false
def onCons {α : Type} (l : List α) (k : α → List α → Bool) : Bool := match l with | x :: r => k x r | _ => false
def onNil {α : Type} (l : List α) : Bool := match l with | [] => true | _ => false
def onSome {α : Type} (l : Option α) (k : α → Bool) : Bool := match l with | some x => k x | _ => false
def onNone {α : Type} (l : Option α) : Bool := match l with | none => true | _ => false
def onStar (e : Expr) (k : Expr → Bool) : Bool := match e with | .Starred x _ => k x | _ => false
def onKw (e : Keyword) (k : Option Str → Expr → Bool) : Bool := k e.arg e.value
section
variable {e : Expr}
theorem onName_inv {k} (h : onName e k = true) : ∃ x p, e = .Name x p ∧ k x = true := by unfold onName at h; split at h; exact ⟨_, _, rfl, h⟩; cases h
theorem onConst_inv {k} (h : onConst e k = true) : ∃ c j p, e = .Constant c j p ∧ k c = true := by unfold onConst at h; split at h; exact ⟨_, _, _, rfl, h⟩; cases h
theorem onBin_inv {k} (h : onBin e k = true) : ∃ l o r p, e = .BinOp l o r p ∧ k l o r = true := by unfold onBin at h; split at h; exact ⟨_, _, _, _, rfl, h⟩; cases h
theorem onUn_inv {k} (h : onUn e k = true) : ∃ o r p, e = .UnaryOp o r p ∧ k o r = true := by unfold onUn at h; split at h; exact ⟨_, _, _, rfl, h⟩; cases h
theorem onCmp_inv {k} (h : onCmp e k = true) : ∃ l o r p, e = .Compare l [o] [r] p ∧ k l o r = true := by unfold onCmp at h; split at h; exact ⟨_, _, _, _, rfl, h⟩; cases h
theorem onCmp2_inv {k} (h : onCmp2 e k = true) : ∃ l o m p r q, e = .Compare l [o, p] [m, r] q ∧ k l o m p r = true := by unfold onCmp2 at h; split at h; exact ⟨_, _, _, _, _, _, rfl, h⟩; cases h
theorem onBool_inv {k} (h : onBool e k = true) : ∃ o es p, e = .BoolOp o es p ∧ k o es = true := by unfold onBool at h; split at h; exact ⟨_, _, _, rfl, h⟩; cases h
theorem onIf_inv {k} (h : onIf e k = true) : ∃ c a b p, e = .IfExp c a b p ∧ k c a b = true := by unfold onIf at h; split at h; exact ⟨_, _, _, _, rfl, h⟩; cases h
theorem onTup_inv {k} (h : onTup e k = true) : ∃ es j p, e = .Tuple es j p ∧ k es = true := by unfold onTup at h; split at h; exact ⟨_, _, _, rfl, h⟩; cases h
theorem onLst_inv {k} (h : onLst e k = true) : ∃ es p, e = .List es p ∧ k es = true := by unfold onLst at h; split at h; exact ⟨_, _, rfl, h⟩; cases h
theorem onIx_inv {k} (h : onIx e k = true) : ∃ a i p, e = .Subscript a i p ∧ k a i = true := by unfold onIx at h; split at h; exact ⟨_, _, _, rfl, h⟩; cases h
theorem onSl_inv {k} (h : onSl e k = true) : ∃ a lo hi p q, e = .Subscript a (.Slice lo hi none p) q ∧ k a lo hi = true := by unfold onSl at h; split at h; exact ⟨_, _, _, _, _, rfl, h⟩; cases h
theorem onRev_inv {k} (h : onRev e k = true) : ∃ a j p1 p2 p3 p4, e = .Subscript a (.Slice none none (some (.UnaryOp .USub (.Constant (.int 1) j p1) p2)) p3) p4 ∧ k a = true := by unfold onRev at h; split at h; exact ⟨_, _, _, _, _, _, rfl, h⟩; cases h
theorem onCall_inv {k} (h : onCall e k = true) : ∃ x p es ks q, e = .Call (.Name x p) es ks q ∧ k x es ks = true := by unfold onCall at h; split at h; exact ⟨_, _, _, _, _, rfl, h⟩; cases h
theorem onMeth_inv {k} (h : onMeth e k = true) : ∃ o m apos es q, e = .Call (.Attribute o m apos) es [] q ∧ (apos.endLine == q.line) = true ∧ k o m es = true := by
  unfold onMeth at h; split at h
  · simp only [Bool.and_eq_true] at h; exact ⟨_, _, _, _, _, rfl, h⟩
  · cases h
theorem onAttr_inv {k} (h : onAttr e k = true) : ∃ o f p, e = .Attribute o f p ∧ k o f = true := by unfold onAttr at h; split at h; exact ⟨_, _, _, rfl, h⟩; cases h
theorem onComp_inv {k} (h : onComp e k = true) : ∃ x tg iter ifs sc p, e = .ListComp x [⟨tg, iter, ifs, 0⟩] sc p ∧ k x tg iter ifs sc = true := by unfold onComp at h; split at h; exact ⟨_, _, _, _, _, _, rfl, h⟩; cases h
theorem onDict0_inv (h : onDict0 e = true) : ∃ p, e = .Dict [] [] p := by unfold onDict0 at h; split at h; exact ⟨_, rfl⟩; cases h
theorem onStar_inv {k} (h : onStar e k = true) : ∃ x p, e = .Starred x p ∧ k x = true := by unfold onStar at h; split at h; exact ⟨_, _, rfl, h⟩; cases h
variable {α : Type}
theorem on1_inv {l : List α} {k} (h : on1 l k = true) : ∃ x, l = [x] ∧ k x = true := by unfold on1 at h; split at h; exact ⟨_, rfl, h⟩; cases h
theorem on2_inv {l : List α} {k} (h : on2 l k = true) : ∃ x y, l = [x, y] ∧ k x y = true := by unfold on2 at h; split at h; exact ⟨_, _, rfl, h⟩; cases h
theorem onCons_inv {l : List α} {k} (h : onCons l k = true) : ∃ x r, l = x :: r ∧ k x r = true := by unfold onCons at h; split at h; exact ⟨_, _, rfl, h⟩; cases h
theorem onNil_inv {l : List α} (h : onNil l = true) : l = [] := by unfold onNil at h; split at h; rfl; cases h
theorem onSome_inv {l : Option α} {k} (h : onSome l k = true) : ∃ x, l = some x ∧ k x = true := by unfold onSome at h; split at h; exact ⟨_, rfl, h⟩; cases h
theorem onNone_inv {l : Option α} (h : onNone l = true) : l = none := by unfold onNone at h; split at h; rfl; cases h
end
def okC : D → Const → Bool
  | .int i, .int j => decide (i = j)
  | .bl i, .bool j => decide (i = j)
  | .non, .none => true
  | .str i, .str j => decide (i = j) && decide (i.length ≤ sizeLine)
  | _, _ => false
def okOp (o : Operator) : Bool := match o with | .Add => true | .Sub => true | .Mult => true | .FloorDiv => true | .Mod => true | .Pow => true | .LShift => true | .RShift => true | _ => false
mutual
def tgOwn : Tg → Expr → List (Str × Nat)
  | .nm i, .Name x _ => [(x, i)]
  | .tp ts, .Tuple es _ _ => tgsOwn ts es
  | _, _ => []
def tgsOwn : List Tg → List Expr → List (Str × Nat)
  | t :: ts, e :: es => tgOwn t e ++ tgsOwn ts es
  | _, _ => []
end
mutual
def okE (S : Sit) : E → Expr → Bool
  | .v i, ex => onName ex fun x => decide (S.N[i]? = some x) && visB S.sc x && okName x
  | .c d, ex => onConst ex fun c => okC d c
  | .g x _, ex => onName ex fun y => decide (x = y) && glB S.sc x && okName x
  | .bin o _ a b, ex => onBin ex fun l op r => decide (op = o) && okOp o && okE S a l && okE S b r
  | .neg a, ex => onUn ex fun o r => decide (o = .USub) && okE S a r
  | .not a, ex => onUn ex fun o r => decide (o = .Not) && okE S a r
  | .cmp o a b, ex => onCmp ex fun l op r => decide (op = o) && noSet r && okE S a l && okE S b r
  | .chn o o' a b c, ex => onCmp2 ex fun l op m op' r => decide (op = o) && decide (op' = o') && noSet r && okE S a l && okE S b m && okE S c r
  | .and es, ex => onBool ex fun o xs => decide (o = .And) && okB S es xs
  | .or es, ex => onBool ex fun o xs => decide (o = .Or) && okB S es xs
  | .ite t a b, ex => onIf ex fun c x y => okE S t c && okE S a x && okE S b y
  | .tup es, ex => onTup ex fun xs => okEs S es xs
  | .lst _ es, ex => onLst ex fun xs => okEs S es xs
  | .ix a i, ex => onIx ex fun x y => noSl y && okE S a x && okE S i y
  | .sl _ a lo hi, ex => onSl ex fun x l h => okE S a x && okEo S lo l && okEo S hi h
  | .rev _ a, ex => onRev ex fun x => okE S a x
  | .bi f _ es, ex => onCall ex fun x xs ks => onNil ks && decide (x = f.name) && glB S.sc x && !(onNil xs) && xs.all nost && okEs S es xs
  | .isi a T _, ex => onCall ex fun x xs ks => onNil ks && decide (x = "isinstance") && glB S.sc x && on2 xs fun y z => nost y && okE S a y && onName z fun t => decide (t = T) && glB S.sc T && okName T
  | .call f _ es, ex => onCall ex fun x xs ks => onNil ks && decide (x = f) && glB S.sc x && okName x && xs.all nost && okEs S es xs
  | .callk f _ es ks _, ex => onCall ex fun x xs kws => decide (x = f) && glB S.sc x && okName x && xs.all nost && decide (xs.length = esLen es) && kwN kws (ksNames ks) && okEs S es xs && okKs S ks kws
  | .mk C _ es, ex => onCall ex fun x xs ks => onNil ks && decide (x = C) && glB S.sc x && okName x && xs.all nost && okEs S es xs
  | .mkk C _ es ks _, ex => onCall ex fun x xs kws => decide (x = C) && glB S.sc x && okName x && xs.all nost && decide (xs.length = esLen es) && kwN kws (ksNames ks) && okEs S es xs && okKs S ks kws
  | .fld a _ f, ex => onAttr ex fun o g => decide (g = f) && plainO o && okE S a o
  | .prop a _ f _, ex => onAttr ex fun o g => decide (g = f) && plainO o && okE S a o
  | .meth a _ m _ es, ex => onMeth ex fun o n xs => decide (n = m) && plainO o && xs.all nost && decide (xs.length < 28) && okE S a o && okEs S es xs
  | .bm m _ a es, ex => onMeth ex fun o n xs => decide (n = m.name) && plainO o && xs.all nost && decide (xs.length < 28) && okE S a o && okEs S es xs
  | .comp _ t it cond elt, ex => onComp ex fun x tg iter ifs scope => okIt S it tg iter && noSet iter && okT S.N (relS scope S.sc) (S.blk scope).fn t tg && blkC S.N S.sc scope (tgOwn t tg) && decide ((tgOwn t tg).map (·.2) = t.slots) && okCd (S.blk scope) cond ifs && okE (S.blk scope) elt x
  | .dnew, ex => onDict0 ex
  | .lr1 _ a, ex => onCall ex fun x xs ks => onNil ks && decide (x = "list") && glB S.sc "list" && on1 xs fun z => onCall z fun y ys ls => onNil ls && decide (y = "range") && glB S.sc "range" && on1 ys fun u => nost u && okE S a u
  | .lr2 _ a b, ex => onCall ex fun x xs ks => onNil ks && decide (x = "list") && glB S.sc "list" && on1 xs fun z => onCall z fun y ys ls => onNil ls && decide (y = "range") && glB S.sc "range" && on2 ys fun u v => nost u && nost v && okE S a u && okE S b v
  | .lz _ a b, ex => onCall ex fun x xs ks => onNil ks && decide (x = "list") && glB S.sc "list" && on1 xs fun z => onCall z fun y ys ls => onNil ls && decide (y = "zip") && glB S.sc "zip" && on2 ys fun u v => nost u && nost v && okE S a u && okE S b v
  | .ueq _ _ a b, ex => onCmp ex fun l op r => decide (op = .Eq) && noSet r && okE S a l && okE S b r
  | .skabs _ a, ex => onCall ex fun x xs kws => decide (x = "sorted") && glB S.sc "sorted" && glB S.sc "abs" && (on1 xs fun z => nost z && okE S a z) && on1 kws fun kw => decide (kw.arg = some "key") && onName kw.value fun t => decide (t = "abs")
  | .lenset a, ex => onCall ex fun x xs ks => onNil ks && decide (x = "len") && glB S.sc "len" && on1 xs fun z => onCall z fun y ys ls => onNil ls && decide (y = "set") && glB S.sc "set" && on1 ys fun u => nost u && okE S a u
def okEs (S : Sit) : Es → List Expr → Bool
  | .nil, xs => onNil xs
  | .cons e r, xs => onCons xs fun x ys => nost x && okE S e x && okEs S r ys
  | .star e r, xs => onCons xs fun x ys => onStar x fun z => okE S e z && okEs S r ys
/-- the parts of an and, an or -/
def okB (S : Sit) : Es → List Expr → Bool
  | .nil, _ => false
  | .star _ _, _ => false
  | .cons e r, xs => onCons xs fun x ys => okE S e x && (if esNil r then onNil ys else okB S r ys)
def okKs (S : Sit) : Ks → List Keyword → Bool
  | .nil, xs => onNil xs
  | .cons _ e r, xs => onCons xs fun x ys => okE S e x.value && okKs S r ys
def okEo (S : Sit) : Eo → Option Expr → Bool
  | .none, x => onNone x
  | .some e, x => onSome x fun y => okE S e y
def okCd (S : Sit) : Eo → List Expr → Bool
  | .none, x => onNil x
  | .some e, x => on1 x fun y => okE S e y
def okIt (S : Sit) : It → Expr → Expr → Bool
  | .seq e, _, ex => okE S e ex
  | .rng1 a, _, ex => onCall ex fun x xs ks => onNil ks && decide (x = "range") && glB S.sc "range" && on1 xs fun u => nost u && okE S a u
  | .rng2 a b, _, ex => onCall ex fun x xs ks => onNil ks && decide (x = "range") && glB S.sc "range" && on2 xs fun u v => nost u && nost v && okE S a u && okE S b v
  | .enum a, tg, ex => onTup tg fun _ => onCall ex fun x xs ks => onNil ks && decide (x = "enumerate") && glB S.sc "enumerate" && on1 xs fun u => nost u && okE S a u
  | .zip a b, tg, ex => onTup tg fun _ => onCall ex fun x xs ks => onNil ks && decide (x = "zip") && glB S.sc "zip" && on2 xs fun u v => nost u && nost v && okE S a u && okE S b v
end
mutual
def needE : E → List Need
  | .v _ => []
  | .c _ => []
  | .g x d => [.glob x d]
  | .bin _ _ a b => needE a ++ needE b
  | .neg a => needE a
  | .not a => needE a
  | .cmp _ a b => needE a ++ needE b
  | .chn _ _ a b c => needE a ++ (needE b ++ needE c)
  | .and es => needEs es
  | .or es => needEs es
  | .ite t a b => needE t ++ (needE a ++ needE b)
  | .tup es => needEs es
  | .lst _ es => needEs es
  | .ix a i => needE a ++ needE i
  | .sl _ a lo hi => needE a ++ (needEo lo ++ needEo hi)
  | .rev _ a => needE a
  | .bi f _ es => .free f.name :: needEs es
  | .isi a T cs => .free "isinstance" :: .isi T cs :: needE a
  | .call f c es => .fn f c :: needEs es
  | .callk f c es ks pm => .fnk f c (esLen es) (ksNames ks) pm :: (needEs es ++ needKs ks)
  | .mk C c es => .mk C c :: needEs es
  | .mkk C c es ks pm => .mkk C c (esLen es) (ksNames ks) pm :: (needEs es ++ needKs ks)
  | .fld a C f => .fld C f :: needE a
  | .prop a C f c => .prp C f c :: needE a
  | .meth a C m c es => .mth C m c :: (needE a ++ needEs es)
  | .bm _ _ a es => needE a ++ needEs es
  | .comp _ _ it cond elt => needIt it ++ (needEo cond ++ needE elt)
  | .dnew => []
  | .lr1 _ a => .free "list" :: .free "range" :: needE a
  | .lr2 _ a b => .free "list" :: .free "range" :: (needE a ++ needE b)
  | .lz _ a b => .free "list" :: .free "zip" :: (needE a ++ needE b)
  | .ueq C c a b => .ueq C c :: (needE a ++ needE b)
  | .skabs _ a => .free "sorted" :: .free "abs" :: needE a
  | .lenset a => .free "len" :: .free "set" :: needE a
def needEs : Es → List Need
  | .nil => []
  | .cons e r => needE e ++ needEs r
  | .star e r => needE e ++ needEs r
def needKs : Ks → List Need
  | .nil => []
  | .cons _ e r => needE e ++ needKs r
def needEo : Eo → List Need
  | .none => []
  | .some e => needE e
def needIt : It → List Need
  | .seq e => needE e
  | .rng1 a => .free "range" :: needE a
  | .rng2 a b => .free "range" :: (needE a ++ needE b)
  | .enum a => .free "enumerate" :: needE a
  | .zip a b => .free "zip" :: (needE a ++ needE b)
end
end TL

set_option Elab.async false
set_option linter.all false
set_option maxRecDepth 100000
set_option maxHeartbeats 4000000
/-! A text that fits does what is asked: expressions. -/
namespace TL
open PySem PySem.Spec PyProof.Rows L2
theorem ba3 {a b c : Bool} (h : (a && b && c) = true) : a = true ∧ b = true ∧ c = true := by simp only [Bool.and_eq_true] at h; exact ⟨h.1.1, h.1.2, h.2⟩
theorem ba2 {a b : Bool} (h : (a && b) = true) : a = true ∧ b = true := by simpa only [Bool.and_eq_true] using h
theorem in1 {α : Type} {p : α → Prop} {a b : List α} (h : ∀ n ∈ a ++ b, p n) : (∀ n ∈ a, p n) ∧ ∀ n ∈ b, p n := ⟨fun n m => h n (List.mem_append_left _ m), fun n m => h n (List.mem_append_right _ m)⟩
theorem inC {α : Type} {p : α → Prop} {a : α} {b : List α} (h : ∀ n ∈ a :: b, p n) : p a ∧ ∀ n ∈ b, p n := ⟨h a List.mem_cons_self, fun n m => h n (List.mem_cons_of_mem _ m)⟩
theorem gl_ok {S : Sit} {X : Cx} (o : SitOk S X) {x : Str} (h : glB S.sc x = true) : Gl X x := by
  show X.env.scope.names.lookup x = _
  rw [o.sc]; exact of_decide_eq_true h
theorem CtxB.blk {W : Wd} {k : Nat} {B : Bnd} {X : Cx} (c : CtxB W k B X) (s : Shared) (H : Hp) (scope : Scope) (ce : Env) (fp : List Addr) : CtxB W k B0 (X.blk s H scope ce fp) :=
  { P := c.P, w := c.w, K := c.K, mg := c.mg, base := c.base, room := c.room, gd := c.gd, calm := c.calm, nd := c.nd, tk := tk0 }
theorem SitOk.blk {S : Sit} {X : Cx} (o : SitOk S X) (s : Shared) (H : Hp) (scope : Scope) (C : Addr) (cl : List (Str × Addr)) (fp : List Addr) : SitOk (S.blk scope) (X.blk s H scope (compEnvC scope cl C X.env) fp) :=
  ⟨o.N, by show relS scope X.env.scope = _; rw [o.sc]; rfl, rfl⟩
theorem marks_ok {op : CmpOp} {e : Expr} (h : noSet e = true) : behindInMarks op e = false := by cases e <;> first | rfl | cases h
theorem marks2_ok {op op' : CmpOp} {b e : Expr} (h : noSet e = true) : lastMarks [op, op'] [b, e] = false := marks_ok h
section
variable {W : Wd} {k : Nat}
theorem t_ite {B : Bnd} {X : Cx} {c a b : Expr} {pos : Pos} {p q r : Wp} (hc : PT X c (tB' W B p)) (ha : PT X a (tB' W B q)) (hb : PT X b (tB' W B r)) :
    PT X (.IfExp c a b pos) (tB' W B fun x env M Q => p x env M fun u M1 => u.asB fun z => if z = true then q x env M1 Q else r x env M1 Q) := by
  refine ⟨fun pins s σ H Q I ⟨env, t, Qp, hH, he, g, re, h, l⟩ => ?_⟩
  subst hH
  show wpAny _ _ (do if ← isTrue c X.env (eval c X.env) then isTrue a X.env (eval a X.env) else isTrue b X.env (eval b X.env)) _ _ s
  refine wpAny_bind (thn (hc.run pins s σ t.H _ I (tB_bind (Q := fun z H1 => ∃ t1, t1.H = H1 ∧ Ext t t1 ∧ Ext B.t0 t1 ∧ Good W t1 ∧ REnv W t1 env σ ∧ if z = true then q (B.ex env) env t1.M (fun d M => d.asB fun b => Qp b M) else r (B.ex env) env t1.M (fun d M => d.asB fun b => Qp b M))
    (Qp := fun z M1 => if z = true then q (B.ex env) env M1 (fun d M => d.asB fun b => Qp b M) else r (B.ex env) env M1 (fun d M => d.asB fun b => Qp b M)) rfl he g re h fun z t1 e1 he1 g1 r1 h1 => ⟨t1, rfl, e1, he1, g1, r1, h1⟩)) fun z s1 ⟨H1, I1, t1, e0, e1, he1, g1, r1, h1⟩ => ?_)
  subst e0
  cases z with
  | true =>
    rw [if_pos rfl] at h1
    exact ha.run pins s1 σ t1.H Q I1 (tB_bind rfl he1 g1 r1 h1 fun b t2 e2 _ g2 _ h2 => l b t2 (e1.trans e2) g2 h2)
  | false =>
    rw [if_neg Bool.false_ne_true] at h1
    exact hb.run pins s1 σ t1.H Q I1 (tB_bind rfl he1 g1 r1 h1 fun b t2 e2 _ g2 _ h2 => l b t2 (e1.trans e2) g2 h2)
theorem e_dnew {B : Bnd} {X : Cx} {pos : Pos} : PE X (.Dict [] [] pos) (tE W B (wpE .dnew)) := by
  refine pe_dnewK.imp fun σ H Q ⟨env, t, Qp, hH, he, g, re, h, l⟩ => ?_
  subst hH
  intro p n
  unfold wpE at h
  exact l (.ref p) (.ref p) (t.put p (.dK []) (.dct [])) (Ext.newM n) (g.newM n ⟨[], upd_same, by show 0 ≤ sizeLine; decide, rfl⟩) Rep.ref (h p (g.fresh n))
theorem es_nil {xs : List Expr} {S : Sit} {es : Es} (h : okEs S es xs = true) (hn : xs = []) : ∀ x env M (Q : List D → Mm → Prop), wpEs es x env M Q → Q [] M := fun x env M Q q => by
  subst hn
  cases es with
  | nil => unfold wpEs at q; exact q
  | cons e r => unfold okEs at h; cases h
  | star e r => unfold okEs at h; cases h
end
end TL

set_option Elab.async false
set_option linter.all false
set_option maxRecDepth 100000
set_option maxHeartbeats 8000000
/-! A text that fits does what is asked. -/
namespace TL
open PySem PySem.Spec PyProof.Rows L2
def BothE (W : Wd) (B : Bnd) (X : Cx) (ex : Expr) (w : Wp) : Prop := PE X ex (tE W B w) ∧ PT X ex (tB' W B w)
theorem Both.val {W : Wd} {B : Bnd} {X : Cx} {ex : Expr} {w w' : Wp} (h : PE X ex (tE W B w')) (e : w = w') (he : ∀ whole, isTrue ex X.env whole = (do let v ← whole; standAt ex.pos; holding [v] (truthy v))) : BothE W B X ex w := by
  subst e; exact ⟨h, t_val h he⟩
theorem wp_ext {w w' : Wp} (h : ∀ x env M Q, w x env M Q = w' x env M Q) : w = w' := by funext x env M Q; exact h x env M Q
theorem wpL_ext {w w' : WpL} (h : ∀ x env M Q, w x env M Q = w' x env M Q) : w = w' := by funext x env M Q; exact h x env M Q
def GE (W : Wd) (k : Nat) (e : E) : Prop := ∀ (ex : Expr) (S : Sit) (B : Bnd) (X : Cx), CtxB W k B X → SitOk S X → okE S e ex = true → (∀ n ∈ needE e, NeedOk W k n) → BothE W B X ex (wpE e)
def GEs (W : Wd) (k : Nat) (e : Es) : Prop := ∀ (xs : List Expr) (S : Sit) (B : Bnd) (X : Cx), CtxB W k B X → SitOk S X → okEs S e xs = true → (∀ n ∈ needEs e, NeedOk W k n) → PA X xs (tA W B (wpEs e))
def GB (W : Wd) (k : Nat) (es : Es) : Prop := ∀ (xs : List Expr) (S : Sit) (B : Bnd) (X : Cx), CtxB W k B X → SitOk S X → okB S es xs = true → (∀ n ∈ needEs es, NeedOk W k n) → ∀ pos,
    (PE X (.BoolOp .And xs pos) (tE W B (wpAnd es)) ∧ PW X (.BoolOp .And xs pos) (tB' W B (wpAnd es))) ∧ (PE X (.BoolOp .Or xs pos) (tE W B (wpOr es)) ∧ PW X (.BoolOp .Or xs pos) (tB' W B (wpOr es)))
def GKs (W : Wd) (k : Nat) (e : Ks) : Prop := ∀ (xs : List Keyword) (S : Sit) (B : Bnd) (X : Cx), CtxB W k B X → SitOk S X → okKs S e xs = true → (∀ n ∈ needKs e, NeedOk W k n) → PK X xs (tA W B (wpKs e))
def GEo (W : Wd) (k : Nat) (e : Eo) : Prop := ∀ (xs : Option Expr) (S : Sit) (B : Bnd) (X : Cx), CtxB W k B X → SitOk S X → okEo S e xs = true → (∀ n ∈ needEo e, NeedOk W k n) → L2.PO X xs (tO' W B (wpEo e))
def GCd (W : Wd) (k : Nat) (e : Eo) : Prop := ∀ (xs : List Expr) (S : Sit) (B : Bnd) (X : Cx), CtxB W k B X → SitOk S X → okCd S e xs = true → (∀ n ∈ needEo e, NeedOk W k n) → PTs X xs (tCd W B e)
def GIt (W : Wd) (k : Nat) (e : It) : Prop := ∀ (tg ex : Expr) (S : Sit) (B : Bnd) (X : Cx), CtxB W k B X → SitOk S X → okIt S e tg ex = true → (∀ n ∈ needIt e, NeedOk W k n) → PI X tg ex (tI W B (wpIt e))
section
variable {W : Wd} {k : Nat}
theorem n_v {i : Nat}  : GE W k (.v i) := fun ex S B X c o h nd => by
    unfold okE at h
    obtain ⟨x, p, rfl, h⟩ := onName_inv h
    obtain ⟨h1, h2, h3⟩ := ba3 h
    have v := visB_ok h2
    rw [← o.sc] at v
    exact Both.val (e_v (by rw [o.N]; exact of_decide_eq_true h1) v h3) rfl fun _ => rfl
theorem n_c {d : D}  : GE W k (.c d) := fun ex S B X c o h nd => by
    unfold okE at h
    obtain ⟨k', j, p, rfl, hc⟩ := onConst_inv h
    clear h
    unfold okC at hc
    split at hc
    · cases of_decide_eq_true hc; exact Both.val e_int rfl fun _ => rfl
    · cases of_decide_eq_true hc; exact Both.val e_bl rfl fun _ => rfl
    · exact Both.val e_non rfl fun _ => rfl
    · obtain ⟨h1, h2⟩ := ba2 hc
      cases of_decide_eq_true h1
      exact Both.val (e_str (of_decide_eq_true h2)) rfl fun _ => rfl
    · cases hc
theorem n_g {x : Str} {d : D}  : GE W k (.g x d) := fun ex S B X c o h nd => by
    unfold okE at h
    obtain ⟨y, p, rfl, h⟩ := onName_inv h
    obtain ⟨h1, h2, h3⟩ := ba3 h
    cases of_decide_eq_true h1
    unfold needE at nd
    obtain ⟨v, u, n1, n2, n3⟩ := (inC nd).1
    exact Both.val (e_glob c.toCOk (gl_ok o h2) h3 n1 n2 n3) rfl fun _ => rfl
theorem n_bin {op : Operator} {fz : Bool} {a b : E} (gE_a : GE W k a) (gE_b : GE W k b) : GE W k (.bin op fz a b) := fun ex S B X c o h nd => by
    unfold okE at h
    obtain ⟨l, op', r, p, rfl, h⟩ := onBin_inv h
    obtain ⟨h0, h3, h4⟩ := ba3 h
    obtain ⟨h1, h2⟩ := ba2 h0
    cases of_decide_eq_true h1
    unfold needE at nd
    obtain ⟨n1, n2⟩ := in1 nd
    exact Both.val (e_bin (fz := fz) c.toCOk h2 (gE_a l S B X c o h3 n1).1 (gE_b r S B X c o h4 n2).1) (wp_ext fun x env M Q => by rw [wpE]) fun _ => rfl
theorem n_neg {a : E} (gE_a : GE W k a) : GE W k (.neg a) := fun ex S B X c o h nd => by
    unfold okE at h
    obtain ⟨op, r, p, rfl, h⟩ := onUn_inv h
    obtain ⟨h1, h2⟩ := ba2 h
    cases of_decide_eq_true h1
    unfold needE at nd
    exact Both.val (e_neg c.toCOk (gE_a r S B X c o h2 nd).1) (wp_ext fun x env M Q => by rw [wpE]) fun _ => rfl
theorem n_not {a : E} (gE_a : GE W k a) : GE W k (.not a) := fun ex S B X c o h nd => by
    unfold okE at h
    obtain ⟨op, r, p, rfl, h⟩ := onUn_inv h
    obtain ⟨h1, h2⟩ := ba2 h
    cases of_decide_eq_true h1
    unfold needE at nd
    have e : wpE (.not a) = fun x env M Q => wpE a x env M fun u M1 => u.asB fun b => Q (.bl (!b)) M1 := wp_ext fun x env M Q => by rw [wpE]
    rw [e]
    exact ⟨e_not (gE_a r S B X c o h2 nd).1, t_not (gE_a r S B X c o h2 nd).2⟩
theorem n_cmp {op : CmpOp} {a b : E} (gE_a : GE W k a) (gE_b : GE W k b) : GE W k (.cmp op a b) := fun ex S B X c o h nd => by
    unfold okE at h
    obtain ⟨l, op', r, p, rfl, h⟩ := onCmp_inv h
    obtain ⟨h0, h3, h4⟩ := ba3 h
    obtain ⟨h1, h2⟩ := ba2 h0
    cases of_decide_eq_true h1
    unfold needE at nd
    obtain ⟨n1, n2⟩ := in1 nd
    have e : wpE (.cmp op a b) = fun x env M Q => wpE a x env M fun u M1 => wpE b x env M1 fun v M2 => cmpK op M2 u v fun r => Q (.bl r) M2 := wp_ext fun x env M Q => by rw [wpE]
    rw [e]
    have A := (gE_a l S B X c o h3 n1).1
    have B' := (gE_b r S B X c o h4 n2).1
    exact ⟨e_cmp c.toCOk A B' (marks_ok h2), t_cmp c.toCOk A B' (marks_ok h2)⟩
theorem n_chn {op op2 : CmpOp} {a b d : E} (gE_a : GE W k a) (gE_b : GE W k b) (gE_d : GE W k d) : GE W k (.chn op op2 a b d) := fun ex S B X c o h nd => by
    unfold okE at h
    obtain ⟨l, o1, m, o2, r, p, rfl, h⟩ := onCmp2_inv h
    obtain ⟨h0, h5, h6⟩ := ba3 h
    obtain ⟨h0, h3, h4⟩ := ba3 h0
    obtain ⟨h1, h2⟩ := ba2 h0
    cases of_decide_eq_true h1
    cases of_decide_eq_true h2
    unfold needE at nd
    obtain ⟨n1, n2⟩ := in1 nd
    obtain ⟨n2, n3⟩ := in1 n2
    have e : wpE (.chn op op2 a b d) = wChn op op2 (wpE a) (wpE b) (wpE d) := wp_ext fun x env M Q => by rw [wpE]; rfl
    rw [e]
    have A := (gE_a l S B X c o h4 n1).1
    have B' := (gE_b m S B X c o h5 n2).1
    have C := (gE_d r S B X c o h6 n3).1
    exact ⟨e_chn c.toCOk A B' C (marks2_ok h3), t_chn c.toCOk A B' C (marks2_ok h3)⟩
theorem n_and {es : Es} (gB_es : GB W k es) : GE W k (.and es) := fun ex S B X c o h nd => by
    unfold okE at h
    obtain ⟨op, xs, p, rfl, h⟩ := onBool_inv h
    obtain ⟨h1, h2⟩ := ba2 h
    cases of_decide_eq_true h1
    unfold needE at nd
    have e : wpE (.and es) = wpAnd es := wp_ext fun x env M Q => by rw [wpE]
    rw [e]
    obtain ⟨z1, z2⟩ := (gB_es xs S B X c o h2 nd p).1
    exact ⟨z1, z2.pt⟩
theorem n_or {es : Es} (gB_es : GB W k es) : GE W k (.or es) := fun ex S B X c o h nd => by
    unfold okE at h
    obtain ⟨op, xs, p, rfl, h⟩ := onBool_inv h
    obtain ⟨h1, h2⟩ := ba2 h
    cases of_decide_eq_true h1
    unfold needE at nd
    have e : wpE (.or es) = wpOr es := wp_ext fun x env M Q => by rw [wpE]
    rw [e]
    obtain ⟨z1, z2⟩ := (gB_es xs S B X c o h2 nd p).2
    exact ⟨z1, z2.pt⟩
theorem n_ite {t a b : E} (gE_t : GE W k t) (gE_a : GE W k a) (gE_b : GE W k b) : GE W k (.ite t a b) := fun ex S B X c o h nd => by
    unfold okE at h
    obtain ⟨z, x, y, p, rfl, h⟩ := onIf_inv h
    obtain ⟨h1, h2, h3⟩ := ba3 h
    unfold needE at nd
    obtain ⟨n1, n2⟩ := in1 nd
    obtain ⟨n2, n3⟩ := in1 n2
    have e : wpE (.ite t a b) = fun x env M Q => wpE t x env M fun u M1 => u.asB fun r => if r = true then wpE a x env M1 Q else wpE b x env M1 Q := wp_ext fun x env M Q => by rw [wpE]
    rw [e]
    have T := gE_t z S B X c o h1 n1
    have A := gE_a x S B X c o h2 n2
    have B' := gE_b y S B X c o h3 n3
    exact ⟨e_ite T.2 A.1 B'.1, t_ite T.2 A.2 B'.2⟩
theorem n_tup {es : Es} (gEs_es : GEs W k es) : GE W k (.tup es) := fun ex S B X c o h nd => by
    unfold okE at h
    obtain ⟨xs, j, p, rfl, h⟩ := onTup_inv h
    unfold needE at nd
    exact Both.val (e_tup (gEs_es xs S B X c o h nd)) (wp_ext fun x env M Q => by rw [wpE]) fun _ => rfl
theorem n_lst {fz : Bool} {es : Es} (gEs_es : GEs W k es) : GE W k (.lst fz es) := fun ex S B X c o h nd => by
    unfold okE at h
    obtain ⟨xs, p, rfl, h⟩ := onLst_inv h
    unfold needE at nd
    exact Both.val (e_lst (fz := fz) (gEs_es xs S B X c o h nd)) (wp_ext fun x env M Q => by rw [wpE]) fun _ => rfl
theorem n_ix {a i : E} (gE_a : GE W k a) (gE_i : GE W k i) : GE W k (.ix a i) := fun ex S B X c o h nd => by
    unfold okE at h
    obtain ⟨x, y, p, rfl, h⟩ := onIx_inv h
    obtain ⟨h1, h2, h3⟩ := ba3 h
    unfold needE at nd
    obtain ⟨n1, n2⟩ := in1 nd
    exact Both.val (e_ix c.toCOk (gE_a x S B X c o h2 n1).1 (gE_i y S B X c o h3 n2).1 h1) (wp_ext fun x env M Q => by rw [wpE]) fun _ => rfl
theorem n_sl {fz : Bool} {a : E} {lo hi : Eo} (gE_a : GE W k a) (gEo_lo : GEo W k lo) (gEo_hi : GEo W k hi) : GE W k (.sl fz a lo hi) := fun ex S B X c o h nd => by
    unfold okE at h
    obtain ⟨x, l, u, p, q, rfl, h⟩ := onSl_inv h
    obtain ⟨h1, h2, h3⟩ := ba3 h
    unfold needE at nd
    obtain ⟨n1, n2⟩ := in1 nd
    obtain ⟨n2, n3⟩ := in1 n2
    exact Both.val (e_sl (fz := fz) c.toCOk (gE_a x S B X c o h1 n1).1 (gEo_lo l S B X c o h2 n2) (gEo_hi u S B X c o h3 n3)) (wp_ext fun x env M Q => by rw [wpE]) fun _ => rfl
theorem n_rev {fz : Bool} {a : E} (gE_a : GE W k a) : GE W k (.rev fz a) := fun ex S B X c o h nd => by
    unfold okE at h
    obtain ⟨x, j, p1, p2, p3, p4, rfl, h⟩ := onRev_inv h
    unfold needE at nd
    exact Both.val (e_rev2 (fz := fz) c.toCOk (gE_a x S B X c o h nd).1) (wp_ext fun x env M Q => by rw [wpE]) fun _ => rfl
theorem n_bi {f : BI} {fz : Bool} {es : Es} (gEs_es : GEs W k es) : GE W k (.bi f fz es) := fun ex S B X c o h nd => by
    unfold okE at h
    obtain ⟨x, p, xs, ks, q, rfl, h⟩ := onCall_inv h
    obtain ⟨h0, h5, h6⟩ := ba3 h
    obtain ⟨h0, h3, h4⟩ := ba3 h0
    obtain ⟨h1, h2⟩ := ba2 h0
    cases onNil_inv h1
    unfold needE at nd
    obtain ⟨n1, n2⟩ := inC nd
    cases xs with
    | nil => cases h4
    | cons y ys =>
      exact Both.val (e_bi (fz := fz) c.toCOk (of_decide_eq_true h2) (gl_ok o h3) (by rw [of_decide_eq_true h2]; exact n1) h5 (gEs_es (y :: ys) S B X c o h6 n2)) (wp_ext fun x env M Q => by rw [wpE]) fun _ => rfl
theorem n_isi {a : E} {T : Str} {cs : List Str} (gE_a : GE W k a) : GE W k (.isi a T cs) := fun ex S B X c o h nd => by
    unfold okE at h
    obtain ⟨x, p, xs, ks, q, rfl, h⟩ := onCall_inv h
    obtain ⟨h0, h3, h4⟩ := ba3 h
    obtain ⟨h1, h2⟩ := ba2 h0
    cases onNil_inv h1
    cases of_decide_eq_true h2
    obtain ⟨y, z, rfl, hq⟩ := on2_inv h4
    obtain ⟨h5, h6, h7⟩ := ba3 hq
    obtain ⟨t, p2, rfl, hr⟩ := onName_inv h7
    obtain ⟨h8, h9, h10⟩ := ba3 hr
    cases of_decide_eq_true h8
    unfold needE at nd
    obtain ⟨n1, n2⟩ := inC nd
    obtain ⟨n2, n3⟩ := inC n2
    obtain ⟨c0, u, n2⟩ := n2
    exact Both.val (e_isi c.toCOk n2 (gl_ok o h3) n1 (gl_ok o h9) h10 h5 (gE_a y S B X c o h6 n3).1) (wp_ext fun x env M Q => by rw [wpE]) fun _ => rfl
theorem n_call {f : Str} {ct : Contract} {es : Es} (gEs_es : GEs W k es) : GE W k (.call f ct es) := fun ex S B X c o h nd => by
    unfold okE at h
    obtain ⟨x, p, xs, ks, q, rfl, h⟩ := onCall_inv h
    obtain ⟨h0, h5, h6⟩ := ba3 h
    obtain ⟨h0, h3, h4⟩ := ba3 h0
    obtain ⟨h1, h2⟩ := ba2 h0
    cases onNil_inv h1
    cases of_decide_eq_true h2
    unfold needE at nd
    obtain ⟨n1, n2⟩ := inC nd
    obtain ⟨g, fd, ps, F, m1, m2, m3⟩ := n1
    exact Both.val (e_call c F (Nat.le_refl _) (gl_ok o h3) h4 m1 m2 m3 h5 (gEs_es xs S B X c o h6 n2) (es_nil h6)) (wp_ext fun x env M Q => by rw [wpE]) fun _ => rfl
theorem n_callk {f : Str} {ct : Contract} {es : Es} {ks : Ks} {pm : List Nat} (gEs_es : GEs W k es) (gKs_ks : GKs W k ks) : GE W k (.callk f ct es ks pm) := fun ex S B X c o h nd => by
    unfold okE at h
    obtain ⟨x, p, xs, kws, q, rfl, h⟩ := onCall_inv h
    obtain ⟨h0, h7, h8⟩ := ba3 h
    obtain ⟨h0, h5, h6⟩ := ba3 h0
    obtain ⟨h0, h3, h4⟩ := ba3 h0
    obtain ⟨h1, h2⟩ := ba2 h0
    cases of_decide_eq_true h1
    unfold needE at nd
    obtain ⟨n1, n2⟩ := inC nd
    obtain ⟨n2, n3⟩ := in1 n2
    obtain ⟨g, fd, ps, F, m1, m2, m3⟩ := n1
    exact Both.val (e_callk c F (Nat.le_refl _) (gl_ok o h2) h3 m1 m2 m3 h4 (gEs_es xs S B X c o h7 n2) (es_nil h7) h6 (gKs_ks kws S B X c o h8 n3)) (wp_ext fun x env M Q => by rw [wpE]) fun _ => rfl
theorem n_mk {C : Str} {ct : Contract} {es : Es} (gEs_es : GEs W k es) : GE W k (.mk C ct es) := fun ex S B X c o h nd => by
    unfold okE at h
    obtain ⟨x, p, xs, ks, q, rfl, h⟩ := onCall_inv h
    obtain ⟨h0, h5, h6⟩ := ba3 h
    obtain ⟨h0, h3, h4⟩ := ba3 h0
    obtain ⟨h1, h2⟩ := ba2 h0
    cases onNil_inv h1
    cases of_decide_eq_true h2
    unfold needE at nd
    obtain ⟨n1, n2⟩ := inC nd
    exact Both.val (e_mk c n1 (gl_ok o h3) h4 h5 (gEs_es xs S B X c o h6 n2) (es_nil h6)) (wp_ext fun x env M Q => by rw [wpE]) fun _ => rfl
theorem n_mkk {C : Str} {ct : Contract} {es : Es} {ks : Ks} {pm : List Nat} (gEs_es : GEs W k es) (gKs_ks : GKs W k ks) : GE W k (.mkk C ct es ks pm) := fun ex S B X c o h nd => by
    unfold okE at h
    obtain ⟨x, p, xs, kws, q, rfl, h⟩ := onCall_inv h
    obtain ⟨h0, h7, h8⟩ := ba3 h
    obtain ⟨h0, h5, h6⟩ := ba3 h0
    obtain ⟨h0, h3, h4⟩ := ba3 h0
    obtain ⟨h1, h2⟩ := ba2 h0
    cases of_decide_eq_true h1
    unfold needE at nd
    obtain ⟨n1, n2⟩ := inC nd
    obtain ⟨n2, n3⟩ := in1 n2
    exact Both.val (e_mkk c n1 (gl_ok o h2) h3 h4 (gEs_es xs S B X c o h7 n2) (es_nil h7) h6 (gKs_ks kws S B X c o h8 n3)) (wp_ext fun x env M Q => by rw [wpE]) fun _ => rfl
theorem n_fld {a : E} {C f : Str} (gE_a : GE W k a) : GE W k (.fld a C f) := fun ex S B X c o h nd => by
    unfold okE at h
    obtain ⟨x, g, p, rfl, h⟩ := onAttr_inv h
    obtain ⟨h1, h2, h3⟩ := ba3 h
    cases of_decide_eq_true h1
    unfold needE at nd
    obtain ⟨n1, n2⟩ := inC nd
    exact Both.val (e_fld c.toCOk n1 h2 (gE_a x S B X c o h3 n2).1) (wp_ext fun x env M Q => by rw [wpE]) fun _ => rfl
theorem n_prop {a : E} {C f : Str} {ct : Contract} (gE_a : GE W k a) : GE W k (.prop a C f ct) := fun ex S B X c o h nd => by
    unfold okE at h
    obtain ⟨x, g, p, rfl, h⟩ := onAttr_inv h
    obtain ⟨h1, h2, h3⟩ := ba3 h
    cases of_decide_eq_true h1
    unfold needE at nd
    obtain ⟨n1, n2⟩ := inC nd
    exact Both.val (e_prop c n1 h2 (gE_a x S B X c o h3 n2).1) (wp_ext fun x env M Q => by rw [wpE]) fun _ => rfl
theorem n_meth {a : E} {C m : Str} {ct : Contract} {es : Es} (gE_a : GE W k a) (gEs_es : GEs W k es) : GE W k (.meth a C m ct es) := fun ex S B X c o h nd => by
    unfold okE at h
    obtain ⟨x, n, apos, xs, q, rfl, hl, h⟩ := onMeth_inv h
    obtain ⟨h0, h5, h6⟩ := ba3 h
    obtain ⟨h0, h3, h4⟩ := ba3 h0
    obtain ⟨h1, h2⟩ := ba2 h0
    cases of_decide_eq_true h1
    unfold needE at nd
    obtain ⟨n1, n2⟩ := inC nd
    obtain ⟨n2, n3⟩ := in1 n2
    exact Both.val (e_meth c n1 h3 (gE_a x S B X c o h5 n2).1 (gEs_es xs S B X c o h6 n3) (es_nil h6) h2 hl h4) (wp_ext fun x env M Q => by rw [wpE]) fun _ => rfl
theorem n_bm {m : BM} {fz : Bool} {a : E} {es : Es} (gE_a : GE W k a) (gEs_es : GEs W k es) : GE W k (.bm m fz a es) := fun ex S B X c o h nd => by
    unfold okE at h
    obtain ⟨x, n, apos, xs, q, rfl, hl, h⟩ := onMeth_inv h
    obtain ⟨h0, h5, h6⟩ := ba3 h
    obtain ⟨h0, h3, h4⟩ := ba3 h0
    obtain ⟨h1, h2⟩ := ba2 h0
    cases of_decide_eq_true h1
    unfold needE at nd
    obtain ⟨n2, n3⟩ := in1 nd
    exact Both.val (e_bm (fz := fz) c.toCOk (gE_a x S B X c o h5 n2).1 h3 (gEs_es xs S B X c o h6 n3) (es_nil h6) h2 hl h4) (wp_ext fun x env M Q => by rw [wpE]) fun _ => rfl
theorem sComp {fz : Bool} {t : Tg} {it : It} {cond : Eo} {elt : E} (gIt_it : GIt W k it) (gCd_cond : GCd W k cond) (gE_elt : GE W k elt) : ∀ (x tg iter : Expr) (ifs : List Expr) (scope : Scope) (S : Sit) (B : Bnd) (X : Cx), CtxB W k B X → SitOk S X →
    (okIt S it tg iter && noSet iter && okT S.N (relS scope S.sc) (S.blk scope).fn t tg && blkC S.N S.sc scope (tgOwn t tg) && decide ((tgOwn t tg).map (·.2) = t.slots) && okCd (S.blk scope) cond ifs && okE (S.blk scope) elt x) = true → (∀ n ∈ needE (.comp fz t it cond elt), NeedOk W k n) →
    PI X tg iter (tI W B (wpIt it)) ∧ BlkOk X.N X.env.scope scope (tgOwn t tg) ∧
    (∀ (s : Shared) (H : Hp) (C : Addr) (cl : List (Str × Addr)) (fp : List Addr), PG (X.blk s H scope (compEnvC scope cl C X.env) fp) tg (gT W t)) ∧ (∀ (s : Shared) (H : Hp) (C : Addr) (cl : List (Str × Addr)) (fp : List Addr), PTs (X.blk s H scope (compEnvC scope cl C X.env) fp) ifs (tCd W B0 cond)) ∧
    (∀ (s : Shared) (H : Hp) (C : Addr) (cl : List (Str × Addr)) (fp : List Addr), PE (X.blk s H scope (compEnvC scope cl C X.env) fp) x (tE W B0 (wpE elt))) ∧ (∀ v, foldedSetIterable iter X.env v = pure v) ∧ (tgOwn t tg).map (·.2) = t.slots
  | x, tg, iter, ifs, scope, S, B, X, c, o, h, nd => by
    obtain ⟨h0, h6, h7⟩ := ba3 h
    obtain ⟨h0, h4, h5⟩ := ba3 h0
    obtain ⟨h1, h2, h3⟩ := ba3 h0
    unfold needE at nd
    obtain ⟨n1, n2⟩ := in1 nd
    obtain ⟨n2, n3⟩ := in1 n2
    refine ⟨gIt_it tg iter S B X c o h1 n1, by rw [o.N, o.sc]; exact blkOk_by h4, fun s H C cl fp => ?_, fun s H C cl fp => ?_, fun s H C cl fp => ?_, noSet_ok h2, of_decide_eq_true h5⟩
    · have o2 := o.blk s H scope C cl fp
      exact g_tg (c.blk s H scope (compEnvC scope cl C X.env) fp).toCOk o2.N o2.sc o2.fn t tg h3
    · exact gCd_cond ifs (S.blk scope) B0 _ (c.blk s H scope (compEnvC scope cl C X.env) fp) (o.blk s H scope C cl fp) h6 n2
    · exact (gE_elt x (S.blk scope) B0 _ (c.blk s H scope (compEnvC scope cl C X.env) fp) (o.blk s H scope C cl fp) h7 n3).1
theorem n_comp {fz : Bool} {t : Tg} {it : It} {cond : Eo} {elt : E} (gIt_it : GIt W k it) (gCd_cond : GCd W k cond) (gE_elt : GE W k elt) : GE W k (.comp fz t it cond elt) := fun ex S B X c o h nd => by
    unfold okE at h
    obtain ⟨x, tg, iter, ifs, scope, p, rfl, h⟩ := onComp_inv h
    have z := sComp gIt_it gCd_cond gE_elt x tg iter ifs scope S B X c o h nd
    exact Both.val ((pe_lc (pos := p) c.calm c.nd z.1 z.2.1 z.2.2.1 z.2.2.2.1 z.2.2.2.2.1 z.2.2.2.2.2.1).imp fun σ H Q hq => comp_imp z.2.2.2.2.2.2 hq) rfl fun _ => rfl
theorem n_dnew   : GE W k (.dnew ) := fun ex S B X c o h nd => by
    unfold okE at h
    obtain ⟨p, rfl⟩ := onDict0_inv h
    exact Both.val e_dnew rfl fun _ => rfl
theorem n_lr1 {fz : Bool} {a : E} (gE_a : GE W k a) : GE W k (.lr1 fz a) := fun ex S B X c o h nd => by
    unfold okE at h
    obtain ⟨x, p, xs, ks, q, rfl, h⟩ := onCall_inv h
    obtain ⟨h0, h3, h4⟩ := ba3 h
    obtain ⟨h1, h2⟩ := ba2 h0
    cases onNil_inv h1
    cases of_decide_eq_true h2
    obtain ⟨z, rfl, hq⟩ := on1_inv h4
    obtain ⟨y, p2, ys, ls, q2, rfl, hr⟩ := onCall_inv hq
    obtain ⟨h00, h5, h6⟩ := ba3 hr
    obtain ⟨h7, h8⟩ := ba2 h00
    cases onNil_inv h7
    cases of_decide_eq_true h8
    obtain ⟨u, rfl, ht⟩ := on1_inv h6
    obtain ⟨h9, h10⟩ := ba2 ht
    unfold needE at nd
    obtain ⟨n1, n2⟩ := inC nd
    obtain ⟨n2, n3⟩ := inC n2
    exact Both.val (e_lr1 (fz := fz) c.toCOk (gl_ok o h3) n1 (gl_ok o h5) n2 h9 (gE_a u S B X c o h10 n3).1) (wp_ext fun x env M Q => by rw [wpE]) fun _ => rfl
theorem n_lr2 {fz : Bool} {a b : E} (gE_a : GE W k a) (gE_b : GE W k b) : GE W k (.lr2 fz a b) := fun ex S B X c o h nd => by
    unfold okE at h
    obtain ⟨x, p, xs, ks, q, rfl, h⟩ := onCall_inv h
    obtain ⟨h0, h3, h4⟩ := ba3 h
    obtain ⟨h1, h2⟩ := ba2 h0
    cases onNil_inv h1
    cases of_decide_eq_true h2
    obtain ⟨z, rfl, hq⟩ := on1_inv h4
    obtain ⟨y, p2, ys, ls, q2, rfl, hr⟩ := onCall_inv hq
    obtain ⟨h00, h5, h6⟩ := ba3 hr
    obtain ⟨h7, h8⟩ := ba2 h00
    cases onNil_inv h7
    cases of_decide_eq_true h8
    obtain ⟨u, v, rfl, ht⟩ := on2_inv h6
    obtain ⟨h01, h11, h12⟩ := ba3 ht
    obtain ⟨h9, h10⟩ := ba2 h01
    unfold needE at nd
    obtain ⟨n1, n2⟩ := inC nd
    obtain ⟨n2, n3⟩ := inC n2
    obtain ⟨n3, n4⟩ := in1 n3
    exact Both.val (e_lr2 (fz := fz) c.toCOk (gl_ok o h3) n1 (gl_ok o h5) n2 h9 h10 (gE_a u S B X c o h11 n3).1 (gE_b v S B X c o h12 n4).1) (wp_ext fun x env M Q => by rw [wpE]) fun _ => rfl
theorem n_lz {fz : Bool} {a b : E} (gE_a : GE W k a) (gE_b : GE W k b) : GE W k (.lz fz a b) := fun ex S B X c o h nd => by
    unfold okE at h
    obtain ⟨x, p, xs, ks, q, rfl, h⟩ := onCall_inv h
    obtain ⟨h0, h3, h4⟩ := ba3 h
    obtain ⟨h1, h2⟩ := ba2 h0
    cases onNil_inv h1
    cases of_decide_eq_true h2
    obtain ⟨z, rfl, hq⟩ := on1_inv h4
    obtain ⟨y, p2, ys, ls, q2, rfl, hr⟩ := onCall_inv hq
    obtain ⟨h00, h5, h6⟩ := ba3 hr
    obtain ⟨h7, h8⟩ := ba2 h00
    cases onNil_inv h7
    cases of_decide_eq_true h8
    obtain ⟨u, v, rfl, ht⟩ := on2_inv h6
    obtain ⟨h01, h11, h12⟩ := ba3 ht
    obtain ⟨h9, h10⟩ := ba2 h01
    unfold needE at nd
    obtain ⟨n1, n2⟩ := inC nd
    obtain ⟨n2, n3⟩ := inC n2
    obtain ⟨n3, n4⟩ := in1 n3
    exact Both.val (e_lz (fz := fz) c.toCOk (gl_ok o h3) n1 (gl_ok o h5) n2 h9 h10 (gE_a u S B X c o h11 n3).1 (gE_b v S B X c o h12 n4).1) (wp_ext fun x env M Q => by rw [wpE]) fun _ => rfl
theorem n_ueq {C : Str} {ct : Contract} {a b : E} (gE_a : GE W k a) (gE_b : GE W k b) : GE W k (.ueq C ct a b) := fun ex S B X c o h nd => by
    unfold okE at h
    obtain ⟨l, op', r, p, rfl, h⟩ := onCmp_inv h
    obtain ⟨h0, h3, h4⟩ := ba3 h
    obtain ⟨h1, h2⟩ := ba2 h0
    cases of_decide_eq_true h1
    unfold needE at nd
    obtain ⟨n0, n1⟩ := inC nd
    obtain ⟨n1, n2⟩ := in1 n1
    have e : wpE (.ueq C ct a b) = wUeq C ct (wpE a) (wpE b) := wp_ext fun x env M Q => by rw [wpE]; rfl
    rw [e]
    have A := (gE_a l S B X c o h3 n1).1
    have B' := (gE_b r S B X c o h4 n2).1
    exact ⟨e_ueq c.toCOk n0 A B' (marks_ok h2), t_ueq c.toCOk n0 A B' (marks_ok h2)⟩
theorem n_lenset {a : E} (gE_a : GE W k a) : GE W k (.lenset a) := fun ex S B X c o h nd => by
    unfold okE at h
    obtain ⟨x, p, xs, ks, q, rfl, h⟩ := onCall_inv h
    obtain ⟨h0, h3, h4⟩ := ba3 h
    obtain ⟨h1, h2⟩ := ba2 h0
    cases onNil_inv h1
    cases of_decide_eq_true h2
    obtain ⟨z, rfl, hq⟩ := on1_inv h4
    obtain ⟨y, p2, ys, ls, q2, rfl, hr⟩ := onCall_inv hq
    obtain ⟨h00, h5, h6⟩ := ba3 hr
    obtain ⟨h7, h8⟩ := ba2 h00
    cases onNil_inv h7
    cases of_decide_eq_true h8
    obtain ⟨u, rfl, ht⟩ := on1_inv h6
    obtain ⟨h9, h10⟩ := ba2 ht
    unfold needE at nd
    obtain ⟨n1, n2⟩ := inC nd
    obtain ⟨n2, n3⟩ := inC n2
    exact Both.val (e_lenset c.toCOk (gl_ok o h3) n1 (gl_ok o h5) n2 h9 (gE_a u S B X c o h10 n3).1) (wp_ext fun x env M Q => by rw [wpE]) fun _ => rfl
theorem n_skabs {fz : Bool} {a : E} (gE_a : GE W k a) : GE W k (.skabs fz a) := fun ex S B X c o h nd => by
    unfold okE at h
    obtain ⟨x, p, xs, kws, q, rfl, h⟩ := onCall_inv h
    obtain ⟨h0, h4, h5⟩ := ba3 h
    obtain ⟨h1, h2, h3⟩ := ba3 h0
    cases of_decide_eq_true h1
    obtain ⟨z, rfl, hq⟩ := on1_inv h4
    obtain ⟨h6, h7⟩ := ba2 hq
    obtain ⟨⟨nm, v, kp⟩, rfl, hr⟩ := on1_inv h5
    obtain ⟨h8, h9⟩ := ba2 hr
    obtain ⟨t, p2, ev, h10⟩ := onName_inv h9
    cases of_decide_eq_true h8
    have ev : v = .Name t p2 := ev
    subst ev
    cases of_decide_eq_true h10
    unfold needE at nd
    obtain ⟨n1, n2⟩ := inC nd
    obtain ⟨n2, n3⟩ := inC n2
    exact Both.val (e_skabs (fz := fz) c.toCOk (gl_ok o h2) n1 (gl_ok o h3) n2 h6 (gE_a z S B X c o h7 n3).1) (wp_ext fun x env M Q => by rw [wpE]) fun _ => rfl
theorem n_Es_nil   : GEs W k (.nil ) := fun xs S B X c o h nd => by
    unfold okEs at h
    cases onNil_inv h
    exact a_nil
theorem n_Es_cons {e : E} {r : Es} (gE_e : GE W k e) (gEs_r : GEs W k r) : GEs W k (.cons e r) := fun xs S B X c o h nd => by
    unfold okEs at h
    obtain ⟨y, ys, rfl, h⟩ := onCons_inv h
    obtain ⟨h1, h2, h3⟩ := ba3 h
    unfold needEs at nd
    obtain ⟨n1, n2⟩ := in1 nd
    exact a_cons h1 (gE_e y S B X c o h2 n1).1 (gEs_r ys S B X c o h3 n2) fun x env M Q q => by rw [wpEs] at q; exact q
theorem n_Es_star {e : E} {r : Es} (gE_e : GE W k e) (gEs_r : GEs W k r) : GEs W k (.star e r) := fun xs S B X c o h nd => by
    unfold okEs at h
    obtain ⟨y, ys, rfl, h⟩ := onCons_inv h
    obtain ⟨z, p, rfl, h⟩ := onStar_inv h
    obtain ⟨h2, h3⟩ := ba2 h
    unfold needEs at nd
    obtain ⟨n1, n2⟩ := in1 nd
    exact a_star c.toCOk (gE_e z S B X c o h2 n1).1 (gEs_r ys S B X c o h3 n2) fun x env M Q q => by rw [wpEs] at q; exact q
theorem n_B_nil   : GB W k (.nil ) := fun xs S B X c o h nd pos => by unfold okB at h; cases h
theorem n_B_star {e : E} {r : Es}  : GB W k (.star e r) := fun xs S B X c o h nd pos => by unfold okB at h; cases h
theorem n_B_cons {e : E} {r : Es} (gE_e : GE W k e) (gB_r : GB W k r) : GB W k (.cons e r) := fun xs S B X c o h nd pos => by
    unfold okB at h
    obtain ⟨y, ys, rfl, h⟩ := onCons_inv h
    obtain ⟨h1, h2⟩ := ba2 h
    unfold needEs at nd
    obtain ⟨n1, n2⟩ := in1 nd
    have A := gE_e y S B X c o h1 n1
    cases r with
    | nil =>
      have h2 : onNil ys = true := h2
      cases onNil_inv h2
      exact ⟨⟨e_and1 A.1 fun x env M Q q => by rw [wpAnd] at q; exact q, w_and1 A.2 fun x env M Q q => by rw [wpAnd] at q; exact q⟩, ⟨e_and1 A.1 fun x env M Q q => by rw [wpOr] at q; exact q, w_or1 A.2 fun x env M Q q => by rw [wpOr] at q; exact q⟩⟩
    | star e2 r2 =>
      have h2 : okB S (.star e2 r2) ys = true := h2
      unfold okB at h2
      cases h2
    | cons e2 r2 =>
      have h2 : okB S (.cons e2 r2) ys = true := h2
      have R := gB_r ys S B X c o h2 n2 pos
      unfold okB at h2
      obtain ⟨z, zs, rfl, _⟩ := onCons_inv h2
      exact ⟨⟨e_and A.1 R.1.1 fun x env M Q q => q, w_and A.2 R.1.2 fun x env M Q q => q⟩, ⟨e_or A.1 R.2.1 fun x env M Q q => q, w_or A.2 R.2.2 fun x env M Q q => q⟩⟩
theorem n_Ks_nil   : GKs W k (.nil ) := fun xs S B X c o h nd => by
    unfold okKs at h
    cases onNil_inv h
    exact k_nil
theorem n_Ks_cons {nm : Str} {e : E} {r : Ks} (gE_e : GE W k e) (gKs_r : GKs W k r) : GKs W k (.cons nm e r) := fun xs S B X c o h nd => by
    unfold okKs at h
    obtain ⟨⟨nm, y, p⟩, ys, rfl, h⟩ := onCons_inv h
    obtain ⟨h2, h3⟩ := ba2 h
    unfold needKs at nd
    obtain ⟨n1, n2⟩ := in1 nd
    exact k_cons (gE_e y S B X c o h2 n1).1 (gKs_r ys S B X c o h3 n2) fun x env M Q q => by rw [wpKs] at q; exact q
theorem n_Eo_none   : GEo W k (.none ) := fun xs S B X c o h nd => by
    unfold okEo at h
    cases onNone_inv h
    exact o_none
theorem n_Eo_some {e : E} (gE_e : GE W k e) : GEo W k (.some e) := fun xs S B X c o h nd => by
    unfold okEo at h
    obtain ⟨y, rfl, h⟩ := onSome_inv h
    unfold needEo at nd
    exact o_some (gE_e y S B X c o h nd).1
theorem n_Cd_none   : GCd W k (.none ) := fun xs S B X c o h nd => by
    unfold okCd at h
    cases onNil_inv h
    exact cd_none
theorem n_Cd_some {e : E} (gE_e : GE W k e) : GCd W k (.some e) := fun xs S B X c o h nd => by
    unfold okCd at h
    obtain ⟨y, rfl, h⟩ := on1_inv h
    unfold needEo at nd
    exact cd_some (gE_e y S B X c o h nd).2
theorem n_It_seq {e : E} (gE_e : GE W k e) : GIt W k (.seq e) := fun tg ex S B X c o h nd => by
    unfold okIt at h
    unfold needIt at nd
    have e1 : wpIt (.seq e) = fun x env M Q => wpE e x env M fun d M1 => itK M1 d fun src => Q src M1 := by funext x env M Q; rw [wpIt]
    rw [e1]
    exact i_seq c.toCOk (gE_e ex S B X c o h nd).1
theorem n_It_rng1 {a : E} (gE_a : GE W k a) : GIt W k (.rng1 a) := fun tg ex S B X c o h nd => by
    unfold okIt at h
    obtain ⟨x, p, xs, ks, q, rfl, h⟩ := onCall_inv h
    obtain ⟨h0, h3, h4⟩ := ba3 h
    obtain ⟨h1, h2⟩ := ba2 h0
    cases onNil_inv h1
    cases of_decide_eq_true h2
    obtain ⟨u, rfl, ht⟩ := on1_inv h4
    obtain ⟨h5, h6⟩ := ba2 ht
    unfold needIt at nd
    obtain ⟨n1, n2⟩ := inC nd
    have e1 : wpIt (.rng1 a) = fun x env M Q => wpE a x env M fun u M1 => u.asI fun n => -(2 ^ 62) ≤ n ∧ n < 2 ^ 62 ∧ Q ⟨fun _ => True, rangeD 0 n.toNat⟩ M1 := by funext x env M Q; rw [wpIt]
    rw [e1]
    exact i_rng1 c.toCOk (gl_ok o h3) n1 h5 (gE_a u S B X c o h6 n2).1
theorem n_It_rng2 {a : E} {b : E} (gE_a : GE W k a) (gE_b : GE W k b) : GIt W k (.rng2 a b) := fun tg ex S B X c o h nd => by
    unfold okIt at h
    obtain ⟨x, p, xs, ks, q, rfl, h⟩ := onCall_inv h
    obtain ⟨h0, h3, h4⟩ := ba3 h
    obtain ⟨h1, h2⟩ := ba2 h0
    cases onNil_inv h1
    cases of_decide_eq_true h2
    obtain ⟨u, v, rfl, ht⟩ := on2_inv h4
    obtain ⟨h01, h7, h8⟩ := ba3 ht
    obtain ⟨h5, h6⟩ := ba2 h01
    unfold needIt at nd
    obtain ⟨n1, n2⟩ := inC nd
    obtain ⟨n2, n3⟩ := in1 n2
    have e1 : wpIt (.rng2 a b) = fun x env M Q => wpE a x env M fun u M1 => wpE b x env M1 fun v M2 => u.asI fun l => v.asI fun h => -(2 ^ 62) ≤ l ∧ l < 2 ^ 62 ∧ -(2 ^ 62) ≤ h ∧ h < 2 ^ 62 ∧ Q ⟨fun _ => True, rangeD l (h - l).toNat⟩ M2 := by funext x env M Q; rw [wpIt]
    rw [e1]
    exact i_rng2 c.toCOk (gl_ok o h3) n1 h5 h6 (gE_a u S B X c o h7 n2).1 (gE_b v S B X c o h8 n3).1
theorem n_It_enum {a : E} (gE_a : GE W k a) : GIt W k (.enum a) := fun tg ex S B X c o h nd => by
    unfold okIt at h
    obtain ⟨es, j, p0, rfl, h⟩ := onTup_inv h
    obtain ⟨x, p, xs, ks, q, rfl, h⟩ := onCall_inv h
    obtain ⟨h0, h3, h4⟩ := ba3 h
    obtain ⟨h1, h2⟩ := ba2 h0
    cases onNil_inv h1
    cases of_decide_eq_true h2
    obtain ⟨u, rfl, ht⟩ := on1_inv h4
    obtain ⟨h5, h6⟩ := ba2 ht
    unfold needIt at nd
    obtain ⟨n1, n2⟩ := inC nd
    have e1 : wpIt (.enum a) = fun x env M Q => wpE a x env M fun u M1 => someK (seqOf M1 u) fun xs => Q ⟨grd u xs, enumD 0 xs⟩ M1 := by funext x env M Q; rw [wpIt]
    rw [e1]
    exact i_enum c.toCOk (gl_ok o h3) n1 h5 (gE_a u S B X c o h6 n2).1
theorem n_It_zip {a : E} {b : E} (gE_a : GE W k a) (gE_b : GE W k b) : GIt W k (.zip a b) := fun tg ex S B X c o h nd => by
    unfold okIt at h
    obtain ⟨es, j, p0, rfl, h⟩ := onTup_inv h
    obtain ⟨x, p, xs, ks, q, rfl, h⟩ := onCall_inv h
    obtain ⟨h0, h3, h4⟩ := ba3 h
    obtain ⟨h1, h2⟩ := ba2 h0
    cases onNil_inv h1
    cases of_decide_eq_true h2
    obtain ⟨u, v, rfl, ht⟩ := on2_inv h4
    obtain ⟨h01, h7, h8⟩ := ba3 ht
    obtain ⟨h5, h6⟩ := ba2 h01
    unfold needIt at nd
    obtain ⟨n1, n2⟩ := inC nd
    obtain ⟨n2, n3⟩ := in1 n2
    have e1 : wpIt (.zip a b) = fun x env M Q => wpE a x env M fun u M1 => wpE b x env M1 fun v M2 => zipK M2 u v fun src => Q src M2 := by funext x env M Q; rw [wpIt]
    rw [e1]
    exact i_zip c.toCOk (gl_ok o h3) n1 h5 h6 (gE_a u S B X c o h7 n2).1 (gE_b v S B X c o h8 n3).1
mutual
theorem gE : ∀ e : E, GE W k e
  | .v i => n_v
  | .c d => n_c
  | .g x d => n_g
  | .bin op fz a b => n_bin (gE a) (gE b)
  | .neg a => n_neg (gE a)
  | .not a => n_not (gE a)
  | .cmp op a b => n_cmp (gE a) (gE b)
  | .chn op op2 a b d => n_chn (gE a) (gE b) (gE d)
  | .and es => n_and (gB es)
  | .or es => n_or (gB es)
  | .ite t a b => n_ite (gE t) (gE a) (gE b)
  | .tup es => n_tup (gEs es)
  | .lst fz es => n_lst (gEs es)
  | .ix a i => n_ix (gE a) (gE i)
  | .sl fz a lo hi => n_sl (gE a) (gEo lo) (gEo hi)
  | .rev fz a => n_rev (gE a)
  | .bi f fz es => n_bi (gEs es)
  | .isi a T cs => n_isi (gE a)
  | .call f ct es => n_call (gEs es)
  | .callk f ct es ks pm => n_callk (gEs es) (gKs ks)
  | .mk C ct es => n_mk (gEs es)
  | .mkk C ct es ks pm => n_mkk (gEs es) (gKs ks)
  | .fld a C f => n_fld (gE a)
  | .prop a C f ct => n_prop (gE a)
  | .meth a C m ct es => n_meth (gE a) (gEs es)
  | .bm m fz a es => n_bm (gE a) (gEs es)
  | .comp fz t it cond elt => n_comp (gIt it) (gCd cond) (gE elt)
  | .dnew => n_dnew
  | .lr1 fz a => n_lr1 (gE a)
  | .lr2 fz a b => n_lr2 (gE a) (gE b)
  | .lz fz a b => n_lz (gE a) (gE b)
  | .ueq C ct a b => n_ueq (gE a) (gE b)
  | .skabs fz a => n_skabs (gE a)
  | .lenset a => n_lenset (gE a)
theorem gEs : ∀ e : Es, GEs W k e
  | .nil  => n_Es_nil
  | .cons e r => n_Es_cons (gE e) (gEs r)
  | .star e r => n_Es_star (gE e) (gEs r)
theorem gB : ∀ e : Es, GB W k e
  | .nil  => n_B_nil
  | .star e r => n_B_star
  | .cons e r => n_B_cons (gE e) (gB r)
theorem gKs : ∀ e : Ks, GKs W k e
  | .nil  => n_Ks_nil
  | .cons nm e r => n_Ks_cons (gE e) (gKs r)
theorem gEo : ∀ e : Eo, GEo W k e
  | .none  => n_Eo_none
  | .some e => n_Eo_some (gE e)
theorem gCd : ∀ e : Eo, GCd W k e
  | .none  => n_Cd_none
  | .some e => n_Cd_some (gE e)
theorem gIt : ∀ e : It, GIt W k e
  | .seq e => n_It_seq (gE e)
  | .rng1 a => n_It_rng1 (gE a)
  | .rng2 a b => n_It_rng2 (gE a) (gE b)
  | .enum a => n_It_enum (gE a)
  | .zip a b => n_It_zip (gE a) (gE b)
end
end
end TL

set_option Elab.async false
set_option linter.all false
set_option maxRecDepth 100000
set_option maxHeartbeats 4000000
/-! Statements, one by one. -/
namespace TL
open PySem PySem.Spec PyProof.Rows L2

def notLc : Expr → Bool
  | .ListComp _ _ _ _ => false
  | .SetComp _ _ _ _ => false
  | .DictComp _ _ _ _ _ => false
  | _ => true
theorem sw_plain {v : Expr} {tg : Option Expr} {l : Nat} {env : Env} (h : notLc v = true) : swapsWith v tg l env = pure false := by
  cases v <;> first | rfl | cases h
def isNm : Expr → Bool
  | .Name _ _ => true
  | _ => false
theorem sw_other {v t : Expr} {l : Nat} {env : Env} (h : isNm t = false) : swapsWith v (some t) l env = pure false := by
  cases v <;> cases t <;> first | rfl | cases h
theorem sw_false {elt : Expr} {gs : List Comprehension} {scope : Scope} {pos py : Pos} {y : Str} {l : Nat} {env : Env} (hk : env.scope.kind = .function)
    (h : (decide (env.scope.names.lookup y = some .local) && (py.line == pos.line) && !(scope.names.any fun (n, k) => n == y && (k == .local || k == .cell))) = false) : swapsWith (.ListComp elt gs scope pos) (some (.Name y py)) l env = pure false := by
  have hb : env.blockKind = .function := by unfold Env.blockKind; rw [hk]; rfl
  have e : (env.kindOf y == some .local) = decide (env.scope.names.lookup y = some .local) := by
    show (env.scope.names.lookup y == some .local) = _
    cases hz : decide (env.scope.names.lookup y = some .local) with
    | true => rw [of_decide_eq_true hz]; rfl
    | false =>
      have := of_decide_eq_false hz
      simpa using this
  unfold swapsWith
  simp only [hb, Expr.pos, e]
  have t : ((ScopeKind.function == ScopeKind.function) && decide (env.scope.names.lookup y = some .local) && (py.line == pos.line) && !(scope.names.any fun (n, k) => n == y && (k == .local || k == .cell))) = false := h
  exact congrArg pure t
def tupTup (t v : Expr) : Bool := match t, v with
  | .Tuple _ _ _, .Tuple _ _ _ => true
  | .List _ _, .Tuple _ _ _ => true
  | _, _ => false
theorem ss_none {t v : Expr} {env : Env} (h : tupTup t v = false) : swappedStores [t] v env = pure none := by
  cases t <;> cases v <;> first | rfl | cases h
/-- what swappedStores answers -/
def ssO (sc : Scope) (ts vs : List Expr) : Option (Option (List Str)) :=
  if !(ts.length == 2 || ts.length == 3) || vs.length != ts.length then some none
  else if (vs.any fun | .Starred .. => true | _ => false) then some none
  else
    let names := ts.filterMap fun
      | .Name id pos => if sc.names.lookup id == some .local && pos.line == (ts.head?.map (·.pos.line)).getD 0 then some id else none
      | _ => none
    if names.length != ts.length || names.eraseDups.length != names.length then some none
    else if vs.all (foldedForSure 8) then some none
    else if vs.all (constantsAlone 8) then none
    else some (some names)
theorem ss_eq {ts vs : List Expr} {k k2 : Nat} {p p2 : Pos} {env : Env} {r : Option (List Str)} (hk : env.scope.kind = .function) (h : ssO env.scope ts vs = some r) : swappedStores [.Tuple ts k p] (.Tuple vs k2 p2) env = pure r := by
  have hb : env.blockKind = .function := by unfold Env.blockKind; rw [hk]; rfl
  unfold ssO at h
  unfold swappedStores
  simp only [hb]
  have t : (ScopeKind.function != ScopeKind.function) = false := rfl
  simp only [t, Bool.or_false]
  by_cases c1 : (!(ts.length == 2 || ts.length == 3) || vs.length != ts.length) = true
  · rw [if_pos c1] at h ⊢; cases h; rfl
  · rw [if_neg c1] at h ⊢
    by_cases c2 : (vs.any fun | .Starred .. => true | _ => false) = true
    · rw [if_pos c2] at h
      cases h
      exact if_pos c2
    · rw [if_neg c2] at h
      refine (if_neg c2).trans ?_
      by_cases c3 : ((ts.filterMap fun
        | .Name id pos => if env.scope.names.lookup id == some .local && pos.line == (ts.head?.map (·.pos.line)).getD 0 then some id else none
        | _ => none).length != ts.length || (ts.filterMap fun
        | .Name id pos => if env.scope.names.lookup id == some .local && pos.line == (ts.head?.map (·.pos.line)).getD 0 then some id else none
        | _ => none).eraseDups.length != (ts.filterMap fun
        | .Name id pos => if env.scope.names.lookup id == some .local && pos.line == (ts.head?.map (·.pos.line)).getD 0 then some id else none
        | _ => none).length) = true
      · have h' := (if_pos c3).symm.trans h
        cases h'
        exact if_pos c3
      · have h' := (if_neg c3).symm.trans h
        refine (if_neg c3).trans ?_
        by_cases c4 : vs.all (foldedForSure 8) = true
        · rw [if_pos c4] at h' ⊢; cases h'; rfl
        · rw [if_neg c4] at h' ⊢
          by_cases c5 : vs.all (constantsAlone 8) = true
          · rw [if_pos c5] at h'; cases h'
          · rw [if_neg c5] at h' ⊢; cases h'; rfl

section
variable {W : Wd} {k : Nat} {B : Bnd} {X : Cx}
def GPS (W : Wd) (B : Bnd) (X : Cx) (st : Stmt) (w : Fin → En → Mm → Prop) : Prop := PS X st (tS W B w)
/-- a value, then the rest -/
theorem tS_bind {p : Wp} {σ : L2.St} {H : Hp} {Q : VK} {env : En} {t : Sta} {Dp : Fin} {D : Ends} {Qp : KD} (hH : t.H = H) (he : Ext B.t0 t) (g : Good W t) (re : REnv W t env σ) (hx : Dp.ex = B.ex) (h : p (Dp.ex env) env t.M Qp) (l : LatE W t Dp D)
    (kk : ∀ d v t', Ext t t' → Ext B.t0 t' → Good W t' → REnv W t' env σ → Rep W t' d v → LatE W t' Dp D → Qp d t'.M → Q v t'.H) : tE W B p σ H Q :=
  tE_bind hH he g re (by rw [← hx]; exact h) fun d v t' e he' g' r' rd q => kk d v t' e he' g' r' rd (l.later e) q
theorem s_pass {pos : Pos} : PS X (.Pass pos) (tS W B (wpS .pass)) := ps_pass.imp fun D σ H ⟨env, t, Dp, hH, he, g, re, hx, h, l⟩ => by
  subst hH; rw [wpS] at h; exact l.nx env σ t Ext.refl g re h
theorem s_brk {pos : Pos} : PS X (.Break pos) (tS W B (wpS .brk)) := ps_break.imp fun D σ H ⟨env, t, Dp, hH, he, g, re, hx, h, l⟩ => by
  subst hH; rw [wpS] at h; exact l.bk env σ t Ext.refl g re h
theorem s_cont {pos : Pos} : PS X (.Continue pos) (tS W B (wpS .cont)) := ps_continue.imp fun D σ H ⟨env, t, Dp, hH, he, g, re, hx, h, l⟩ => by
  subst hH; rw [wpS] at h; exact l.ct env σ t Ext.refl g re h
theorem s_never {st : Stmt} : PS X st (tS W B (wpS .never)) := ps_never.imp fun D σ H ⟨env, t, Dp, hH, he, g, re, hx, h, l⟩ => by
  rw [wpS] at h; exact h
theorem s_retN {pos : Pos} : PS X (.Return none pos) (tS W B (wpS (.ret .none))) := ps_retN.imp fun D σ H ⟨env, t, Dp, hH, he, g, re, hx, h, l⟩ => by
  subst hH; rw [wpS] at h; exact l.rt .non .non t Ext.refl g (by simp only [Rep]) h
theorem s_ret {pos : Pos} {e : E} {v : Expr} (hv : PE X v (tE W B (wpE e))) : PS X (.Return (some v) pos) (tS W B (wpS (.ret (.some e)))) := (ps_ret hv).imp fun D σ H ⟨env, t, Dp, hH, he, g, re, hx, h, l⟩ => by
  subst hH; rw [wpS] at h
  exact tS_bind rfl he g re hx h l fun d v t1 e1 he1 g1 r1 rd l1 h1 => l1.rt d v t1 Ext.refl g1 rd h1
theorem s_ex {pos : Pos} {e : E} {v : Expr} (hv : PE X v (tE W B (wpE e))) (hn : notLc v = true) : PS X (.Expr v pos) (tS W B (wpS (.ex e))) := (ps_expr hv (sw_plain hn)).imp fun D σ H ⟨env, t, Dp, hH, he, g, re, hx, h, l⟩ => by
  subst hH; rw [wpS] at h
  exact tS_bind rfl he g re hx h l fun d v t1 e1 he1 g1 r1 rd l1 h1 => l1.nx env σ t1 Ext.refl g1 r1 h1
theorem as_one {t : Expr} {env : Env} (h : nost t = true) : (assignEach [t] env).map (·.2) = [assign t env] := by rw [as_cons h]; rfl
theorem s_asg {pos : Pos} {tg : Tg} {t v : Expr} {e : E} (ht : PG X t (gT W tg)) (hv : PE X v (tE W B (wpE e))) (hn : nost t = true) (hs : swapsWithSole [t] v pos.line X.env = pure false) (hw : swappedStores [t] v X.env = pure none) :
    PS X (.Assign [t] v pos) (tS W B (wpS (.asg tg e))) := (ps_asg hv ht hs hw (as_one hn)).imp fun D σ H ⟨env, st, Dp, hH, he, g, re, hx, h, l⟩ => by
  subst hH; rw [wpS] at h
  exact tS_bind rfl he g re hx h l fun d v t1 e1 he1 g1 r1 rd l1 h1 => ⟨d, env, t1, _, rfl, g1, r1, rd, h1, fun env' σ' re' _ q => l1.nx env' σ' t1 Ext.refl g1 re' q⟩
theorem s_fld {pos p : Pos} {o v : Expr} {C f : Str} {eo ev : E} (c : COk W k X) (fo : FldOk W C f) (ho : PE X o (tE W B (wpE eo))) (hv : PE X v (tE W B (wpE ev))) : PS X (.Assign [.Attribute o f p] v pos) (tS W B (wpS (.fld eo C f ev))) := by
  obtain ⟨A, o1, o2, o3⟩ := fo.ex
  refine (ps_fld ho hv (sw_other rfl)).imp fun D σ H ⟨env, st, Dp, hH, he, g, re, hx, h, l⟩ => ?_
  subst hH; rw [wpS] at h
  refine tS_bind rfl he g re hx h l fun d v t1 e1 he1 g1 r1 rd l1 h1 => tS_bind rfl he1 g1 r1 hx h1 l1 fun d2 v2 t2 e2 he2 g2 r2 rd2 l2 h2 => ?_
  obtain ⟨q, fs, rfl, em, h3, h4⟩ := insK_inv h2
  have := repR rd2; subst this
  obtain ⟨dx, vs, b1, b2, b3⟩ := ins_at g2 em o1
  have hl := b3.length
  have rv := rd.ext (e2.fst g1)
  refine ⟨q, A, dx, vs, rfl, b1, by rw [c.K]; exact o2, by rw [c.K]; exact o3, by omega, ?_⟩
  have ff : Fst t2 (t2.put q (.ins A dx (L2.putF f v vs)) (.ins C (putF' f d fs))) := Fst.put (g2.nfM em)
  refine l2.nx env σ (t2.put q (.ins A dx (L2.putF f v vs)) (.ins C (putF' f d fs))) (Ext.put em) (g2.put em ⟨A, dx, _, upd_same, o1, ?_, (b3.putF rv).ext ff⟩) (r2.ext ff) h4
  have := length_putF f v vs
  omega
theorem s_sub {pos p : Pos} {o i v : Expr} {eo ei ev : E} (c : COk W k X) (ho : PE X o (tE W B (wpE eo))) (hi : PE X i (tE W B (wpE ei))) (hv : PE X v (tE W B (wpE ev))) (hns : noSl i = true) : PS X (.Assign [.Subscript o i p] v pos) (tS W B (wpS (.sub eo ei ev))) := by
  refine (ps_asg hv (pg_sub ho hi (set_D c) fun w => by cases i <;> first | rfl | cases hns) (show swapsWith v (some (.Subscript o i p)) pos.line X.env = pure false from sw_other rfl) (ss_none (by cases v <;> rfl)) rfl).imp fun D σ H ⟨env, st, Dp, hH, he, g, re, hx, h, l⟩ => ?_
  subst hH; rw [wpS] at h
  refine tS_bind rfl he g re hx h l fun d v t1 e1 he1 g1 r1 rd l1 h1 => tS_bind rfl he1 g1 r1 hx h1 l1 fun d2 v2 t2 e2 he2 g2 r2 rd2 l2 h2 => tS_bind rfl he2 g2 r2 hx h2 l2 fun d3 v3 t3 e3 he3 g3 r3 rd3 l3 h3 => ?_
  exact ⟨d2, d3, d, t3, _, rfl, g3, rd2.ext (e3.fst g2), rd3, (rd.ext (e2.fst g1)).ext (e3.fst g2), h3, fun t4 e4 g4 q => l3.nx env σ t4 e4 g4 (r3.ext (e4.fst g3)) q⟩
theorem s_par2 {pos px py pt : Pos} {x y : Str} {a b : Expr} {es : Es} {i j kt k2 : Nat} {pt2 : Pos} (c : COk W k X) (hi : X.N[i]? = some x) (hj : X.N[j]? = some y) (hij : i ≠ j) (hx : X.env.scope.names.lookup x = some .local) (hy : X.env.scope.names.lookup y = some .local)
    (ha : PA X [a, b] (tA W B (wpEs es))) (hw : swappedStores [.Tuple [.Name x px, .Name y py] kt pt] (.Tuple [a, b] k2 pt2) X.env = pure (some [x, y])) :
    PS X (.Assign [.Tuple [.Name x px, .Name y py] kt pt] (.Tuple [a, b] k2 pt2) pos) (tS W B (wpS (.par [i, j] es))) := by
  refine (ps_par c.calm c.nd hi hj hij hx hy ha hw rfl).imp fun D σ H ⟨env, st, Dp, hH, he, g, re, hx, h, l⟩ => ?_
  subst hH; rw [wpS] at h
  refine tA_bind rfl he g re (by rw [← hx]; exact h) fun ds vs t1 e1 he1 g1 r1 rds h1 => ?_
  obtain ⟨hl, h1⟩ := h1
  match ds, hl, rds, h1 with
  | [d1, d2], _, rds, h1 =>
    obtain ⟨v1, w, rfl, z1, z2⟩ := Reps.cons_inv rds
    obtain ⟨v2, w, rfl, z3, z4⟩ := Reps.cons_inv z2
    cases Reps.nil_inv z4
    exact ⟨v1, v2, rfl, l.nx _ _ t1 e1 g1 ((r1.set i z1).set j z3) h1⟩
theorem s_par3 {pos px py pz pt : Pos} {x y z : Str} {a b d : Expr} {es : Es} {i j m kt k2 : Nat} {pt2 : Pos} (c : COk W k X) (hi : X.N[i]? = some x) (hj : X.N[j]? = some y) (hm : X.N[m]? = some z) (hij : i ≠ j) (him : i ≠ m) (hjm : j ≠ m)
    (hx : X.env.scope.names.lookup x = some .local) (hy : X.env.scope.names.lookup y = some .local) (hz : X.env.scope.names.lookup z = some .local)
    (ha : PA X [a, b, d] (tA W B (wpEs es))) (hw : swappedStores [.Tuple [.Name x px, .Name y py, .Name z pz] kt pt] (.Tuple [a, b, d] k2 pt2) X.env = pure (some [x, y, z])) :
    PS X (.Assign [.Tuple [.Name x px, .Name y py, .Name z pz] kt pt] (.Tuple [a, b, d] k2 pt2) pos) (tS W B (wpS (.par [i, j, m] es))) := by
  refine (ps_par3 c.calm c.nd hi hj hm hij him hjm hx hy hz ha hw rfl).imp fun D σ H ⟨env, st, Dp, hH, he, g, re, hx, h, l⟩ => ?_
  subst hH; rw [wpS] at h
  refine tA_bind rfl he g re (by rw [← hx]; exact h) fun ds vs t1 e1 he1 g1 r1 rds h1 => ?_
  obtain ⟨hl, h1⟩ := h1
  match ds, hl, rds, h1 with
  | [d1, d2, d3], _, rds, h1 =>
    obtain ⟨v1, w, rfl, z1, z2⟩ := Reps.cons_inv rds
    obtain ⟨v2, w, rfl, z3, z4⟩ := Reps.cons_inv z2
    obtain ⟨v3, w, rfl, z5, z6⟩ := Reps.cons_inv z4
    cases Reps.nil_inv z6
    exact ⟨v1, v2, v3, rfl, l.nx _ _ t1 e1 g1 (((r1.set i z1).set j z3).set m z5) h1⟩
theorem s_if {pos : Pos} {t : E} {x : Expr} {as bs : List Stmt} {a b : List S} (hc : PT X x (tB' W B (wpE t))) (ha : PSs X as (tS W B (wpSs a))) (hb : PSs X bs (tS W B (wpSs b))) : PS X (.If x as bs pos) (tS W B (wpS (.ite t a b))) := by
  refine (ps_if hc ha hb).imp fun D σ H ⟨env, st, Dp, hH, he, g, re, hx, h, l⟩ => ?_
  subst hH; rw [wpS] at h
  refine tB_bind (Qp := fun r M1 => if r = true then wpSs a Dp env M1 else wpSs b Dp env M1) rfl he g re (by rw [← hx]; exact h) fun r t1 e1 he1 g1 r1 h1 => ?_
  cases r with
  | true => rw [if_pos rfl] at h1 ⊢; exact ⟨env, t1, Dp, rfl, he1, g1, r1, hx, h1, l.later e1⟩
  | false => rw [if_neg Bool.false_ne_true] at h1 ⊢; exact ⟨env, t1, Dp, rfl, he1, g1, r1, hx, h1, l.later e1⟩
theorem s_while {pos : Pos} {t : E} {x : Expr} {as : List Stmt} {a : List S} (c : BodyB W k B X) (hc : PT X x (tB' W B (wpE t))) (ha : PSs X as (tS W B (wpSs a))) : PS X (.While x as [] pos) (tS W B (wpS (.whl t a))) := by
  refine (ps_while c.po hc ha).imp fun D σ H ⟨env, st, Dp, hH, he, g, re, hx, h, l⟩ => ?_
  subst hH; rw [wpS] at h
  obtain ⟨V, ⟨m0, w0⟩, turn⟩ := h
  refine ⟨fun m σ H => ∃ (env : En) (t1 : Sta), t1.H = H ∧ Ext st t1 ∧ Good W t1 ∧ REnv W t1 env σ ∧ V m env t1.M, ⟨m0, env, st, rfl, Ext.refl, g, re, w0⟩, ?_⟩
  rintro m σ H ⟨env, t1, rfl, e1, g1, r1, w1⟩
  have he1 := he.trans e1
  refine tB_bind (Qp := fun r M1 => if r = true then wpSs a { Dp with nx := fun env M => ∃ m', m' < m ∧ V m' env M, ct := fun env M => ∃ m', m' < m ∧ V m' env M, bk := Dp.nx } env M1 else Dp.nx env M1) rfl he1 g1 r1 (by rw [← hx]; exact turn m env t1.M w1) fun r t2 e2 he2 g2 r2 h2 => ?_
  cases r with
  | true =>
    rw [if_pos rfl] at h2 ⊢
    refine ⟨fun σ' H' => ∃ (env : En) (t3 : Sta), t3.H = H' ∧ Ext st t3 ∧ Good W t3 ∧ REnv W t3 env σ' ∧ ∃ m', m' < m ∧ V m' env t3.M, fun σ' H' ⟨env, t3, z1, z2, z3, z4, m', z5, z6⟩ => ⟨m', z5, env, t3, z1, z2, z3, z4, z6⟩, ?_⟩
    refine ⟨env, t2, { Dp with nx := fun env M => ∃ m', m' < m ∧ V m' env M, ct := fun env M => ∃ m', m' < m ∧ V m' env M, bk := Dp.nx }, rfl, he2, g2, r2, hx, h2, ⟨fun env σ t3 e3 g3 r3 q => ⟨env, t3, rfl, (e1.trans e2).trans e3, g3, r3, q⟩, l.rt.later (e1.trans e2), fun env σ t3 e3 g3 r3 q => l.nx env σ t3 ((e1.trans e2).trans e3) g3 r3 q, fun env σ t3 e3 g3 r3 q => ⟨env, t3, rfl, (e1.trans e2).trans e3, g3, r3, q⟩⟩⟩
  | false =>
    rw [if_neg Bool.false_ne_true] at h2 ⊢
    exact l.nx env σ t2 (e1.trans e2) g2 r2 h2
theorem s_for {pos : Pos} {tg : Tg} {it : It} {t iter : Expr} {as : List Stmt} {a : List S} (c : BodyB W k B X) (hi : PI X t iter (tI W B (wpIt it))) (hg : PG X t (gT W tg)) (ha : PSs X as (tS W B (wpSs a))) (hs : noSet iter = true) : PS X (.For t iter as [] pos) (tS W B (wpS (.for_ tg it a))) := by
  refine (ps_for c.po c.calm hi hg ha (noSet_ok hs)).imp fun dE σ H ⟨env, st, Dp, hH, he, g, re, hx, h, l⟩ => ?_
  subst hH; rw [wpS] at h
  refine ⟨env, st, _, rfl, he, g, re, by rw [← hx]; exact h, fun src t1 J e1 g1 h1 wk => ?_⟩
  let body : D → En → Mm → (En → Mm → Prop) → Prop := fun d env M k => putT tg d env M fun env1 => wpSs a { Dp with nx := k, ct := k, bk := Dp.nx } env1 M
  have h1 : forGo body src.g Dp.nx src.xs env t1.M := h1
  let Pv : Nat → L2.St → Hp → Prop := fun i σ H => ∃ (env : En) (t2 : Sta), t2.H = H ∧ Ext t1 t2 ∧ Good W t2 ∧ REnv W t2 env σ ∧ forGo body src.g Dp.nx (src.xs.drop i) env t2.M
  refine ⟨fun i m σ H => m = src.xs.length - i ∧ i ≤ src.xs.length ∧ Pv i σ H, ⟨src.xs.length, by simp, Nat.zero_le _, env, t1, rfl, Ext.refl, g1, re.ext (e1.fst g), h1⟩, ?_⟩
  rintro i m σ H ⟨rfl, hle, env2, t2, rfl, e2, g2, r2, h2⟩
  by_cases hlt : i < src.xs.length
  · obtain ⟨d, hd⟩ : ∃ d, src.xs[i]? = some d := ⟨src.xs[i], by simp [hlt]⟩
    rw [drop_cons hd] at h2
    obtain ⟨hgd, h2⟩ := h2
    refine .inr ⟨wk.goes i t2 d e2 g2 hgd hd, Pv (i + 1), fun σ' H' p' => ⟨src.xs.length - (i + 1), by omega, rfl, hlt, p'⟩, fun x H' y => ?_⟩
    obtain ⟨t3, rfl, e3, em3, g3, rd3⟩ := wk.yields i t2 x H' d e2 g2 hgd hd y
    have h3 : putT tg d env2 t3.M fun env1 => wpSs a { Dp with nx := fun env' M' => forGo body src.g Dp.nx (src.xs.drop (i + 1)) env' M', ct := fun env' M' => forGo body src.g Dp.nx (src.xs.drop (i + 1)) env' M', bk := Dp.nx } env1 t3.M := by rw [em3]; exact h2
    have e13 := e2.trans e3
    refine ⟨d, env2, t3, _, rfl, g3, r2.ext (e3.fst g2), rd3, h3, fun env' σ' re' so hq => ?_⟩
    exact ⟨env', t3, { Dp with nx := fun env' M' => forGo body src.g Dp.nx (src.xs.drop (i + 1)) env' M', ct := fun env' M' => forGo body src.g Dp.nx (src.xs.drop (i + 1)) env' M', bk := Dp.nx }, rfl, he.trans (e1.trans e13), g3, re', hx, hq, ⟨fun env σ t4 e4 g4 r4 q => ⟨env, t4, rfl, e13.trans e4, g4, r4, q⟩, l.rt.later (e1.trans e13), fun env σ t4 e4 g4 r4 q => l.nx env σ t4 ((e1.trans e13).trans e4) g4 r4 q, fun env σ t4 e4 g4 r4 q => ⟨env, t4, rfl, e13.trans e4, g4, r4, q⟩⟩⟩
  · have ei : i = src.xs.length := by omega
    subst ei
    rw [List.drop_length] at h2
    obtain ⟨hgd, h2⟩ := h2
    exact .inl ⟨wk.stops t2 e2 g2 hgd, l.nx env2 σ t2 (e1.trans e2) g2 r2 h2⟩
theorem ss_nil : PSs X [] (tS W B (wpSs [])) := pss_nil.imp fun D σ H ⟨env, t, Dp, hH, he, g, re, hx, h, l⟩ => by
  subst hH; rw [wpSs] at h; exact l.nx env σ t Ext.refl g re h
theorem ss_cons {st : Stmt} {sts : List Stmt} {s : S} {r : List S} (h1 : PS X st (tS W B (wpS s))) (h2 : PSs X sts (tS W B (wpSs r))) : PSs X (st :: sts) (tS W B (wpSs (s :: r))) := (pss_cons h1 h2).imp fun D σ H ⟨env, t, Dp, hH, he, g, re, hx, h, l⟩ => by
  subst hH; rw [wpSs] at h
  exact ⟨env, t, { Dp with nx := fun env M => wpSs r Dp env M }, rfl, he, g, re, hx, h, ⟨fun env' σ' t' e' g' r' q => ⟨env', t', Dp, rfl, he.trans e', g', r', hx, q, l.later e'⟩, l.rt, l.bk, l.ct⟩⟩
end
end TL

set_option Elab.async false
set_option linter.all false
set_option maxRecDepth 100000
set_option maxHeartbeats 4000000
/-! The check of statements; a def's body. -/
namespace TL
open PySem PySem.Spec PyProof.Rows L2

def onAsg (s : Stmt) (k : Expr → Expr → Bool) : Bool := match s with | .Assign [t] v _ => k t v | _ => false
def onExpr (s : Stmt) (k : Expr → Bool) : Bool := match s with | .Expr v _ => k v | _ => false
def onRet (s : Stmt) (k : Option Expr → Bool) : Bool := match s with | .Return v _ => k v | _ => false
def onIfS (s : Stmt) (k : Expr → List Stmt → List Stmt → Bool) : Bool := match s with | .If c a b _ => k c a b | _ => false
def onWhile (s : Stmt) (k : Expr → List Stmt → Bool) : Bool := match s with | .While c a [] _ => k c a | _ => false
def onFor (s : Stmt) (k : Expr → Expr → List Stmt → Bool) : Bool := match s with | .For t i a [] _ => k t i a | _ => false
def onPass (s : Stmt) : Bool := match s with | .Pass _ => true | _ => false
def onBrk (s : Stmt) : Bool := match s with | .Break _ => true | _ => false
def onCont (s : Stmt) : Bool := match s with | .Continue _ => true | _ => false
def onNm (e : Expr) (k : Str → Pos → Bool) : Bool := match e with | .Name x p => k x p | _ => false
def onComp' (e : Expr) (k : Expr → Expr → Expr → List Expr → Scope → Pos → Bool) : Bool := match e with | .ListComp x [⟨tg, iter, ifs, 0⟩] sc p => k x tg iter ifs sc p | _ => false
section
variable {s : Stmt} {e : Expr}
theorem onAsg_inv {k} (h : onAsg s k = true) : ∃ t v p, s = .Assign [t] v p ∧ k t v = true := by unfold onAsg at h; split at h; exact ⟨_, _, _, rfl, h⟩; cases h
theorem onExpr_inv {k} (h : onExpr s k = true) : ∃ v p, s = .Expr v p ∧ k v = true := by unfold onExpr at h; split at h; exact ⟨_, _, rfl, h⟩; cases h
theorem onRet_inv {k} (h : onRet s k = true) : ∃ v p, s = .Return v p ∧ k v = true := by unfold onRet at h; split at h; exact ⟨_, _, rfl, h⟩; cases h
theorem onIfS_inv {k} (h : onIfS s k = true) : ∃ c a b p, s = .If c a b p ∧ k c a b = true := by unfold onIfS at h; split at h; exact ⟨_, _, _, _, rfl, h⟩; cases h
theorem onWhile_inv {k} (h : onWhile s k = true) : ∃ c a p, s = .While c a [] p ∧ k c a = true := by unfold onWhile at h; split at h; exact ⟨_, _, _, rfl, h⟩; cases h
theorem onFor_inv {k} (h : onFor s k = true) : ∃ t i a p, s = .For t i a [] p ∧ k t i a = true := by unfold onFor at h; split at h; exact ⟨_, _, _, _, rfl, h⟩; cases h
theorem onPass_inv (h : onPass s = true) : ∃ p, s = .Pass p := by unfold onPass at h; split at h; exact ⟨_, rfl⟩; cases h
theorem onBrk_inv (h : onBrk s = true) : ∃ p, s = .Break p := by unfold onBrk at h; split at h; exact ⟨_, rfl⟩; cases h
theorem onCont_inv (h : onCont s = true) : ∃ p, s = .Continue p := by unfold onCont at h; split at h; exact ⟨_, rfl⟩; cases h
theorem onNm_inv {k} (h : onNm e k = true) : ∃ x p, e = .Name x p ∧ k x p = true := by unfold onNm at h; split at h; exact ⟨_, _, rfl, h⟩; cases h
theorem onComp'_inv {k} (h : onComp' e k = true) : ∃ x tg iter ifs sc p, e = .ListComp x [⟨tg, iter, ifs, 0⟩] sc p ∧ k x tg iter ifs sc p = true := by unfold onComp' at h; split at h; exact ⟨_, _, _, _, _, _, rfl, h⟩; cases h
end
/-- name = [..], the comprehension's own store -/
def swB (S : Sit) (y : Str) (py pos : Pos) (scope : Scope) : Bool := decide (S.sc.names.lookup y = some .local) && (py.line == pos.line) && !(scope.names.any fun (n, k) => n == y && (k == .local || k == .cell))
def okSw (S : Sit) (t v : Expr) : Bool := notLc v || !isNm t || onNm t fun y py => onComp' v fun _ _ _ _ scope pos => !swB S y py pos scope
def okSs (S : Sit) (t v : Expr) : Bool := !tupTup t v || onTup t fun ts => onTup v fun vs => decide (ssO S.sc ts vs = some none)
theorem okSw_ok {S : Sit} {X : Cx} (o : SitOk S X) (hk : X.env.scope.kind = .function) {t v : Expr} {l : Nat} (h : okSw S t v = true) : swapsWithSole [t] v l X.env = pure false := by
  show swapsWith v (some t) l X.env = pure false
  unfold okSw at h
  simp only [Bool.or_eq_true] at h
  rcases h with (h | h) | h
  · exact sw_plain h
  · exact sw_other (by simpa using h)
  · obtain ⟨y, py, rfl, h2⟩ := onNm_inv h
    obtain ⟨x, tg, iter, ifs, sc, p, rfl, h3⟩ := onComp'_inv h2
    refine sw_false hk ?_
    rw [o.sc]
    unfold swB at h3
    exact (Bool.not_eq_true' _).mp h3
theorem okSs_ok {S : Sit} {X : Cx} (o : SitOk S X) (hk : X.env.scope.kind = .function) {t v : Expr} (h : okSs S t v = true) : swappedStores [t] v X.env = pure none := by
  unfold okSs at h
  simp only [Bool.or_eq_true] at h
  rcases h with h | h
  · exact ss_none (by simpa using h)
  · obtain ⟨ts, j, p, rfl, h2⟩ := onTup_inv h
    obtain ⟨vs, j2, p2, rfl, h3⟩ := onTup_inv h2
    exact ss_eq hk (by rw [o.sc]; exact of_decide_eq_true h3)
def isCmp : E → Bool
  | .comp _ _ _ _ _ => true
  | _ => false
/-- the store goes with the comprehension -/
def lcSw (S : Sit) : Tg → E → Expr → Expr → Bool
  | .nm i, .comp _ _ _ _ _, t, v => onNm t fun y py => decide (S.N[i]? = some y) && decide (S.sc.names.lookup y = some .local) && onComp' v fun _ _ _ _ scope pos => swB S y py pos scope
  | _, _, _, _ => false
def okPar (S : Sit) (is : List Nat) (es : Es) (t v : Expr) : Bool := onTup t fun ts => onTup v fun vs => match is, ts, vs with
  | [i, j], [.Name x _, .Name y _], [a, b] => decide (S.N[i]? = some x) && decide (S.N[j]? = some y) && decide (i ≠ j) && decide (S.sc.names.lookup x = some .local) && decide (S.sc.names.lookup y = some .local) && decide (ssO S.sc ts vs = some (some [x, y])) && okEs S es [a, b]
  | [i, j, m], [.Name x _, .Name y _, .Name z _], [a, b, c] => decide (S.N[i]? = some x) && decide (S.N[j]? = some y) && decide (S.N[m]? = some z) && decide (i ≠ j) && decide (i ≠ m) && decide (j ≠ m) && decide (S.sc.names.lookup x = some .local) && decide (S.sc.names.lookup y = some .local) && decide (S.sc.names.lookup z = some .local) &&
      decide (ssO S.sc ts vs = some (some [x, y, z])) && okEs S es [a, b, c]
  | _, _, _ => false
mutual
def okS (S : Sit) : TL.S → Stmt → Bool
  | .asg tg e, st => onAsg st fun t v => okE S e v && (lcSw S tg e t v || (nost t && okT S.N S.sc S.fn tg t && okSw S t v && okSs S t v))
  | .par is es, st => onAsg st fun t v => okPar S is es t v
  | .fld o _ f e, st => onAsg st fun t v => onAttr t fun x g => decide (g = f) && okE S o x && okE S e v
  | .sub o i e, st => onAsg st fun t v => onIx t fun x y => noSl y && okE S o x && okE S i y && okE S e v
  | .ex e, st => onExpr st fun v => notLc v && okE S e v
  | .ret .none, st => onRet st fun v => onNone v
  | .ret (.some e), st => onRet st fun v => onSome v fun x => okE S e x
  | .ite t a b, st => onIfS st fun c x y => okE S t c && okSs' S a x && okSs' S b y
  | .whl t a, st => onWhile st fun c x => okE S t c && okSs' S a x
  | .for_ tg it a, st => onFor st fun t i x => okT S.N S.sc S.fn tg t && noSet i && okIt S it t i && okSs' S a x
  | .pass, st => onPass st
  | .brk, st => onBrk st
  | .cont, st => onCont st
  | .never, _ => true
  | .raise_ _ _, _ => false
def okSs' (S : Sit) : List TL.S → List Stmt → Bool
  | [], sts => onNil sts
  | s :: r, sts => onCons sts fun x y => okS S s x && okSs' S r y
end
mutual
def needS : TL.S → List Need
  | .asg _ e => needE e
  | .par _ es => needEs es
  | .fld o C f e => .fld C f :: (needE o ++ needE e)
  | .sub o i e => needE o ++ (needE i ++ needE e)
  | .ex e => needE e
  | .ret e => needEo e
  | .ite t a b => needE t ++ (needSs a ++ needSs b)
  | .whl t a => needE t ++ needSs a
  | .for_ _ it a => needIt it ++ needSs a
  | .pass => []
  | .brk => []
  | .cont => []
  | .never => []
  | .raise_ _ e => needE e
def needSs : List TL.S → List Need
  | [] => []
  | s :: r => needS s ++ needSs r
end
def GS (W : Wd) (k : Nat) (s : TL.S) : Prop := ∀ (st : Stmt) (S : Sit) (B : Bnd) (X : Cx), BodyB W k B X → SitOk S X → X.env.scope.kind = .function → okS S s st = true → (∀ n ∈ needS s, NeedOk W k n) → PS X st (tS W B (wpS s))
def GSs (W : Wd) (k : Nat) (s : List TL.S) : Prop := ∀ (st : List Stmt) (S : Sit) (B : Bnd) (X : Cx), BodyB W k B X → SitOk S X → X.env.scope.kind = .function → okSs' S s st = true → (∀ n ∈ needSs s, NeedOk W k n) → PSs X st (tS W B (wpSs s))
section
variable {W : Wd} {k : Nat}
theorem s_asgLc {B : Bnd} {X : Cx} {S : Sit} {i : Nat} {fz : Bool} {tg : Tg} {it : It} {cond : Eo} {elt : E} {y : Str} {py spos p : Pos} {x tgx iter : Expr} {ifs : List Expr} {scope : Scope} (c : BodyB W k B X) (o : SitOk S X) (hk : X.env.scope.kind = .function)
    (hi : S.N[i]? = some y) (hy : S.sc.names.lookup y = some .local) (hsw : swB S y py p scope = true)
    (hok : okE S (.comp fz tg it cond elt) (.ListComp x [⟨tgx, iter, ifs, 0⟩] scope p) = true) (nd : ∀ n ∈ needE (.comp fz tg it cond elt), NeedOk W k n) :
    PS X (.Assign [.Name y py] (.ListComp x [⟨tgx, iter, ifs, 0⟩] scope p) spos) (tS W B (wpS (.asg (.nm i) (.comp fz tg it cond elt)))) := by
  unfold okE at hok
  have z := sComp (gIt it) (gCd cond) (gE elt) x tgx iter ifs scope S B X c.toCtxB o hok nd
  unfold swB at hsw
  simp only [Bool.and_eq_true, Bool.not_eq_true'] at hsw
  have hyl : X.env.scope.names.lookup y = some .local := by rw [o.sc]; exact hy
  refine (ps_setLc (i := i) c.calm c.nd (by rw [o.N]; exact hi) hyl (sw_true hk hyl hsw.1.2 hsw.2) z.1 z.2.1 z.2.2.1 z.2.2.2.1 z.2.2.2.2.1 z.2.2.2.2.2.1).imp fun dE σ H ⟨env, st, Dp, hH, he, g, re, hx, h, l⟩ => ?_
  subst hH; rw [wpS] at h
  refine comp_imp z.2.2.2.2.2.2 (tS_bind rfl he g re hx h l fun d v t1 e1 he1 g1 r1 rd l1 h1 => ?_)
  rw [putT] at h1
  exact l1.nx _ _ t1 Ext.refl g1 (r1.set i rd) h1
theorem n_asg {tg : Tg} {e : E} : GS W k (.asg tg e) := fun st S B X c o hk h nd => by
  unfold okS at h
  obtain ⟨t, v, p, rfl, h⟩ := onAsg_inv h
  obtain ⟨h1, h2⟩ := ba2 h
  unfold needS at nd
  simp only [Bool.or_eq_true] at h2
  rcases h2 with h2 | h2
  · unfold lcSw at h2
    split at h2
    · rename_i i _ _ _ _ _ _ _
      obtain ⟨y, py, rfl, h3⟩ := onNm_inv h2
      obtain ⟨h4, h5, h6⟩ := ba3 h3
      obtain ⟨x, tgx, iter, ifs, sc, pp, rfl, h7⟩ := onComp'_inv h6
      exact s_asgLc c o hk (of_decide_eq_true h4) (of_decide_eq_true h5) h7 h1 nd
    · cases h2
  · obtain ⟨h3, h6, h7⟩ := ba3 h2
    obtain ⟨h4, h5⟩ := ba2 h3
    exact s_asg (g_tg c.toCOk o.N o.sc o.fn tg t h5) (gE e v S B X c.toCtxB o h1 nd).1 h4 (okSw_ok o hk h6) (okSs_ok o hk h7)
theorem n_par {is : List Nat} {es : Es} : GS W k (.par is es) := fun st S B X c o hk h nd => by
  unfold okS at h
  obtain ⟨t, v, p, rfl, h⟩ := onAsg_inv h
  unfold okPar at h
  obtain ⟨ts, j1, p1, rfl, h'⟩ := onTup_inv h
  obtain ⟨vs, j2, p2, rfl, h''⟩ := onTup_inv h'
  clear h h'
  have h := h''
  clear h''
  unfold needS at nd
  split at h
  · simp only [Bool.and_eq_true, decide_eq_true_eq] at h
    obtain ⟨⟨⟨⟨⟨⟨h1, h2⟩, h3⟩, h4⟩, h5⟩, h6⟩, h7⟩ := h
    exact s_par2 c.toCOk (by rw [o.N]; exact h1) (by rw [o.N]; exact h2) h3 (by rw [o.sc]; exact h4) (by rw [o.sc]; exact h5) (gEs es _ S B X c.toCtxB o h7 nd) (ss_eq hk (by rw [o.sc]; exact h6))
  · simp only [Bool.and_eq_true, decide_eq_true_eq] at h
    obtain ⟨⟨⟨⟨⟨⟨⟨⟨⟨⟨h1, h2⟩, h3⟩, h4⟩, h5⟩, h6⟩, h7⟩, h8⟩, h9⟩, h10⟩, h11⟩ := h
    exact s_par3 c.toCOk (by rw [o.N]; exact h1) (by rw [o.N]; exact h2) (by rw [o.N]; exact h3) h4 h5 h6 (by rw [o.sc]; exact h7) (by rw [o.sc]; exact h8) (by rw [o.sc]; exact h9) (gEs es _ S B X c.toCtxB o h11 nd) (ss_eq hk (by rw [o.sc]; exact h10))
  · cases h
theorem n_sfld {a : E} {C f : Str} {e : E} : GS W k (.fld a C f e) := fun st S B X c o hk h nd => by
  unfold okS at h
  obtain ⟨t, v, p, rfl, h'⟩ := onAsg_inv h
  obtain ⟨x, g, p2, rfl, h''⟩ := onAttr_inv h'
  obtain ⟨h1, h2, h3⟩ := ba3 h''
  cases of_decide_eq_true h1
  unfold needS at nd
  obtain ⟨n1, n2⟩ := inC nd
  obtain ⟨n2, n3⟩ := in1 n2
  exact s_fld c.toCOk n1 (gE a x S B X c.toCtxB o h2 n2).1 (gE e v S B X c.toCtxB o h3 n3).1
theorem n_sub {a i e : E} : GS W k (.sub a i e) := fun st S B X c o hk h nd => by
  unfold okS at h
  obtain ⟨t, v, p, rfl, h'⟩ := onAsg_inv h
  obtain ⟨x, y, p2, rfl, h''⟩ := onIx_inv h'
  obtain ⟨h0, h3, h4⟩ := ba3 h''
  obtain ⟨h1, h2⟩ := ba2 h0
  unfold needS at nd
  obtain ⟨n1, n2⟩ := in1 nd
  obtain ⟨n2, n3⟩ := in1 n2
  exact s_sub c.toCOk (gE a x S B X c.toCtxB o h2 n1).1 (gE i y S B X c.toCtxB o h3 n2).1 (gE e v S B X c.toCtxB o h4 n3).1 h1
theorem n_ex {e : E} : GS W k (.ex e) := fun st S B X c o hk h nd => by
  unfold okS at h
  obtain ⟨v, p, rfl, h⟩ := onExpr_inv h
  obtain ⟨h1, h2⟩ := ba2 h
  unfold needS at nd
  exact s_ex (gE e v S B X c.toCtxB o h2 nd).1 h1
theorem n_ret {eo : Eo} : GS W k (.ret eo) := fun st S B X c o hk h nd => by
  cases eo with
  | none =>
    unfold okS at h
    obtain ⟨v, p, rfl, h'⟩ := onRet_inv h
    cases onNone_inv h'
    exact s_retN
  | some e =>
    unfold okS at h
    obtain ⟨v, p, rfl, h'⟩ := onRet_inv h
    obtain ⟨x, rfl, h''⟩ := onSome_inv h'
    unfold needS needEo at nd
    exact s_ret (gE e x S B X c.toCtxB o h'' nd).1
theorem n_sif {t : E} {a b : List TL.S} (ha : GSs W k a) (hb : GSs W k b) : GS W k (.ite t a b) := fun st S B X c o hk h nd => by
  unfold okS at h
  obtain ⟨z, x, y, p, rfl, h⟩ := onIfS_inv h
  obtain ⟨h1, h2, h3⟩ := ba3 h
  unfold needS at nd
  obtain ⟨n1, n2⟩ := in1 nd
  obtain ⟨n2, n3⟩ := in1 n2
  exact s_if (gE t z S B X c.toCtxB o h1 n1).2 (ha x S B X c o hk h2 n2) (hb y S B X c o hk h3 n3)
theorem n_whl {t : E} {a : List TL.S} (ha : GSs W k a) : GS W k (.whl t a) := fun st S B X c o hk h nd => by
  unfold okS at h
  obtain ⟨z, x, p, rfl, h⟩ := onWhile_inv h
  obtain ⟨h1, h2⟩ := ba2 h
  unfold needS at nd
  obtain ⟨n1, n2⟩ := in1 nd
  exact s_while c (gE t z S B X c.toCtxB o h1 n1).2 (ha x S B X c o hk h2 n2)
theorem n_for {tg : Tg} {it : It} {a : List TL.S} (ha : GSs W k a) : GS W k (.for_ tg it a) := fun st S B X c o hk h nd => by
  unfold okS at h
  obtain ⟨t, i, x, p, rfl, h⟩ := onFor_inv h
  obtain ⟨h0, h3, h4⟩ := ba3 h
  obtain ⟨h1, h2⟩ := ba2 h0
  unfold needS at nd
  obtain ⟨n1, n2⟩ := in1 nd
  exact s_for c (gIt it t i S B X c.toCtxB o h3 n1) (g_tg c.toCOk o.N o.sc o.fn tg t h1) (ha x S B X c o hk h4 n2) h2
theorem n_pass : GS W k .pass := fun st S B X c o hk h nd => by unfold okS at h; obtain ⟨p, rfl⟩ := onPass_inv h; exact s_pass
theorem n_brk : GS W k .brk := fun st S B X c o hk h nd => by unfold okS at h; obtain ⟨p, rfl⟩ := onBrk_inv h; exact s_brk
theorem n_cont : GS W k .cont := fun st S B X c o hk h nd => by unfold okS at h; obtain ⟨p, rfl⟩ := onCont_inv h; exact s_cont
theorem n_never : GS W k .never := fun st S B X c o hk h nd => s_never
theorem n_raise {C : Str} {e : E} : GS W k (.raise_ C e) := fun st S B X c o hk h nd => by unfold okS at h; cases h
theorem n_nil : GSs W k [] := fun st S B X c o hk h nd => by unfold okSs' at h; have e := onNil_inv h; subst e; exact ss_nil
theorem n_cons {s : TL.S} {r : List TL.S} (h1 : GS W k s) (h2 : GSs W k r) : GSs W k (s :: r) := fun st S B X c o hk h nd => by
  unfold okSs' at h
  obtain ⟨x, y, e, h'⟩ := onCons_inv h
  subst e
  obtain ⟨a1, a2⟩ := ba2 h'
  unfold needSs at nd
  obtain ⟨n1, n2⟩ := in1 nd
  exact ss_cons (h1 x S B X c o hk a1 n1) (h2 y S B X c o hk a2 n2)
mutual
theorem gS : ∀ s : TL.S, GS W k s
  | .asg _ _ => n_asg
  | .par _ _ => n_par
  | .fld _ _ _ _ => n_sfld
  | .sub _ _ _ => n_sub
  | .ex _ => n_ex
  | .ret _ => n_ret
  | .ite _ a b => n_sif (gSs a) (gSs b)
  | .whl _ a => n_whl (gSs a)
  | .for_ _ _ a => n_for (gSs a)
  | .pass => n_pass
  | .brk => n_brk
  | .cont => n_cont
  | .never => n_never
  | .raise_ _ _ => n_raise
theorem gSs : ∀ s : List TL.S, GSs W k s
  | [] => n_nil
  | s :: r => n_cons (gS s) (gSs r)
end
/-- names, parameters: as FnScope, by a check -/
def fnScB (N P : List Str) (sc : Scope) : Bool := (match sc.kind with | .function => true | _ => false) && !sc.isCoroutine && !sc.isGenerator && decide N.Nodup && decide (N.take P.length = P) && (P.all fun x => decide (sc.names.lookup x = some .local) || decide (sc.names.lookup x = some .cell)) && (sc.names.all fun y => decide (y.2 ≠ .free))
theorem fnScB_ok {N P : List Str} {sc : Scope} (h : fnScB N P sc = true) : FnScope N P sc := by
  unfold fnScB at h
  simp only [Bool.and_eq_true, Bool.not_eq_true', decide_eq_true_eq, List.all_eq_true, Bool.or_eq_true] at h
  obtain ⟨⟨⟨⟨⟨⟨h1, h2⟩, h3⟩, h4⟩, h5⟩, h6⟩, h7⟩ := h
  refine ⟨?_, h2, h3, h4, h5, h6, h7⟩
  split at h1
  · assumption
  · cases h1
/-- THE RULE: a def whose text fits keeps the promise that its small text keeps -/
theorem fn_rule {x qual : Str} {st : Stmt} {dvs : List V} {kws : List (Str × V)} {f : Addr} {fd : FuncData} {N ps : List Str} {ct : Contract} {body : List TL.S} (F : FunD W.K x qual (defArgs st) (defBody st) (defScope st) dvs kws f fd)
    (hok : (fnScB N ps (defScope st) && okSs' ⟨N, defScope st, fun _ => true⟩ body (defBody st)) = true) (len : ∀ ds M x Q, ct ds M x Q → ds.length = ps.length) (nd : ∀ n ∈ needSs body, NeedOk W k n)
    (hw : ∀ ds M x Q, ct ds M x Q → wpSs body { nx := fun _ M' => TL.fin Q .non M', rt := TL.fin Q, ex := fun _ => x } (startE N.length ds) M) : FnG W (k + 1) f fd ps ct := by
  obtain ⟨h1, h2⟩ := ba2 hok
  have sc := fnScB_ok h1
  exact fnG_of F sc len (fun B X eN eS c => gSs body _ ⟨N, defScope st, fun _ => true⟩ B X c ⟨eN, eS, c.lfn⟩ (by rw [eS]; exact sc.kind) h2 nd) hw
end
end TL

set_option Elab.async false
set_option linter.all false
set_option maxRecDepth 100000
set_option maxHeartbeats 4000000
/-! A law's end: its promise at the script. -/
namespace TL
open PySem PySem.Spec PyProof.Rows L2

theorem reps_vint {W : Wd} {t : Sta} (ns : List Int) : Reps W t (ns.map D.int) (ns.map V.int) := reps_ints ns
/-- the call of the law's def where nothing is tracked but, it may be, the script -/
theorem law_at {P : Program} {w : World} {K : PySem.W.Frag} {mg mb : Str → Option Value} {k : Nat} {fa a : Addr} {fd : FuncData} {x : Str} {ct : Contract} {s : Shared} {ns : List Int} {H : Hp} {Fz : Addr → Prop}
    (hKb : K.In (hidT s.heap H)) (hnb : (hidT s.heap H).Ns mainGlobals mg) (hbn : (hidT s.heap H).Ns builtinsNs mb) (hbb : ∀ x : Str, x ≠ "__name__" → mb x = bootBuiltins x) (hlb : (hidT s.heap H).NoLimit) (hg : s.gens = #[])
    (hok : HOk P w H s.heap) (hr : Room k callerA) (hgd : callerA.guards = some []) (F : FnG ⟨P, w, K, mg, hidT s.heap H⟩ k fa fd [x] ct) (hbind : ∀ (s : Shared) (u : Value), BindsTo s fd ⟨[u], []⟩ [(x, u)])
    (hF : ∀ b, Fz b → ∃ o, H b = some o) (hrep : Rep ⟨P, w, K, mg, hidT s.heap H⟩ ⟨H, fun _ => none, Fz⟩ (.klst (ns.map D.int)) (.ref a)) (hct : ct [.klst (ns.map D.int)] (fun _ => none) noX (fun d _ => d = .bl true)) :
    codeAny (model P w) callerA (.call (.ref fa) ⟨[.ref a], []⟩) (fun r s' => r = .ok (.ret (.bool true)) ∧ ∃ H', s'.os = s.os ∧ AllBare s'.gens ∧ Un [] [] H H' s.heap s'.heap ∧ HOk P w H' s'.heap) s := by
  have e0 : Env0 P w K mg (hidT s.heap H) callerA [] s H := ⟨rfl, ⟨hKb, hnb, ⟨mb, hbn, hbb⟩, hlb⟩, fun b o e => of_hidT e, Nat.le_of_eq (hidT_size _ _), trivial, fun b hb => absurd (show b ∈ ([] : List Addr) from hb) (by simp), hok, .of_eq hg⟩
  let W : Wd := ⟨P, w, K, mg, hidT s.heap H⟩
  let t : Sta := ⟨H, fun _ => none, Fz⟩
  have g : Good W t := ⟨fun b o e => (by cases e), fun b f => ⟨rfl, hF b f⟩⟩
  have l : Lat W t (fun d _ => d = .bl true) (fun v _ => v = .bl true) := fun d v t' _ _ rd q => by subst q; exact repB rd
  refine codeAny_mono (F.run callerA [] s t ⟨[.ref a], []⟩ [.ref a] [.ref a] [.klst (ns.map D.int)] noX (fun d _ => d = .bl true) (fun v _ => v = .bl true) hr hgd e0 (hbind s (.ref a)) (.cons rfl .nil) g (Reps.one hrep) hct l) fun r s' h => ?_
  cases r with
  | error e =>
    obtain ⟨_, _, _, _, _, _, _, _, _, _, _, _, q⟩ := (show L2.CX P w [] H s (XEd W t noX) e s' from h)
    obtain ⟨_, _, _, _, _, _, _, z⟩ := q
    exact z.elim
  | ok fl =>
    cases fl with
    | ret u =>
      obtain ⟨v, H', os, bare, un, hok', r', q⟩ := h
      have q' : v = .bl true := q
      subst q'
      obtain rfl : u = Value.bool true := r'
      exact ⟨rfl, H', os, bare, un, hok'⟩
    | next => exact False.elim h
    | brk => exact False.elim h
    | cont => exact False.elim h
theorem callerA_gd : callerA.guards = some [] := rfl
theorem law_end {P : Program} {w : World} {K : PySem.W.Frag} {mg mb : Str → Option Value} {k : Nat} {fa a : Addr} {fd : FuncData} {x : Str} {ct : Contract} {s : Shared} {vs : List Value} {ns : List Int}
    (KX : K.In s.heap) (hns : s.heap.Ns mainGlobals mg) (hb : s.heap.Ns builtinsNs mb) (hbb : ∀ x : Str, x ≠ "__name__" → mb x = bootBuiltins x) (hlim : s.heap.NoLimit) (hg : s.gens = #[])
    (ha : s.heap.get? a = some { cls := .type "list", data := .seq vs.toArray }) (hi : IntsAre vs ns) (hl : ns.length ≤ sizeLine) (hr : Room k callerA)
    (F : ∀ base : Heap, K.In base → base.Ns mainGlobals mg → FnG ⟨P, w, K, mg, base⟩ k fa fd [x] ct) (hbind : ∀ (s : Shared) (u : Value), BindsTo s fd ⟨[u], []⟩ [(x, u)])
    (hct : ct [.klst (ns.map D.int)] (fun _ => none) noX (fun d _ => d = .bl true)) :
    codeAny (model P w) callerA (.call (.ref fa) ⟨[.ref a], []⟩) (fun r s' => r = .ok (.ret (.bool true)) ∧ OldK s.heap s'.heap ∧ s'.os = s.os ∧ AllBare s'.gens) s := by
  have rv := vals_ints hi
  have lv := hi.length
  -- what is a dict is not the script
  have nd : ∀ {H : Hp}, (∀ b, H b ≠ none → b = a) → ∀ {b : Addr} {o : Obj} {es : Array DictEntry} {ep : Nat}, s.heap.get? b = some o → o.data = .dict es ep → H b = none := fun {H} hA {b o es ep} e d => by
    by_cases q : H b = none
    · exact q
    · have e' := hA b q
      subst e'
      rw [ha] at e; cases e
      cases (show Data.seq vs.toArray _ = Data.dict es ep from d)
  have hn : ∀ {H : Hp}, (∀ b, H b ≠ none → b = a) → ∀ {b : Addr} {m : Str → Option Value}, s.heap.Ns b m → (hidT s.heap H).Ns b m := fun {H} hA {b m} ⟨o, es, ep, e, d, r⟩ => ⟨o, es, ep, hidT_get e (nd hA e d), d, r⟩
  have nl : ∀ {H : Hp}, (∀ b, H b ≠ none → b = a) → (hidT s.heap H).NoLimit := fun {H} hA => let ⟨mc, h1, h2⟩ := hlim; ⟨mc, hn hA h1, h2⟩
  cases hk : K.lookup a with
  | some o =>
    have e := KX a o hk
    rw [ha] at e
    cases e
    let H : Hp := fun _ => none
    have hA : ∀ b, H b ≠ none → b = a := fun b z => absurd rfl z
    have hK : K.In (hidT s.heap H) := fun b o e => hidT_get (KX b o e) rfl
    have rep : Rep ⟨P, w, K, mg, hidT s.heap H⟩ ⟨H, fun _ => none, fun _ => False⟩ (.klst (ns.map D.int)) (.ref a) := by
      simp only [Rep]
      exact ⟨a, ns.map V.int, rfl, .inr ⟨_, vs.toArray, _, hk, rfl, fun _ => rfl, rfl, by rw [List.size_toArray, lv]; exact hl, by simpa using rv⟩, by rw [List.length_map]; exact hl, reps_vint ns⟩
    refine codeAny_mono (law_at (H := H) hK (hn hA hns) (hn hA hb) hbb (nl hA) hg (fun b u z => by cases z) hr callerA_gd (F _ hK (hn hA hns)) hbind (fun b z => z.elim) rep hct) fun r s' ⟨h1, H', h2, h3, h4, h5⟩ => ?_
    exact ⟨h1, OldK.of_keep fun b o e => h4.keep b o e rfl (by simp) (by simp), h2, h3⟩
  | none =>
    let H : Hp := fun b => if b = a then some (.frz { cls := .type "list", data := .seq vs.toArray } (.lst (ns.map V.int))) else none
    have Ha : H a = some (.frz { cls := .type "list", data := .seq vs.toArray } (.lst (ns.map V.int))) := if_pos rfl
    have Hn : ∀ b, b ≠ a → H b = none := fun b z => if_neg z
    have hA : ∀ b, H b ≠ none → b = a := fun b z => by
      by_cases q : b = a
      · exact q
      · exact absurd (Hn b q) z
    have hK : K.In (hidT s.heap H) := fun b o e => hidT_get (KX b o e) (Hn b fun z => by subst z; rw [hk] at e; cases e)
    have rep : Rep ⟨P, w, K, mg, hidT s.heap H⟩ ⟨H, fun _ => none, fun b => b = a⟩ (.klst (ns.map D.int)) (.ref a) := by
      simp only [Rep]
      exact ⟨a, ns.map V.int, rfl, .inl ⟨rfl, .inr ⟨_, Ha⟩⟩, by rw [List.length_map]; exact hl, reps_vint ns⟩
    have ok : HOk P w H s.heap := fun b u z => by
      by_cases q : b = a
      · subst q
        rw [Ha] at z; cases z
        exact ⟨ha, by rw [List.length_map]; exact hl, vs, _, rv, ha⟩
      · rw [Hn b q] at z; cases z
    refine codeAny_mono (law_at (H := H) hK (hn hA hns) (hn hA hb) hbb (nl hA) hg ok hr callerA_gd (F _ hK (hn hA hns)) hbind (fun b z => by subst z; exact ⟨_, Ha⟩) rep hct) fun r s' ⟨h1, H', h2, h3, h4, h5⟩ => ?_
    refine ⟨h1, OldK.of_keep fun b o e => ?_, h2, h3⟩
    by_cases q : b = a
    · subst q
      have z2 := h4.frzs b _ _ Ha
      obtain ⟨e2, _⟩ := h5 b _ z2
      rw [ha] at e; cases e
      exact e2
    · exact h4.keep b o e (Hn b q) (by simp) (by simp)
/-- a law over a head by facts -/
theorem walk_end {l : PySem.W.OpenLaw} {n k : Nat} {q : Program} {loose : List Str} {XP : (Str → Option Value) → Heap → Prop} {YP : World → Heap → Prop} {d : DefRec} {x : Str}
    (hn : l.most = some n) (hn2 : n ≤ sizeLine) (hdf : d.params.defaults = []) (hr : Room k callerA)
    (F : ∀ (w : World) (mg : Str → Option Value) (fa : Addr) (h : Heap), YP w h → h.Ns mainGlobals mg → mg d.name = some (.ref fa) →
      ∃ (K : PySem.W.Frag) (fd : FuncData) (ct : Contract), K.In h ∧ (∀ (s : Shared) (u : Value), BindsTo s fd ⟨[u], []⟩ [(x, u)]) ∧ (∀ ns : List Int, ns.length ≤ n → ct [.klst (ns.map D.int)] (fun _ => none) noX (fun d _ => d = .bl true)) ∧
        ∀ base : Heap, K.In base → base.Ns mainGlobals mg → FnG ⟨l.prog, w, K, mg, base⟩ k fa fd [x] ct) :
    PySem.W.WalkO q loose XP YP l.row.toRowW d [] (fun f vs => PySem.call f vs) := by
  refine Att.attach_call hn hdf fun w s₀ s₁ mg mb fa o pm cd doc a vs ns G Y ho hd hcd hmg hobj hints hlen hg => ?_
  obtain ⟨K, fd, ct, KX, hb, hct, hF⟩ := F w mg fa _ Y G.T.g hmg
  exact law_end KX G.T.g G.T.b G.T.builtins G.T.nolimit hg hobj hints (Nat.le_trans hlen hn2) hr hF hb (hct ns hlen)
end TL

set_option Elab.async false
set_option linter.all false
set_option maxRecDepth 100000
set_option maxHeartbeats 4000000
/-! What the head shows: one check over the written part, the defs. -/
namespace TL
open PySem PySem.Spec PyProof.Rows L2 He

abbrev AlC : Type := Bool × List FnW
def obsC (chk : PySem.W.Frag → Bool) (fn : List He5.DefA) (K : PySem.W.Frag) : AlC := (chk K && fn.all fun d => d.ok K, fn.map fun d => He5.fnA K (d.at_ K))
def valC (fn : List He5.DefA) : AlC := (true, fn.map He5.DefA.val)
def obsCG (n : Nat) (chk : PySem.W.Frag → Bool) (fn : List He5.DefA) (g : Addr → Option Obj) : AlC := obsC chk fn (frG g (He5.asA g n))
def hookC (n : Nat) (chk : PySem.W.Frag → Bool) (fn : List He5.DefA) : PySem.W.Hook where
  α := AlC
  obs := fun s => obsCG n chk fn s.heap.get?
  val := fun _ => valC fn
  says := fun _ h => ∃ K : PySem.W.Frag, K.In h ∧ obsC chk fn K = valC fn
  of := fun _ _ e => ⟨_, frG_in, e⟩
  keeps := fun _ _ _ ⟨K, hK, c⟩ k => ⟨K, PySem.W.Frag.In.keeps hK k, c⟩
theorem obsCG_eq {n : Nat} {chk : PySem.W.Frag → Bool} {fn : List He5.DefA} {g : Addr → Option Obj} {s : Shared} (h : ∀ a, g a = s.heap.get? a) : obsCG n chk fn g = (hookC n chk fn).obs s := by
  have e : g = s.heap.get? := funext h
  rw [e] <;> rfl
theorem says_chk {chk : PySem.W.Frag → Bool} {fn : List He5.DefA} {K : PySem.W.Frag} (c : obsC chk fn K = valC fn) : chk K = true := (ba2 (show (chk K && fn.all fun d => d.ok K) = true from congrArg (fun z : AlC => z.1) c)).1
theorem says_def {chk : PySem.W.Frag → Bool} {fn : List He5.DefA} {K : PySem.W.Frag} (c : obsC chk fn K = valC fn) (i : Nat) {d : He5.DefA} (h : fn[i]? = some d := by rfl) : ∃ fd, FunD K d.name d.qual d.params d.body d.scope (d.dvs K) (d.kws K) (d.at_ K) fd := by
  have c2 := (ba2 (show (chk K && fn.all fun d => d.ok K) = true from congrArg (fun z : AlC => z.1) c)).2
  have e : fn.map (fun d => He5.fnA K (d.at_ K)) = fn.map He5.DefA.val := congrArg (fun z : AlC => z.2) c
  have e2 : (fn.map fun d => He5.fnA K (d.at_ K))[i]? = (fn.map He5.DefA.val)[i]? := by rw [e]
  rw [List.getElem?_map, List.getElem?_map, h] at e2
  exact He5.DefA.funD (Option.some.inj e2) (List.all_eq_true.mp c2 d (List.mem_of_getElem? h))

/-! facts by checks -/
def tupO (o : Obj) (k : Array Value → Bool) : Bool := match o.cls, o.data with
  | .type "tuple", .seq its _ => decide (its.size ≤ sizeLine) && k its
  | _, _ => false
theorem tupO_inv {o : Obj} {k : Array Value → Bool} (h : tupO o k = true) : ∃ its n, o.cls = .type "tuple" ∧ o.data = .seq its n ∧ its.size ≤ sizeLine ∧ k its = true := by
  unfold tupO at h
  split at h
  · rename_i h1 h2
    obtain ⟨a, b⟩ := ba2 h
    exact ⟨_, _, h1, h2, of_decide_eq_true a, b⟩
  · cases h
def onLook (K : PySem.W.Frag) (u : Value) (k : Addr → Obj → Bool) : Bool := match u with
  | .ref a => match K.lookup a with
    | some o => k a o
    | none => false
  | _ => false
theorem onLook_inv {K : PySem.W.Frag} {u : Value} {k : Addr → Obj → Bool} (h : onLook K u k = true) : ∃ a o, u = .ref a ∧ K.lookup a = some o ∧ k a o = true := by
  unfold onLook at h
  split at h
  · split at h
    · rename_i a _ o e; exact ⟨a, o, rfl, e, h⟩
    · cases h
  · cases h
mutual
/-- the value of the written part is that -/
def repC (K : PySem.W.Frag) : D → Value → Bool
  | .non, u => match u with | .none => true | _ => false
  | .bl b, u => match u with | .bool c => decide (b = c) | _ => false
  | .int i, u => match u with | .int j _ => decide (i = j) | _ => false
  | .str s, u => match u with | .str z _ => decide (s = z) && decide (s.length ≤ sizeLine) | _ => false
  | .tup xs, u => onLook K u fun _ o => tupO o fun its => repCs K xs its.toList
  | _, _ => false
def repCs (K : PySem.W.Frag) : List D → List Value → Bool
  | [], us => us.isEmpty
  | d :: ds, us => match us with
    | u :: r => repC K d u && repCs K ds r
    | [] => false
end
section
variable {P : Program} {w : World} {K : PySem.W.Frag} {mg : Str → Option Value} {base : Heap} {k : Nat}
mutual
theorem repC_ok : ∀ {d : D} {u : Value}, repC K d u = true → ∃ v, RelV v u ∧ ∀ t, Rep ⟨P, w, K, mg, base⟩ t d v
  | .non, u, h => by
    unfold repC at h
    split at h
    · exact ⟨.non, rfl, fun t => by simp only [Rep]⟩
    · cases h
  | .bl b, u, h => by
    unfold repC at h
    split at h
    · cases of_decide_eq_true h; exact ⟨.bl b, rfl, fun t => by simp only [Rep]⟩
    · cases h
  | .int i, u, h => by
    unfold repC at h
    split at h
    · cases of_decide_eq_true h; exact ⟨.int i, ⟨_, rfl⟩, fun t => by simp only [Rep]⟩
    · cases h
  | .str s, u, h => by
    unfold repC at h
    split at h
    · obtain ⟨h1, h2⟩ := ba2 h
      cases of_decide_eq_true h1; exact ⟨.str s, ⟨_, rfl⟩, fun t => by simp only [Rep]; exact ⟨trivial, of_decide_eq_true h2⟩⟩
    · cases h
  | .tup xs, u, h => by
    unfold repC at h
    obtain ⟨a, o, rfl, e, h⟩ := onLook_inv h
    obtain ⟨its, n, h1, h2, h3, h4⟩ := tupO_inv h
    obtain ⟨vs, r1, r2⟩ := repCs_ok h4
    refine ⟨.ref a, rfl, fun t => ?_⟩
    simp only [Rep]
    refine ⟨a, vs, rfl, .inr ⟨o, its, n, e, h1, fun z => absurd z (by decide), h2, h3, r1⟩, ?_, r2 t⟩
    rw [r1.length, Array.length_toList]; exact h3
  | .flt _, u, h => by unfold repC at h; cases h
  | .lst _, u, h => by unfold repC at h; cases h
  | .klst _, u, h => by unfold repC at h; cases h
  | .ref _, u, h => by unfold repC at h; cases h
  | .glb _, u, h => by unfold repC at h; cases h
theorem repCs_ok : ∀ {ds : List D} {us : List Value}, repCs K ds us = true → ∃ vs, Vals vs us ∧ ∀ t, Reps ⟨P, w, K, mg, base⟩ t ds vs
  | [], us, h => by
    unfold repCs at h
    cases us with
    | nil => exact ⟨[], .nil, fun t => Reps.nil⟩
    | cons u r => cases h
  | d :: ds, us, h => by
    unfold repCs at h
    split at h
    · obtain ⟨h1, h2⟩ := ba2 h
      obtain ⟨v, r1, r2⟩ := repC_ok h1
      obtain ⟨vs, r3, r4⟩ := repCs_ok h2
      exact ⟨v :: vs, .cons r1 r3, fun t => Reps.cons (r2 t) (r4 t)⟩
    · cases h
end
def onGlob (K : PySem.W.Frag) (x : Str) (k : Value → Bool) : Bool := match PySem.W.nsIn K mainGlobals x with
  | some (some u) => k u
  | _ => false
theorem onGlob_inv {x : Str} {kk : Value → Bool} (h : onGlob K x kk = true) : ∃ u, PySem.W.nsIn K mainGlobals x = some (some u) ∧ kk u = true := by
  unfold onGlob at h
  split at h
  · exact ⟨_, by assumption, h⟩
  · cases h
def freeB (K : PySem.W.Frag) (x : Str) : Bool := eqO (PySem.W.nsIn K mainGlobals x) (some none)
def ownB (K : PySem.W.Frag) (T : Str) (u : Value) (C : Str) : Bool := (Fa.glo C).ok K && (Fa.cls C).ok K && eqO (PySem.W.findIn K (.ref (ga K C)) "__class__") (some (some (.builtin "object.__class__"))) && eqO (PySem.W.specialIn K (.builtin "object.__class__") "__get__") (some (some (.builtin "getset_descriptor.__get__"))) &&
  decide (PySem.W.takesIn K (.builtin "object.__class__") = some true) && decide (PySem.W.mroIn K (ga K C) (.type "object") = some true) && decide (PySem.W.kitOne K (.ref (ga K C)) u = some (decide (C = T)))
def isiC (K : PySem.W.Frag) (T : Str) (cs : List Str) (u : Value) : Bool := (baseTy.all fun n => decide (PySem.W.kitOne K (.type n) u = some (isiB T n))) && cs.all fun C => ownB K T u C
def needB (K : PySem.W.Frag) : Need → Bool
  | .free x => freeB K x
  | .glob x d => onGlob K x fun u => repC K d u
  | .fld C f => (Fa.glo C).ok K && (Fa.cls C).ok K && (Fa.noat C f).ok K
  | .isi T cs => (freeB K T && match bootBuiltins T with
      | some (.type n) => isiC K T cs (.type n)
      | _ => false) || ((Fa.glo T).ok K && isiC K T cs (.ref (ga K T)))
  | _ => true
theorem isiC_ok (X : K.In base) (G : base.Ns mainGlobals mg) {T : Str} {cs : List Str} {c : V} {u : Value} (hl : mg T = some u ∨ (mg T = none ∧ bootBuiltins T = some u)) (hc : ClsV c u) (h : isiC K T cs u = true) : IsiOk ⟨P, w, K, mg, base⟩ T cs c u := by
  obtain ⟨h1, h2⟩ := ba2 h
  refine ⟨hl, hc, fun n hn => of_decide_eq_true (List.all_eq_true.mp h1 n hn), fun C hC => ?_⟩
  have h3 := List.all_eq_true.mp h2 C hC
  unfold ownB at h3
  simp only [Bool.and_eq_true] at h3
  obtain ⟨⟨⟨⟨⟨⟨a1, a2⟩, a3⟩, a4⟩, a5⟩, a6⟩, a7⟩ := h3
  exact ⟨ga K C, glo_ok X G a1, cls_ok a2, eqO_ok a3, eqO_ok a4, of_decide_eq_true a5, of_decide_eq_true a6, of_decide_eq_true a7⟩
/-- a need that asks no def -/
theorem need_free (X : K.In base) (G : base.Ns mainGlobals mg) {x : Str} (h : needB K (.free x) = true) : NeedOk ⟨P, w, K, mg, base⟩ k (.free x) := PySem.W.mg_none_of X G (eqO_ok h)
theorem need_glob (X : K.In base) (G : base.Ns mainGlobals mg) {x : Str} {d : D} (h : needB K (.glob x d) = true) : NeedOk ⟨P, w, K, mg, base⟩ k (.glob x d) := by
  obtain ⟨u, h1, h2⟩ := onGlob_inv h
  obtain ⟨v, r1, r2⟩ := repC_ok h2
  exact ⟨v, u, PySem.W.mg_of X G h1, r1, r2⟩
theorem need_fld (X : K.In base) (G : base.Ns mainGlobals mg) {C f : Str} (h : needB K (.fld C f) = true) : NeedOk ⟨P, w, K, mg, base⟩ k (.fld C f) := by
  obtain ⟨h1, h2, h3⟩ := ba3 h
  exact ⟨⟨ga K C, glo_ok X G h1, cls_ok h2, noat_ok h3⟩⟩
theorem need_isi (X : K.In base) (G : base.Ns mainGlobals mg) {T : Str} {cs : List Str} (h : needB K (.isi T cs) = true) : NeedOk ⟨P, w, K, mg, base⟩ k (.isi T cs) := by
  unfold needB at h
  simp only [Bool.or_eq_true] at h
  rcases h with h | h
  · obtain ⟨h1, h2⟩ := ba2 h
    split at h2
    · rename_i n e
      exact ⟨.ty n, .type n, isiC_ok X G (.inr ⟨PySem.W.mg_none_of X G (eqO_ok h1), e⟩) (.ty n) h2⟩
    · cases h2
  · obtain ⟨h1, h2⟩ := ba2 h
    exact ⟨.ref (ga K T), .ref (ga K T), isiC_ok X G (.inl (glo_ok X G h1)) (.own _) h2⟩
/-- properties, classes, methods -/
def prpA (K : PySem.W.Frag) (C f : Str) : Addr := match PySem.W.findIn K (.ref (ga K C)) f with
  | some (some (.ref p)) => p
  | _ => 0
def prpG (K : PySem.W.Frag) (C f : Str) : Addr := match PySem.W.recIn K (prpA K C f) "property" with
  | some (.ref g :: _) => g
  | _ => 0
def prpB (K : PySem.W.Frag) (C f : Str) : Bool := (Fa.glo C).ok K && (Fa.cls C).ok K && (eqO (PySem.W.findIn K (.ref (ga K C)) f) (some (some (.ref (prpA K C f)))) && eqO (PySem.W.specialIn K (.ref (prpA K C f)) "__get__") (some (some (.builtin "property.__get__"))) && decide (PySem.W.takesIn K (.ref (prpA K C f)) = some true) && (match PySem.W.recIn K (prpA K C f) "property" with
    | some (.ref g :: _) => decide (g = prpG K C f)
    | _ => false))
theorem need_prp (X : K.In base) (G : base.Ns mainGlobals mg) {C f : Str} {fd : FuncData} {ps : List Str} {ct : Contract} {j : Nat} (h : prpB K C f = true) (F : FnG ⟨P, w, K, mg, base⟩ j (prpG K C f) fd ps ct) (hj : j + 1 ≤ k) (hb : Binds K fd ps []) : NeedOk ⟨P, w, K, mg, base⟩ k (.prp C f ct) := by
  obtain ⟨h1, h2, h3⟩ := ba3 h
  obtain ⟨h4, h5, h6⟩ := ba3 h3
  obtain ⟨h7, h8⟩ := ba2 h4
  refine ⟨⟨ga K C, prpA K C f, prpG K C f, fd, ps, j, hj, glo_ok X G h1, cls_ok h2, ⟨eqO_ok h7, eqO_ok h8, of_decide_eq_true h5, ?_⟩, F, hb⟩⟩
  split at h6
  · rename_i g r e
    cases of_decide_eq_true h6
    exact ⟨r, e⟩
  · cases h6
def mkB (K : PySem.W.Frag) (C : Str) : Bool := (Fa.glo C).ok K && (Fa.mkr C).ok K
theorem need_mk (X : K.In base) (G : base.Ns mainGlobals mg) {C : Str} {fd : FuncData} {ps : List Str} {ct : Contract} {j : Nat} (h : mkB K C = true) (F : FnG ⟨P, w, K, mg, base⟩ j (ma K (ga K C) "__init__") fd ps ct) (hj : j + 1 ≤ k) (hb : Binds K fd ps []) : NeedOk ⟨P, w, K, mg, base⟩ k (.mk C ct) := by
  obtain ⟨h1, h2⟩ := ba2 h
  exact ⟨⟨ga K C, _, fd, ps, j, hj, glo_ok X G h1, mkr_ok h2, F, hb⟩⟩
theorem need_mkk (X : K.In base) (G : base.Ns mainGlobals mg) {C : Str} {fd : FuncData} {ps : List Str} {ct : Contract} {j n : Nat} {ks : List Str} {pm : List Nat} (h : mkB K C = true) (F : FnG ⟨P, w, K, mg, base⟩ j (ma K (ga K C) "__init__") fd ps ct) (hj : j + 1 ≤ k) (hb : KwM K fd ps n ks pm) : NeedOk ⟨P, w, K, mg, base⟩ k (.mkk C ct n ks pm) := by
  obtain ⟨h1, h2⟩ := ba2 h
  exact ⟨⟨ga K C, _, fd, ps, j, hj, glo_ok X G h1, mkr_ok h2, F, hb⟩⟩
def mthB (K : PySem.W.Frag) (C m : Str) : Bool := (Fa.glo C).ok K && (Fa.cls C).ok K && (Fa.meth C m).ok K
theorem need_mth (X : K.In base) (G : base.Ns mainGlobals mg) {C m : Str} {fd : FuncData} {ps : List Str} {ct : Contract} {j : Nat} (h : mthB K C m = true) (F : FnG ⟨P, w, K, mg, base⟩ j (ma K (ga K C) m) fd ps ct) (hj : j ≤ k) (hb : Binds K fd ps []) : NeedOk ⟨P, w, K, mg, base⟩ k (.mth C m ct) := by
  obtain ⟨h1, h2, h3⟩ := ba3 h
  exact ⟨⟨ga K C, _, fd, ps, glo_ok X G h1, cls_ok h2, meth_ok h3, F.mono hj, hb⟩⟩
def ueqB (K : PySem.W.Frag) (C : Str) : Bool := mthB K C "__eq__" && PySem.W.notFirst K (ga K C) (.type "tuple")
theorem need_ueq (X : K.In base) (G : base.Ns mainGlobals mg) {C : Str} {fd : FuncData} {ps : List Str} {ct : Contract} {j : Nat} (h : ueqB K C = true) (F : FnG ⟨P, w, K, mg, base⟩ j (ma K (ga K C) "__eq__") fd ps ct) (hj : j ≤ k) (hb : Binds K fd ps []) : NeedOk ⟨P, w, K, mg, base⟩ k (.ueq C ct) := by
  obtain ⟨h0, h4⟩ := ba2 h
  obtain ⟨h1, h2, h3⟩ := ba3 h0
  exact ⟨⟨ga K C, _, fd, ps, glo_ok X G h1, cls_ok h2, meth_ok h3, h4, F.mono hj, hb⟩⟩
theorem need_fn (X : K.In base) (G : base.Ns mainGlobals mg) {x : Str} {fd : FuncData} {ps : List Str} {ct : Contract} {j : Nat} (h : ((Fa.glo x).ok K && (Fa.keep x).ok K) = true) (F : FnG ⟨P, w, K, mg, base⟩ j (ga K x) fd ps ct) (hj : j ≤ k) (hb : Binds K fd ps []) : NeedOk ⟨P, w, K, mg, base⟩ k (.fn x ct) := by
  obtain ⟨h1, h2⟩ := ba2 h
  exact ⟨ga K x, fd, ps, F.mono hj, glo_ok X G h1, keep_ok h2, hb⟩
theorem need_fnk (X : K.In base) (G : base.Ns mainGlobals mg) {x : Str} {fd : FuncData} {ps : List Str} {ct : Contract} {j n : Nat} {ks : List Str} {pm : List Nat} (h : ((Fa.glo x).ok K && (Fa.keep x).ok K) = true) (F : FnG ⟨P, w, K, mg, base⟩ j (ga K x) fd ps ct) (hj : j ≤ k) (hb : KwB K fd ps n ks pm) : NeedOk ⟨P, w, K, mg, base⟩ k (.fnk x ct n ks pm) := by
  obtain ⟨h1, h2⟩ := ba2 h
  exact ⟨ga K x, fd, ps, F.mono hj, glo_ok X G h1, keep_ok h2, hb⟩
end
/-- where a def stands -/
def atG (x : Str) (K : PySem.W.Frag) : Addr := ga K x
def atM (C m : Str) (K : PySem.W.Frag) : Addr := ma K (ga K C) m
def atP (C f : Str) (K : PySem.W.Frag) : Addr := prpG K C f
end TL

set_option Elab.async false
set_option linter.all false
set_option maxRecDepth 100000
set_option maxHeartbeats 4000000
/-! Binding by keywords; lists of needs. -/
namespace TL
open PySem PySem.Spec PyProof.Rows L2
section
variable {K : PySem.W.Frag} {x qual : Str} {params : Arguments} {body : List Stmt} {scope : Scope} {kws : List (Str × V)} {f : Addr} {fd : FuncData} {ps : List Str}
theorem kwB_of (F : FunD K x qual params body scope [] kws f fd) {n : Nat} {ks : List Str} {pm : List Nat} (len : pm.length = ps.length) (lt : ∀ i ∈ pm, i < n + ks.length)
    (h : ∀ (kV doc pmv : Value) (an : Option Addr) (cdv ct : Value) (us ws : List Value), us.length = n → ws.length = ks.length → bindArgs (PySem.W.fnOf x qual params body scope .none kV doc pmv an cdv ct) ⟨us, ks.zip ws⟩ = pure (ps.zip (pm.map fun i => (us ++ ws).getD i .none))) : KwB K fd ps n ks pm := by
  obtain ⟨oc, od, dV, kV, doc, pmv, an, cdv, ct, osl, rfl, _, _, hd, _⟩ := F.ex
  obtain rfl : dV = .none := hd.elim (fun z => z.2) fun z => absurd rfl z.1
  exact ⟨len, lt, fun s us ws _ h1 h2 => .of_eq (h _ _ _ _ _ _ us ws h1 h2)⟩
theorem kwM_of (F : FunD K x qual params body scope [] kws f fd) {n : Nat} {ks : List Str} {pm : List Nat} (len : pm.length + 1 = ps.length) (lt : ∀ i ∈ pm, i < n + ks.length)
    (h : ∀ (kV doc pmv : Value) (an : Option Addr) (cdv ct : Value) (self : Value) (us ws : List Value), us.length = n → ws.length = ks.length → bindArgs (PySem.W.fnOf x qual params body scope .none kV doc pmv an cdv ct) ⟨self :: us, ks.zip ws⟩ = pure (ps.zip (self :: pm.map fun i => (us ++ ws).getD i .none))) : KwM K fd ps n ks pm := by
  obtain ⟨oc, od, dV, kV, doc, pmv, an, cdv, ct, osl, rfl, _, _, hd, _⟩ := F.ex
  obtain rfl : dV = .none := hd.elim (fun z => z.2) fun z => absurd rfl z.1
  exact ⟨len, lt, fun s self us ws _ h1 h2 => .of_eq (h _ _ _ _ _ _ self us ws h1 h2)⟩
end
theorem bind_one {K : PySem.W.Frag} {x qual a : Str} {params : Arguments} {body : List Stmt} {scope : Scope} {kws : List (Str × V)} {f : Addr} {fd : FuncData} (F : FunD K x qual params body scope [] kws f fd)
    (h : ∀ (kV doc pmv : Value) (an : Option Addr) (cdv ct : Value) (us : List Value), us.length = 1 → bindArgs (PySem.W.fnOf x qual params body scope .none kV doc pmv an cdv ct) ⟨us, []⟩ = pure ([a].zip us)) (s : Shared) (u : Value) : BindsTo s fd ⟨[u], []⟩ [(a, u)] := by
  obtain ⟨oc, od, dV, kV, doc, pmv, an, cdv, ct, osl, rfl, _, _, hd, _⟩ := F.ex
  obtain rfl : dV = .none := hd.elim (fun z => z.2) fun z => absurd rfl z.1
  exact .of_eq (h _ _ _ _ _ _ [u] rfl)
/-- the function object is one -/
theorem funD_fd {K : PySem.W.Frag} {x qual x' qual' : Str} {params params' : Arguments} {body body' : List Stmt} {scope scope' : Scope} {dvs dvs' : List V} {kws kws' : List (Str × V)} {f : Addr} {fd fd' : FuncData} (F : FunD K x qual params body scope dvs kws f fd) (F' : FunD K x' qual' params' body' scope' dvs' kws' f fd') : fd = fd' := by
  obtain ⟨_, _, _, _, _, _, _, _, _, _, _, l, _⟩ := F.ex
  obtain ⟨_, _, _, _, _, _, _, _, _, _, _, l', _⟩ := F'.ex
  rw [l] at l'
  cases l'
  rfl
theorem fa_nil {α : Type} {p : α → Prop} : ∀ n ∈ ([] : List α), p n := fun _ h => by cases h
theorem fa_cons {α : Type} {p : α → Prop} {a : α} {l : List α} (h : p a) (t : ∀ n ∈ l, p n) : ∀ n ∈ a :: l, p n := fun n m => by
  rcases List.mem_cons.mp m with rfl | m
  · exact h
  · exact t n m
theorem fa_eq {α : Type} {p : α → Prop} {a b : List α} (e : a = b) (t : ∀ n ∈ b, p n) : ∀ n ∈ a, p n := by rw [e]; exact t
theorem chk_at {l : List Bool} (h : (l.all id) = true) (i : Nat) {b : Bool} (e : l[i]? = some b) : b = true := List.all_eq_true.mp h b (List.mem_of_getElem? e)
end TL

set_option Elab.async false
set_option linter.all false
set_option maxRecDepth 100000
set_option maxHeartbeats 2000000
/-! Loops and comprehensions, plain. -/
namespace TL
open PySem PySem.Spec PyProof.Rows L2
theorem sub_refl {M : Mm} : TL.sub M M := fun _ _ h => h
theorem fin_same {Q : KD} {d : D} {M : Mm} (h : Q d M) : TL.fin Q d M := ⟨M, sub_refl, h⟩
theorem fin_sub {Q : KD} {d : D} {M M1 : Mm} (s : TL.sub M1 M) (h : Q d M1) : TL.fin Q d M := ⟨M1, s, h⟩
theorem sub_put {M M1 : Mm} {a : Addr} {o : PO} (s : TL.sub M M1) (n : M a = none) : TL.sub M (mput M1 a o) := fun b p h => by
  by_cases e : b = a
  · subst e; rw [n] at h; cases h
  · rw [mput_ne e]; exact s b p h
theorem none_sub {M M1 : Mm} {a : Addr} (s : TL.sub M M1) (n : M1 a = none) : M a = none := by
  cases e : M a with
  | none => rfl
  | some o => rw [s a o e] at n; cases n
theorem ne_of_M {M : Mm} {a b : Addr} {o : PO} (h : M a = some o) (n : M b = none) : a ≠ b := fun z => by subst z; rw [h] at n; cases n
abbrev FinOf (x : XD) (Q : KD) : TL.Fin := { nx := fun _ M' => TL.fin Q .non M', rt := TL.fin Q, ex := fun _ => x }
/-- a comprehension that keeps what may change -/
theorem compGo_opt {α : Type} {step : D → List D → Mm → (List D → Mm → Prop) → Prop} {g : Mm → Prop} {M : Mm} {Q : List D → Mm → Prop} (enc : α → D) (f : α → Option D) (hg : g M) :
    ∀ (xs : List α) (acc : List D), (∀ a ∈ xs, ∀ acc (k : List D → Mm → Prop), k (acc ++ (f a).toList) M → step (enc a) acc M k) → Q (acc ++ xs.filterMap f) M → compGo step g (xs.map enc) acc M Q
  | [], acc, _, h => ⟨hg, by simpa using h⟩
  | a :: xs, acc, hs, h => by
    refine ⟨hg, hs a List.mem_cons_self acc _ (compGo_opt enc f hg xs _ (fun b hb => hs b (List.mem_cons_of_mem _ hb)) ?_)⟩
    rw [List.append_assoc]
    have e : (f a).toList ++ xs.filterMap f = (a :: xs).filterMap f := by
      cases q : f a with
      | none => simp [List.filterMap_cons, q]
      | some b => simp [List.filterMap_cons, q]
    rw [e]; exact h
theorem compGo_map {α : Type} {step : D → List D → Mm → (List D → Mm → Prop) → Prop} {g : Mm → Prop} {M : Mm} {Q : List D → Mm → Prop} (enc : α → D) (f : α → D) (hg : g M) (xs : List α)
    (hs : ∀ a ∈ xs, ∀ acc (k : List D → Mm → Prop), k (acc ++ [f a]) M → step (enc a) acc M k) (h : Q (xs.map f) M) : compGo step g (xs.map enc) [] M Q := by
  refine compGo_opt enc (fun a => some (f a)) hg xs [] (fun a ha acc k hk => hs a ha acc k hk) ?_
  simpa [List.filterMap_eq_map] using h
/-- .. that changes things: I by what is left and what came -/
theorem compGo_inv {α : Type} {step : D → List D → Mm → (List D → Mm → Prop) → Prop} {g : Mm → Prop} {Q : List D → Mm → Prop} (enc : α → D) (I : List α → List D → Mm → Prop) (hg : ∀ r acc M, I r acc M → g M) (hn : ∀ acc M, I [] acc M → Q acc M)
    (hs : ∀ a r acc M (k : List D → Mm → Prop), I (a :: r) acc M → (∀ acc' M', I r acc' M' → k acc' M') → step (enc a) acc M k) : ∀ (xs : List α) (acc : List D) (M : Mm), I xs acc M → compGo step g (xs.map enc) acc M Q
  | [], acc, M, h => ⟨hg _ _ _ h, hn _ _ h⟩
  | a :: xs, acc, M, h => ⟨hg _ _ _ h, hs a xs acc M _ h fun acc' M' h' => compGo_inv enc I hg hn hs xs acc' M' h'⟩
/-- a for: I by what is left -/
theorem forGo_inv {α : Type} {body : D → En → Mm → (En → Mm → Prop) → Prop} {g : Mm → Prop} {nx : En → Mm → Prop} (enc : α → D) (I : List α → En → Mm → Prop) (hg : ∀ r env M, I r env M → g M) (hn : ∀ env M, I [] env M → nx env M)
    (hs : ∀ a r env M (k : En → Mm → Prop), I (a :: r) env M → (∀ env' M', I r env' M' → k env' M') → body (enc a) env M k) : ∀ (xs : List α) (env : En) (M : Mm), I xs env M → forGo body g nx (xs.map enc) env M
  | [], env, M, h => ⟨hg _ _ _ h, hn _ _ h⟩
  | a :: xs, env, M, h => ⟨hg _ _ _ h, hs a xs env M _ h fun env' M' h' => forGo_inv enc I hg hn hs xs env' M' h'⟩
theorem sl1 : 1 ≤ sizeLine := by decide
theorem sl2 : 2 ≤ sizeLine := by decide
theorem sl3 : 3 ≤ sizeLine := by decide
theorem sl0 : 0 ≤ sizeLine := Nat.zero_le _
theorem sl_of {n : Nat} (h : n ≤ 1000) : n ≤ sizeLine := by rw [sizeLine_eq]; omega
theorem intsOf_map : ∀ ns : List Int, intsOf (ns.map D.int) = some ns
  | [] => rfl
  | n :: ns => by simp [intsOf, intsOf_map ns]
theorem boolsOf_map : ∀ ns : List Bool, boolsOf (ns.map D.bl) = some ns
  | [] => rfl
  | n :: ns => by simp [boolsOf, boolsOf_map ns]
theorem rangeD_map (lo : Int) : ∀ n : Nat, rangeD lo n = ((List.range n).map fun i : Nat => lo + (i : Int)).map D.int
  | 0 => rfl
  | n + 1 => by
    rw [List.range_succ_eq_map]
    simp only [rangeD, List.map_cons, List.map_map]
    rw [rangeD_map (lo + 1) n]
    simp only [List.map_map, List.cons.injEq]
    refine ⟨by simp, List.map_congr_left fun i _ => ?_⟩
    simp only [Function.comp]
    congr 1
    omega
end TL

set_option Elab.async false
set_option linter.all false
set_option maxRecDepth 100000
set_option maxHeartbeats 2000000
/-! What a repr asks, counted. -/
namespace TL
open PySem PySem.Spec PyProof.Rows L2
mutual
/-- integers of at most twelve digits -/
def D.s12 : D → Bool
  | .int i => decide (i.natAbs < 10 ^ 12)
  | .tup xs => s12s xs
  | .lst xs => s12s xs
  | .klst xs => s12s xs
  | _ => true
def s12s : List D → Bool
  | [] => true
  | x :: r => x.s12 && s12s r
end
mutual
/-- a bound of what it weighs -/
def D.wt : D → Nat
  | .int _ => 40
  | .str s => s.length
  | .tup xs => wts xs
  | .lst xs => wts xs
  | .klst xs => wts xs
  | _ => 0
def wts : List D → Nat
  | [] => 0
  | x :: r => x.wt + 1 + wts r
end
mutual
theorem show12 : ∀ d : D, d.plain = true → d.s12 = true → d.py.leavesShort 13 = true ∧ d.py.weight ≤ d.wt ∧ d.smalls = true
  | .non, _, _ => ⟨rfl, Nat.le_refl _, rfl⟩
  | .bl _, _, _ => ⟨rfl, Nat.le_refl _, rfl⟩
  | .int i, _, h => by
    simp only [D.s12, decide_eq_true_eq] at h
    have e : (10 : Nat) ^ 12 < 2 ^ 40 := by decide
    have lg : i.natAbs.log2 < 40 := by
      by_cases z : i.natAbs = 0
      · rw [z]; decide
      · exact (Nat.log2_lt z).mpr (by omega)
    refine ⟨?_, ?_, ?_⟩
    · simp only [D.py, PyData.leavesShort, decide_eq_true_eq]
      exact PyData.shown_int_le h
    · simp only [D.py, PyData.weight, D.wt]
      split <;> omega
    · simp only [D.smalls, decide_eq_true_eq]; omega
  | .str s, p, _ => by
    refine ⟨?_, Nat.le_refl _, rfl⟩
    have h0 : s.cps.all (· < 0x110000) = true := by simpa only [D.plain, PyData.strOk] using p
    simp only [D.py, PyData.leavesShort, List.all_eq_true, decide_eq_true_eq]
    intro c hc
    have := (Array.all_eq_true_iff_forall_mem.mp h0) c (Array.mem_toList_iff.mp hc)
    have e : (16 : Nat) ^ 8 = 4294967296 := by decide
    simp at this
    omega
  | .tup xs, p, h => by
    simp only [D.plain] at p; simp only [D.s12] at h
    have ih := show12s xs p h
    exact ⟨by simpa only [D.py, PyData.leavesShort] using ih.1, by simpa only [D.py, PyData.weight, D.wt] using ih.2.1, by simpa only [D.smalls] using ih.2.2⟩
  | .lst xs, p, h => by
    simp only [D.plain] at p; simp only [D.s12] at h
    have ih := show12s xs p h
    exact ⟨by simpa only [D.py, PyData.leavesShort] using ih.1, by simpa only [D.py, PyData.weight, D.wt] using ih.2.1, by simpa only [D.smalls] using ih.2.2⟩
  | .klst xs, p, h => by
    simp only [D.plain] at p; simp only [D.s12] at h
    have ih := show12s xs p h
    exact ⟨by simpa only [D.py, PyData.leavesShort] using ih.1, by simpa only [D.py, PyData.weight, D.wt] using ih.2.1, by simpa only [D.smalls] using ih.2.2⟩
  | .flt _, p, _ => by simp [D.plain] at p
  | .ref _, p, _ => by simp [D.plain] at p
  | .glb _, p, _ => by simp [D.plain] at p
theorem show12s : ∀ ds : List D, plains ds = true → s12s ds = true → PyData.leavesShortAll 13 (pys ds) = true ∧ PyData.weightAll (pys ds) ≤ wts ds ∧ smallss ds = true
  | [], _, _ => ⟨rfl, Nat.le_refl _, rfl⟩
  | x :: r, p, h => by
    simp only [plains, Bool.and_eq_true] at p
    simp only [s12s, Bool.and_eq_true] at h
    have a := show12 x p.1 h.1
    have b := show12s r p.2 h.2
    refine ⟨?_, ?_, ?_⟩
    · simp only [pys, PyData.leavesShortAll, Bool.and_eq_true]; exact ⟨a.1, b.1⟩
    · simp only [pys, PyData.weightAll, wts]; omega
    · simp only [smallss, Bool.and_eq_true]; exact ⟨a.2.2, b.2.2⟩
end
theorem show_of {d : D} (p : d.plain = true) (h : d.s12 = true) (w : d.wt ≤ 2 ^ 20) : d.smalls = true ∧ d.py.shown.length ≤ sizeLine := by
  obtain ⟨a, b, c⟩ := show12 d p h
  exact ⟨c, PyData.shown_fits (by decide) (by decide) a (Nat.le_trans b w)⟩
mutual
theorem eqv_self : ∀ d : D, d.plain = true → PyData.eqv d.py d.py = true
  | .non, _ => rfl
  | .bl _, _ => by simp [D.py, PyData.eqv]
  | .int _, _ => by simp [D.py, PyData.eqv]
  | .str _, _ => by simp [D.py, PyData.eqv]
  | .tup xs, p => by simp only [D.plain] at p; simpa only [D.py, PyData.eqv] using eqvs_self xs p
  | .lst xs, p => by simp only [D.plain] at p; simpa only [D.py, PyData.eqv] using eqvs_self xs p
  | .klst xs, p => by simp only [D.plain] at p; simpa only [D.py, PyData.eqv] using eqvs_self xs p
  | .flt _, p => by simp [D.plain] at p
  | .ref _, p => by simp [D.plain] at p
  | .glb _, p => by simp [D.plain] at p
theorem eqvs_self : ∀ ds : List D, plains ds = true → PyData.eqvAll (pys ds) (pys ds) = true
  | [], _ => rfl
  | x :: r, p => by
    simp only [plains, Bool.and_eq_true] at p
    rw [pys, PyData.eqvAll, eqv_self x p.1, eqvs_self r p.2]; rfl
end
/-! lists of one kind -/
theorem plains_map {α : Type} {f : α → D} (h : ∀ a, (f a).plain = true) : ∀ xs : List α, plains (xs.map f) = true
  | [] => rfl
  | x :: xs => by simp only [List.map_cons, plains, h x, plains_map h xs, Bool.and_self]
theorem deeps_map {α : Type} {f : α → D} {n : Nat} (h : ∀ a, (f a).deep ≤ n) : ∀ xs : List α, deeps (xs.map f) ≤ n
  | [] => Nat.zero_le _
  | x :: xs => by simp only [List.map_cons, deeps]; exact Nat.max_le.mpr ⟨h x, deeps_map h xs⟩
theorem s12s_map {α : Type} {f : α → D} : ∀ {xs : List α}, (∀ a ∈ xs, (f a).s12 = true) → s12s (xs.map f) = true
  | [], _ => rfl
  | x :: xs, h => by
    simp only [List.map_cons, s12s, h x List.mem_cons_self, Bool.true_and]
    exact s12s_map fun a ha => h a (List.mem_cons_of_mem _ ha)
theorem wts_map {α : Type} {f : α → D} {n : Nat} : ∀ {xs : List α}, (∀ a ∈ xs, (f a).wt ≤ n) → wts (xs.map f) ≤ xs.length * (n + 1)
  | [], _ => Nat.zero_le _
  | x :: xs, h => by
    have a := h x List.mem_cons_self
    have b := wts_map (f := f) (n := n) (xs := xs) fun a ha => h a (List.mem_cons_of_mem _ ha)
    simp only [List.map_cons, wts, List.length_cons, Nat.add_mul]
    omega
theorem eqK_self {M : Mm} {d : D} {k : Bool → Prop} (xs : List D) (e : d = .tup xs) (p : d.pok = true) (h : k true) : eqK M d d k := by
  subst e
  have pl : (D.tup xs).plain = true := by unfold D.pok at p; simp at p; exact p.1
  show eqP (D.tup xs) (D.tup xs) k
  refine ⟨p, p, ?_⟩
  rw [eqv_self _ pl]; exact h
theorem repr_ok {M : Mm} {xs : List D} {Q : KD} (p : (D.tup xs).pok = true) (h : (D.tup xs).s12 = true) (w : (D.tup xs).wt ≤ 2 ^ 20) (q : Q (.str (D.tup xs).py.shown) M) : reprD (.tup xs) M Q := by
  have pl : (D.tup xs).plain = true := by unfold D.pok at p; simp at p; exact p.1
  have := show_of pl h w
  exact ⟨p, this.1, this.2, q⟩
end TL

namespace K12
open PySem PySem.Spec PyProof.Rows L2 TL
abbrev Contract := TL.Contract
abbrev S := TL.S
/-! rows as trees -/
abbrev Terms := List (Int × Int)
abbrev RowP := Terms × Int
def prD (p : Int × Int) : D := .tup [.int p.1, .int p.2]
def termsD (ts : Terms) : D := .tup (ts.map prD)
def rowD (r : RowP) : D := .tup [termsD r.1, .int r.2]
/-- a literal that may stand -/
def LitOk (l : Int) : Prop := l ≠ 0 ∧ l.natAbs ≤ 100000
def TermsOk : Int → Terms → Prop
  | _, [] => True
  | a, t :: r => 1 ≤ t.1 ∧ LitOk t.2 ∧ a < t.2.natAbs ∧ TermsOk t.2.natAbs r
/-! what the defs do -/
/-- the net of each switch, in the order in which the switches come -/
def aget (n : Terms) (s : Int) : Int := ((n.find? fun p => decide (p.1 = s)).map (·.2)).getD 0
def aput (n : Terms) (s v : Int) : Terms := if n.any (fun p => decide (p.1 = s)) then n.map fun p => if p.1 = s then (p.1, v) else p else n ++ [(s, v)]
def absI (i : Int) : Int := if i < 0 then -i else i
def netStep (n : Terms) (p : Int × Int) : Terms := aput n (absI p.2) (aget n (absI p.2) + if 0 < p.2 then p.1 else -p.1)
def netF (ps : Terms) : Terms := ps.foldl netStep []
def lessF (l : Int) (ps : Terms) : Int := ps.foldl (fun l p => if 0 < p.2 then l else l - p.1) l
def outStep (n : Terms) (a : Terms × Int) (s : Int) : Terms × Int := if 0 < aget n s then (a.1 ++ [(aget n s, s)], a.2) else if aget n s < 0 then (a.1 ++ [(-aget n s, -s)], a.2 - aget n s) else a
def mergedF (ps : Terms) (l : Int) : RowP := (sortI ((netF ps).map (·.1))).foldl (outStep (netF ps)) ([], lessF l ps)
def reachF (r : RowP) (full : List Int) : Int := ((r.1.filter fun t => full.any fun z => decide (z = t.2)).map (·.1)).sum
/-! the promises -/
def ct_is_integer : Contract := fun ds M _ Q => ∃ i, ds = [.int i] ∧ Q (.bl true) M
def ct_is_literal : Contract := fun ds M _ Q => ∃ i, ds = [.int i] ∧ LitOk i ∧ Q (.bl true) M
def ct_is_between : Contract := fun ds M _ Q => ∃ i a b, ds = [.int i, .int a, .int b] ∧ a ≤ i ∧ i ≤ b ∧ Q (.bl true) M
def ct_are_terms : Contract := fun ds M _ Q => ∃ ts, ds = [termsD ts] ∧ TermsOk 0 ts ∧ Q (.bl true) M
def ct_is_row : Contract := fun ds M _ Q => ∃ r, ds = [rowD r] ∧ TermsOk 0 r.1 ∧ Q (.bl true) M
/-! the draws: of a pot nothing is told but its bounds -/
def PotO (o : PO) (c : Int) : Prop := ∃ own base cnt : Int, o = .lst [.int own, .int base, .int cnt] ∧ 0 ≤ own ∧ 0 ≤ base ∧ base < 2 ^ 61 ∧ 0 ≤ cnt ∧ cnt ≤ c
def ct__law_pot : Contract := fun ds M _ Q => ∃ (ns : List Int) (i : Nat), ds = [.klst (ns.map .int), .int i] ∧ i < 64 ∧ ∀ p o, M p = none → PotO o 0 → Q (.ref p) (mput M p o)
def ct__law_take : Contract := fun ds M _ Q => ∃ p n o c, ds = [.ref p, .int n] ∧ M p = some o ∧ PotO o c ∧ c < 1000000 ∧ 0 < n ∧ n < 2 ^ 60 ∧ ∀ r o', 0 ≤ r → r < n → PotO o' (c + 1) → Q (.int r) (mput M p o')
def ct__law_of : Contract := fun ds M _ Q => ∃ p xs o c, ds = [.ref p, .lst xs] ∧ M p = some o ∧ PotO o c ∧ c < 1000000 ∧ xs ≠ [] ∧ xs.length < 1000 ∧ ∀ d o', d ∈ xs → PotO o' (c + 1) → Q d (mput M p o')
def ct__law_cells : Contract := fun ds M _ Q => ∃ (ns : List Int) (m : Int), ds = [.klst (ns.map .int), .int m] ∧ 1 ≤ m ∧ m < 64 ∧ ∀ k : Nat, (k : Int) ≤ m → Q (.lst ((List.range k).map fun i => .int (i : Nat))) M
def ct__law_some : Contract := fun ds M _ Q => ∃ (p : Addr) (ns : List Int) (m : Int) (o : TL.PO) (c : Int), ds = [.ref p, .lst (ns.map .int), .int m] ∧ M p = some o ∧ PotO o c ∧ 0 ≤ m ∧ m ≤ (ns.length : Int) ∧ ns.length ≤ 100 ∧ c + m < 1000000 ∧
  ∀ (q : Addr) (ys rs : List Int) (o' : TL.PO), M q = none → PotO o' (c + m) → (ys.length : Int) = m → (ys ++ rs).Perm ns → Q (.ref q) (mput (mput M p o') q (.lst (ys.map .int)))
/-- what may be walked: finished, or changeable and at hand -/
def SeqAt (M : Mm) (d : D) (xs : List D) : Prop := seqOf M d = some xs
def ct_merged : Contract := fun ds M _ Q => ∃ (d : D) (ps : Terms) (l : Int), ds = [d, .int l] ∧ SeqAt M d (ps.map prD) ∧ ps.length ≤ 60 ∧ Q (rowD (mergedF ps l)) M
def ct__law_merged : Contract := fun ds M _ Q => ∃ (d : D) (ps : Terms) (l : Int), ds = [d, .int l] ∧ SeqAt M d (ps.map prD) ∧ ps.length ≤ 60 ∧ Q (rowD (mergedF ps l)) M

def memB (full : List Int) (s : Int) : Bool := full.any fun z => decide (z = s)
def PairsOk (ps : Terms) : Prop := ∀ p ∈ ps, LitOk p.2
def Sm (i : Int) : Prop := i.natAbs < 2 ^ 20
def fullD (f : List Int) : D := .tup (f.map .int)
/-- each switch one way -/
def FullOk (many : Int) (f : List Int) : Prop := ∀ s, 1 ≤ s → s ≤ many → memB f (-s) = !memB f s
/-- a row over the switches -/
def RowOk (many : Int) (r : RowP) : Prop := TermsOk 0 r.1 ∧ ∀ t ∈ r.1, (t.2.natAbs : Int) ≤ many
def rowsI (many : Int) (rows : List RowP) : PO := .ins "Rows" [("own_switches", .int many), ("own_rows", .tup (rows.map rowD))]
def ct__law_reach : Contract := fun ds M _ Q => ∃ (r : RowP) (f : List Int), ds = [rowD r, fullD f] ∧ r.1.length ≤ 1000 ∧ Q (.int (reachF r f)) M
def ct__law_fulls : Contract := fun ds M _ Q => ∃ m : Int, ds = [.int m] ∧ 1 ≤ m ∧ m ≤ 6 ∧ ∀ fs : List (List Int), (∀ f ∈ fs, FullOk m f) → fs.length ≤ 64 → Q (.lst (fs.map fullD)) M
def ct__law_fits : Contract := fun ds M _ Q => ∃ (rows : List RowP) (f : List Int), ds = [.lst (rows.map rowD), fullD f] ∧ rows.length ≤ 1000 ∧ (∀ r ∈ rows, r.1.length ≤ 1000) ∧ Q (.bl (rows.all fun r => decide (r.2 ≤ reachF r f))) M
def ct_Rows___init__ : Contract := fun ds M _ Q => ∃ (p : Addr) (many : Int) (rows : List RowP), ds = [.ref p, .int many, .tup (rows.map rowD)] ∧ M p = some (.ins "Rows" []) ∧ 0 ≤ many ∧ many ≤ 100000 ∧ rows.length ≤ 1000 ∧ (∀ r ∈ rows, RowOk many r) ∧ Q .non (mput M p (rowsI many rows))
def ct_Rows_switches : Contract := fun ds M _ Q => ∃ (p : Addr) (many : Int) (rows : List RowP), ds = [.ref p] ∧ M p = some (rowsI many rows) ∧ Q (.int many) M
def ct_Rows_rows : Contract := fun ds M _ Q => ∃ (p : Addr) (many : Int) (rows : List RowP), ds = [.ref p] ∧ M p = some (rowsI many rows) ∧ Q (.tup (rows.map rowD)) M
def ct_check_rows : Contract := fun ds M _ Q => ∃ (p : Addr) (many : Int) (rows : List RowP), ds = [.ref p] ∧ M p = some (rowsI many rows) ∧ Q .non M
/-- what is drawn -/
def Drawn (many : Int) (r : RowP) : Prop := RowOk many r ∧ r.1.length ≤ 6 ∧ Sm r.2 ∧ ∀ t ∈ r.1, Sm t.1
def ct__law_drawn : Contract := fun ds M _ Q => ∃ (p : Addr) (o : TL.PO) (c many n : Int), ds = [.ref p, .int many, .int n] ∧ M p = some o ∧ PotO o c ∧ 1 ≤ many ∧ many ≤ 6 ∧ 0 ≤ n ∧ n ≤ 5 ∧ c < 100000 ∧
  ∀ (rows : List RowP) (o' : TL.PO), (rows.length : Int) = n → (∀ r ∈ rows, Drawn many r) → PotO o' (c + 130) → Q (.lst (rows.map rowD)) (mput M p o')
def ct__law_right : Contract := fun ds M _ Q => ∃ (p : Addr) (o : TL.PO) (c : Int), ds = [.ref p] ∧ M p = some o ∧ PotO o c ∧ c < 90000 ∧ ∀ o', PotO o' (c + 1000) → Q (.bl true) (mput M p o')
def ct_law : Contract := fun ds M _ Q => ∃ ns : List Int, ds = [.klst (ns.map .int)] ∧ ns.length ≤ 63 ∧ Q (.bl true) M

/-! ### what is forced: steps, in any sequence -/
def roomF (T : List Int) (r : RowP) : Int := ((r.1.filter fun t => !memB T (-t.2)).map (·.1)).sum - r.2
def openB (T : List Int) (l : Int) : Bool := !(T.any fun z => decide (absI z = absI l))
inductive Rch (rows : List RowP) (T : List Int) : List Int → Prop
  | refl : Rch rows T T
  | step {U : List Int} {l : Int} (h : Rch rows T U) (r : ∃ r ∈ rows, ∃ m, (m, l) ∈ r.1 ∧ roomF U r < m) (o : openB U l = true) : Rch rows T (U ++ [l])
def Conf (rows : List RowP) (T : List Int) : Prop := ∃ r ∈ rows, roomF T r < 0
def Clo (rows : List RowP) (T : List Int) : Prop := ∀ r ∈ rows, 0 ≤ roomF T r ∧ ∀ t ∈ r.1, roomF T r < t.1 → openB T t.2 = false
/-- how a forcing may end -/
def FR (rows : List RowP) (T : List Int) (res : Option (List Int)) : Prop := (res = none ∧ ∃ B, Rch rows T B ∧ Conf rows B) ∨ ∃ A, Rch rows T A ∧ Clo rows A ∧ res = some (sortA A)
def optD : Option (List Int) → D
  | none => .non
  | some A => fullD A
def AbsN (T : List Int) : Prop := (T.map absI).Nodup
/-- literals that may be told: each switch once -/
def LitsOk (many : Int) (T : List Int) : Prop := AbsN T ∧ ∀ l ∈ T, l ≠ 0 ∧ (l.natAbs : Int) ≤ many
/-! ### the engine: its own things -/
structure EA where
  (e a1 a2 a3 a4 a5 a6 a7 a8 a9 : Addr)
def fldsE (E : EA) : List (Str × D) := [("own_rows", .ref E.a1), ("own_room", .ref E.a2), ("own_uses", .ref E.a3), ("own_on", .ref E.a4), ("own_level", .ref E.a5), ("own_reason", .ref E.a6), ("own_trail", .ref E.a7), ("own_starts", .ref E.a8), ("own_queue", .ref E.a9)]
/-- what is owned: at places of its own, apart; what stood before stands -/
structure Own (M0 M : Mm) (objs : List (Addr × TL.PO)) : Prop where
  nd : (objs.map (·.1)).Nodup
  at_ : ∀ p ∈ objs, M p.1 = some p.2
  fr : ∀ p ∈ objs, M0 p.1 = none
  sub : TL.sub M0 M
def usD (us : List (Int × Addr)) : List (Key × D) := us.map fun p => (.inl p.1, .ref p.2)
def onD (tr : List Int) : List (Key × D) := tr.map fun l => (.inl (absI l), .int l)
def usO (us : List (Int × Addr)) (uc : Int → Terms) : List (Addr × TL.PO) := us.map fun p => (p.2, .lst ((uc p.1).map prD))
def engO (E : EA) (rows : List RowP) (room : List Int) (us : List (Int × Addr)) (uc : Int → Terms) (on : List Int) (lv rs : List (Key × D)) (tr q : List Int) : List (Addr × TL.PO) := (E.e, .ins "Engine" (fldsE E)) :: (E.a1, .lst (rows.map rowD)) :: (E.a2, .lst (room.map .int)) :: (E.a3, .dct (usD us)) :: (E.a4, .dct (onD on)) ::
  (E.a5, .dct lv) :: (E.a6, .dct rs) :: (E.a7, .lst (tr.map .int)) :: (E.a8, .lst [.int 0]) :: (E.a9, .lst (q.map .int)) :: usO us uc
/-- where a literal comes: place, weight -/
def usesF (l : Int) : Int → List RowP → Terms
  | _, [] => []
  | i, r :: rs => ((r.1.filter fun t => decide (t.2 = l)).map fun t => (i, t.1)) ++ usesF l (i + 1) rs
structure EngAt (M0 M : Mm) (e : Addr) (rows : List RowP) (tr q : List Int) : Prop where
  ex : ∃ E us lv rs, e = E.e ∧ Own M0 M (engO E rows (rows.map (roomF tr)) us (fun l => usesF l 0 rows) tr lv rs tr q) ∧ (us.map (·.1)).Nodup ∧ (∀ l, l ∉ us.map (·.1) → usesF l 0 rows = []) ∧ us.length ≤ 8 * rows.length ∧ lv.length ≤ tr.length ∧ rs.length ≤ tr.length
  abs : AbsN tr
/-- of such a size -/
structure EngB (rows : List RowP) (tr q : List Int) : Prop where
  lrows : rows.length ≤ 8
  row : ∀ r ∈ rows, r.1.length ≤ 8 ∧ RowOk 8 r
  ltr : tr.length ≤ 8
  lq : q.length ≤ 2000
def ct_Engine_is_off : Contract := fun ds M _ Q => ∃ (M0 : Mm) (E : EA) (rows : List RowP) (room : List Int) (us : List (Int × Addr)) (uc : Int → Terms) (on : List Int) (lv rs : List (Key × D)) (tr q : List Int) (l : Int), ds = [.ref E.e, .int l] ∧ Own M0 M (engO E rows room us uc on lv rs tr q) ∧ AbsN on ∧ Q (.bl (memB on (-l))) M
def ct_Engine_is_open : Contract := fun ds M _ Q => ∃ (M0 : Mm) (E : EA) (rows : List RowP) (room : List Int) (us : List (Int × Addr)) (uc : Int → Terms) (on : List Int) (lv rs : List (Key × D)) (tr q : List Int) (l : Int), ds = [.ref E.e, .int l] ∧ Own M0 M (engO E rows room us uc on lv rs tr q) ∧ Q (.bl (openB on l)) M
def ct_Engine_levels : Contract := fun ds M _ Q => ∃ (M0 : Mm) (E : EA) (rows : List RowP) (room : List Int) (us : List (Int × Addr)) (uc : Int → Terms) (on : List Int) (lv rs : List (Key × D)) (tr q : List Int), ds = [.ref E.e] ∧ Own M0 M (engO E rows room us uc on lv rs tr q) ∧ Q (.int 0) M
def ct_Engine_trail : Contract := fun ds M _ Q => ∃ (M0 : Mm) (E : EA) (rows : List RowP) (room : List Int) (us : List (Int × Addr)) (uc : Int → Terms) (on : List Int) (lv rs : List (Key × D)) (tr q : List Int), ds = [.ref E.e] ∧ Own M0 M (engO E rows room us uc on lv rs tr q) ∧ Q (.lst (tr.map .int)) M
def ct_Engine_have : Contract := fun ds M _ Q => ∃ (M0 : Mm) (e : Addr) (rows : List RowP) (r : RowP) (tr q : List Int), ds = [.ref e, rowD r] ∧ EngAt M0 M e rows tr q ∧ EngB (rows ++ [r]) tr q ∧ q.length < 600 ∧ ∀ M', EngAt M0 M' e (rows ++ [r]) tr (q ++ [(rows.length : Int)]) → Q .non M'
def ct_Engine_put_on : Contract := fun ds M _ Q => ∃ (M0 : Mm) (e : Addr) (rows : List RowP) (tr q : List Int) (l : Int) (d : D), ds = [.ref e, .int l, d] ∧ EngAt M0 M e rows tr q ∧ EngB rows (tr ++ [l]) (q ++ (usesF (-l) 0 rows).map (·.1)) ∧ openB tr l = true ∧ l ≠ 0 ∧
  ∀ M', EngAt M0 M' e rows (tr ++ [l]) (q ++ (usesF (-l) 0 rows).map (·.1)) → Q .non M'
def ct_Engine___init__ : Contract := fun ds M _ Q => ∃ (M0 : Mm) (e : Addr) (rows : List RowP), ds = [.ref e, .tup (rows.map rowD)] ∧ M0 e = none ∧ M = mput M0 e (.ins "Engine" []) ∧ EngB rows [] [] ∧ ∀ M', EngAt M0 M' e rows [] ((List.range rows.length).map fun i : Nat => (i : Int)) → Q .non M'
/-- what is not in the queue is settled -/
def Sett (rows : List RowP) (tr q : List Int) : Prop := ∀ (i : Nat) (r : RowP), rows[i]? = some r → (i : Int) ∉ q → 0 ≤ roomF tr r ∧ ∀ t ∈ r.1, roomF tr r < t.1 → openB tr t.2 = false
def ct_Engine_force : Contract := fun ds M _ Q => ∃ (M0 : Mm) (e : Addr) (rows : List RowP) (tr q : List Int) (many : Int), ds = [.ref e] ∧ EngAt M0 M e rows tr q ∧ EngB rows tr q ∧ many ≤ 8 ∧ (∀ r ∈ rows, RowOk many r) ∧ LitsOk many tr ∧ q.length ≤ 400 ∧ (∀ i ∈ q, 0 ≤ i ∧ i < rows.length) ∧ Sett rows tr q ∧
  (∀ A M', Rch rows tr A → Clo rows A → EngAt M0 M' e rows A [] → Q .non M') ∧ ∀ A M' i, Rch rows tr A → Conf rows A → TL.sub M0 M' → Q (.int i) M'
/-! ### the defs that force -/
def ct_are_literals : Contract := fun ds M _ Q => ∃ (p : Addr) (many : Int) (rows : List RowP) (T : List Int), ds = [.ref p, fullD T] ∧ M p = some (rowsI many rows) ∧ LitsOk many T ∧ T.length ≤ 8 ∧ many ≤ 8 ∧ Q (.bl true) M
def ct_check_literals : Contract := fun ds M _ Q => ∃ (p : Addr) (many : Int) (rows : List RowP) (T : List Int), ds = [.ref p, fullD T] ∧ M p = some (rowsI many rows) ∧ LitsOk many T ∧ T.length ≤ 8 ∧ many ≤ 8 ∧ Q .non M
/-- rows and literals that may be asked about -/
def AskOk (many : Int) (rows : List RowP) (T : List Int) : Prop := many ≤ 6 ∧ rows.length ≤ 5 ∧ (∀ r ∈ rows, RowOk many r ∧ r.1.length ≤ 6) ∧ LitsOk many T ∧ T.length ≤ 6
def ct_forced_by : Contract := fun ds M _ Q => ∃ (p : Addr) (many : Int) (rows : List RowP) (T : List Int), ds = [.ref p, fullD T] ∧ M p = some (rowsI many rows) ∧ AskOk many rows T ∧ ∀ res, FR rows T res → Q (optD res) M
def ct_forced : Contract := fun ds M _ Q => ∃ (p : Addr) (many : Int) (rows : List RowP) (T : List Int), ds = [.ref p, fullD T] ∧ M p = some (rowsI many rows) ∧ AskOk many rows T ∧ ∀ res, FR rows T res → Q (optD res) M
def moreF (T : List Int) : Option (List Int) → Option (List Int)
  | none => none
  | some A => some (A.filter fun z => !memB T z)
def ct_forced_more : Contract := fun ds M _ Q => ∃ (p : Addr) (many : Int) (rows : List RowP) (T : List Int), ds = [.ref p, fullD T] ∧ M p = some (rowsI many rows) ∧ AskOk many rows T ∧ ∀ res, FR rows T res → Q (optD (moreF T res)) M
def ct__law_forced : Contract := fun ds M _ Q => ∃ (many : Int) (rows : List RowP) (T : List Int), ds = [.lst (rows.map rowD), fullD T] ∧ AskOk many rows T ∧ ∀ res, FR rows T res → Q (optD res) M
def ir_is_integer : List S := [(.ret (.some (.and (.cons (.isi (.v 0) "int" []) (.cons (.not (.isi (.v 0) "bool" [])) .nil)))))]
def ir_Rows_switches : List S := [(.ret (.some (.fld (.v 0) "Rows" "own_switches")))]
def ir_Rows_rows : List S := [(.ret (.some (.fld (.v 0) "Rows" "own_rows")))]
def ir_check_rows : List S := [(.ite (.not (.isi (.v 0) "Rows" ["Rows"])) [.never] [])]
def ir_Engine_is_off : List S := [(.ret (.some (.cmp .Eq (.bm .get true (.fld (.v 0) "Engine" "own_on") (.cons (.bi .abs true (.cons (.v 1) .nil)) .nil)) (.bin .Sub true (.c (.int 0)) (.v 1)))))]
def ir_Engine_is_open : List S := [(.ret (.some (.cmp .NotIn (.bi .abs true (.cons (.v 1) .nil)) (.fld (.v 0) "Engine" "own_on"))))]
def ir_Engine_levels : List S := [(.ret (.some (.bin .Sub true (.bi .len true (.cons (.fld (.v 0) "Engine" "own_starts") .nil)) (.c (.int 1)))))]
def ir_Engine_trail : List S := [(.ret (.some (.bi .list true (.cons (.fld (.v 0) "Engine" "own_trail") .nil))))]
def ir__law_pot : List S := [(.asg (.nm 2) (.ite (.cmp .Lt (.v 1) (.bi .len true (.cons (.v 0) .nil))) (.ix (.v 0) (.v 1)) (.bin .Add true (.bin .Mult true (.c (.int 947)) (.v 1)) (.c (.int 691))))), (.asg (.nm 3) (.bin .Mult true (.bin .Mod true (.bi .int true (.cons (.bi .abs true (.cons (.v 2) .nil)) .nil)) (.bin .Pow true (.bin .Pow true (.c (.int 10)) (.c (.int 60))) (.c (.int 5)))) (.bi .int true (.cons (.cmp .GtE (.bi .abs true (.cons (.v 2) .nil)) (.bin .Pow true (.c (.int 10)) (.c (.int 18)))) .nil)))), (.asg (.nm 4) (.bin .Mod true (.bi .int true (.cons (.v 2) .nil)) (.c (.int 2305843009213693951)))), (.ret (.some (.lst false (.cons (.v 3) (.cons (.bin .Mod true (.bi .int true (.cons (.bin .Add true (.bin .Add true (.bin .Mult true (.v 4) (.c (.int 72109))) (.bin .Mult true (.bin .Mult true (.c (.int 9901)) (.v 1)) (.v 1))) (.c (.int 1231))) .nil)) (.c (.int 2305843009213693921))) (.cons (.c (.int 0)) .nil))))))]
def ir__law_take : List S := [(.ite (.cmp .Gt (.ix (.v 0) (.c (.int 0))) (.c (.int 0))) [(.asg (.nm 4) (.bin .Mod true (.bi .int true (.cons (.ix (.v 0) (.c (.int 0))) .nil)) (.v 1))), (.sub (.v 0) (.c (.int 0)) (.bin .FloorDiv true (.ix (.v 0) (.c (.int 0))) (.v 1))), (.ret (.some (.v 4)))] []), (.sub (.v 0) (.c (.int 2)) (.bin .Add true (.ix (.v 0) (.c (.int 2))) (.c (.int 1)))), (.asg (.nm 2) (.ix (.lst true (.cons (.c (.int 2147483647)) (.cons (.c (.int 2147483629)) (.cons (.c (.int 2147483587)) (.cons (.c (.int 2147483579)) (.cons (.c (.int 2147483563)) .nil)))))) (.bin .Mod true (.bi .int true (.cons (.ix (.v 0) (.c (.int 2))) .nil)) (.c (.int 5))))), (.asg (.nm 3) (.bin .Mod true (.bi .int true (.cons (.bin .Pow true (.bi .int true (.cons (.bin .Add true (.bin .Add true (.ix (.v 0) (.c (.int 1))) (.bin .Mult true (.bin .Mult true (.c (.int 92003)) (.ix (.v 0) (.c (.int 2)))) (.ix (.v 0) (.c (.int 2))))) (.c (.int 383))) .nil)) (.c (.int 3))) .nil)) (.v 2))), (.asg (.nm 3) (.bin .Mod true (.bi .int true (.cons (.bin .Mult true (.v 3) (.bin .Add true (.bin .Mod true (.bi .int true (.cons (.v 3) .nil)) (.c (.int 11047))) (.bin .Mult true (.c (.int 461)) (.ix (.v 0) (.c (.int 2)))))) .nil)) (.c (.int 2305843009213693907)))), (.ret (.some (.bin .Mod true (.bi .int true (.cons (.bin .FloorDiv true (.v 3) (.c (.int 389))) .nil)) (.v 1))))]
def ir__law_cells : List S := [(.ret (.some (.lr1 true (.bi .max2 true (.cons (.c (.int 1)) (.cons (.bi .min2 true (.cons (.v 1) (.cons (.bi .len true (.cons (.v 0) .nil)) .nil))) .nil))))))]
def ir__law_merged : List S := [(.asg (.nm 2) .dnew), (.for_ (.tp [(.nm 5), (.nm 6)]) (.seq (.v 0)) [(.sub (.v 2) (.bi .abs true (.cons (.v 6) .nil)) (.bin .Add true (.bm .get true (.v 2) (.cons (.bi .abs true (.cons (.v 6) .nil)) (.cons (.c (.int 0)) .nil))) (.ite (.cmp .Gt (.v 6) (.c (.int 0))) (.v 5) (.neg (.v 5))))), (.asg (.nm 1) (.bin .Sub true (.v 1) (.ite (.cmp .Gt (.v 6) (.c (.int 0))) (.c (.int 0)) (.v 5))))]), (.asg (.nm 3) (.lst false .nil)), (.for_ (.nm 4) (.seq (.bi .sorted true (.cons (.v 2) .nil))) [(.ite (.cmp .Gt (.ix (.v 2) (.v 4)) (.c (.int 0))) [(.ex (.bm .append true (.v 3) (.cons (.tup (.cons (.bi .int true (.cons (.ix (.v 2) (.v 4)) .nil)) (.cons (.bi .int true (.cons (.v 4) .nil)) .nil))) .nil)))] []), (.ite (.cmp .Lt (.ix (.v 2) (.v 4)) (.c (.int 0))) [(.ex (.bm .append true (.v 3) (.cons (.tup (.cons (.bi .int true (.cons (.neg (.ix (.v 2) (.v 4))) .nil)) (.cons (.bi .int true (.cons (.neg (.v 4)) .nil)) .nil))) .nil))), (.asg (.nm 1) (.bin .Sub true (.v 1) (.ix (.v 2) (.v 4))))] [])]), (.ret (.some (.tup (.cons (.bi .tuple true (.cons (.v 3) .nil)) (.cons (.bi .int true (.cons (.v 1) .nil)) .nil)))))]
def ir__law_reach : List S := [(.ret (.some (.bi .sum true (.cons (.comp true (.tp [(.nm 2), (.nm 3)]) (.seq (.ix (.v 0) (.c (.int 0)))) (.some (.cmp .In (.v 3) (.v 1))) (.v 2)) .nil))))]
def ir__law_fulls : List S := [(.asg (.nm 1) (.lst true (.cons (.tup .nil) .nil))), (.for_ (.nm 2) (.rng2 (.c (.int 1)) (.bin .Add true (.v 0) (.c (.int 1)))) [(.asg (.nm 1) (.bi .sum2 true (.cons (.comp true (.nm 3) (.seq (.v 1)) .none (.lst true (.cons (.bin .Add true (.v 3) (.tup (.cons (.neg (.v 2)) .nil))) (.cons (.bin .Add true (.v 3) (.tup (.cons (.v 2) .nil))) .nil)))) (.cons (.lst true .nil) .nil))))]), (.ret (.some (.v 1)))]
def ir__law_forced : List S := [(.asg (.tp [(.nm 2), (.nm 3)]) (.tup (.cons (.bi .list false (.cons (.v 1) .nil)) (.cons (.c (.bl true)) .nil)))), (.whl (.v 3) [(.asg (.nm 3) (.c (.bl false))), (.for_ (.tp [(.nm 4), (.nm 5)]) (.seq (.rev true (.v 0))) [(.asg (.nm 6) (.bin .Sub true (.bi .sum true (.cons (.comp true (.tp [(.nm 7), (.nm 8)]) (.seq (.v 4)) (.some (.cmp .NotIn (.neg (.v 8)) (.v 2))) (.v 7)) .nil)) (.v 5))), (.ite (.cmp .Lt (.v 6) (.c (.int 0))) [(.ret (.some (.c .non)))] []), (.for_ (.tp [(.nm 7), (.nm 8)]) (.seq (.rev true (.v 4))) [(.ite (.and (.cons (.cmp .Gt (.v 7) (.v 6)) (.cons (.cmp .NotIn (.v 8) (.v 2)) (.cons (.cmp .NotIn (.neg (.v 8)) (.v 2)) .nil)))) [(.ex (.bm .append true (.v 2) (.cons (.v 8) .nil))), (.asg (.nm 3) (.c (.bl true)))] [])])])]), (.ret (.some (.bi .tuple true (.cons (.skabs true (.v 2)) .nil))))]
def ir_is_between : List S := [(.ret (.some (.and (.cons (.call "is_integer" ct_is_integer (.cons (.v 0) .nil)) (.cons (.chn .LtE .LtE (.v 1) (.v 0) (.v 2)) .nil)))))]
def ir_is_literal : List S := [(.ret (.some (.and (.cons (.call "is_integer" ct_is_integer (.cons (.v 0) .nil)) (.cons (.cmp .NotEq (.v 0) (.c (.int 0))) (.cons (.cmp .LtE (.bi .abs true (.cons (.v 0) .nil)) (.g "MOST_INNER" (.int 100000))) .nil))))))]
def ir_Engine_have : List S := [(.asg (.nm 2) (.bi .len true (.cons (.fld (.v 0) "Engine" "own_rows") .nil))), (.ex (.bm .append true (.fld (.v 0) "Engine" "own_rows") (.cons (.v 1) .nil))), (.ex (.bm .append true (.fld (.v 0) "Engine" "own_room") (.cons (.bin .Sub true (.bi .sum true (.cons (.comp true (.tp [(.nm 3), (.nm 4)]) (.seq (.ix (.v 1) (.c (.int 0)))) (.some (.not (.meth (.v 0) "Engine" "is_off" ct_Engine_is_off (.cons (.v 4) .nil)))) (.v 3)) .nil)) (.ix (.v 1) (.c (.int 1)))) .nil))), (.for_ (.tp [(.nm 3), (.nm 4)]) (.seq (.ix (.v 1) (.c (.int 0)))) [(.ex (.bm .append true (.bm .setdefault true (.fld (.v 0) "Engine" "own_uses") (.cons (.v 4) (.cons (.lst false .nil) .nil))) (.cons (.tup (.cons (.v 2) (.cons (.v 3) .nil))) .nil)))]), (.ex (.bm .append true (.fld (.v 0) "Engine" "own_queue") (.cons (.v 2) .nil)))]
def ir_Engine_put_on : List S := [(.sub (.fld (.v 0) "Engine" "own_on") (.bi .abs true (.cons (.v 1) .nil)) (.v 1)), (.sub (.fld (.v 0) "Engine" "own_level") (.bi .abs true (.cons (.v 1) .nil)) (.meth (.v 0) "Engine" "levels" ct_Engine_levels .nil)), (.sub (.fld (.v 0) "Engine" "own_reason") (.bi .abs true (.cons (.v 1) .nil)) (.v 2)), (.ex (.bm .append true (.fld (.v 0) "Engine" "own_trail") (.cons (.v 1) .nil))), (.for_ (.tp [(.nm 3), (.nm 4)]) (.seq (.bm .get true (.fld (.v 0) "Engine" "own_uses") (.cons (.bin .Sub true (.c (.int 0)) (.v 1)) (.cons (.lst true .nil) .nil)))) [(.sub (.fld (.v 0) "Engine" "own_room") (.v 3) (.bin .Sub true (.ix (.fld (.v 0) "Engine" "own_room") (.v 3)) (.v 4))), (.ex (.bm .append true (.fld (.v 0) "Engine" "own_queue") (.cons (.v 3) .nil)))])]
def ir__law_of : List S := [(.ret (.some (.ix (.v 1) (.call "_law_take" ct__law_take (.cons (.v 0) (.cons (.bi .len true (.cons (.v 1) .nil)) .nil))))))]
def ir__law_some : List S := [(.par [4, 5] (.cons (.bi .list false (.cons (.v 1) .nil)) (.cons (.lst false .nil) .nil))), (.for_ (.nm 3) (.rng1 (.v 2)) [(.ex (.bm .append true (.v 5) (.cons (.bm .pop true (.v 4) (.cons (.call "_law_take" ct__law_take (.cons (.v 0) (.cons (.bi .len true (.cons (.v 4) .nil)) .nil))) .nil)) .nil)))]), (.ret (.some (.v 5)))]
def ir__law_fits : List S := [(.ret (.some (.bi .all true (.cons (.comp true (.nm 2) (.seq (.v 0)) .none (.cmp .GtE (.call "_law_reach" ct__law_reach (.cons (.v 2) (.cons (.v 1) .nil))) (.ix (.v 2) (.c (.int 1))))) .nil))))]
def ir_are_terms : List S := [(.ite (.not (.isi (.v 0) "tuple" [])) [(.ret (.some (.c (.bl false))))] []), (.asg (.nm 1) (.c (.int 0))), (.for_ (.nm 2) (.seq (.v 0)) [(.ite (.or (.cons (.not (.isi (.v 2) "tuple" [])) (.cons (.cmp .NotEq (.bi .len true (.cons (.v 2) .nil)) (.c (.int 2))) (.cons (.not (.call "is_integer" ct_is_integer (.cons (.ix (.v 2) (.c (.int 0))) .nil))) (.cons (.cmp .Lt (.ix (.v 2) (.c (.int 0))) (.c (.int 1))) .nil))))) [(.ret (.some (.c (.bl false))))] []), (.ite (.or (.cons (.not (.call "is_literal" ct_is_literal (.cons (.ix (.v 2) (.c (.int 1))) .nil))) (.cons (.cmp .LtE (.bi .abs true (.cons (.ix (.v 2) (.c (.int 1))) .nil)) (.v 1)) .nil))) [(.ret (.some (.c (.bl false))))] []), (.asg (.nm 1) (.bi .abs true (.cons (.ix (.v 2) (.c (.int 1))) .nil)))]), (.ret (.some (.c (.bl true))))]
def ir_Engine___init__ : List S := [(.fld (.v 0) "Engine" "own_rows" (.lst false .nil)), (.fld (.v 0) "Engine" "own_room" (.lst false .nil)), (.fld (.v 0) "Engine" "own_uses" .dnew), (.fld (.v 0) "Engine" "own_on" .dnew), (.fld (.v 0) "Engine" "own_level" .dnew), (.fld (.v 0) "Engine" "own_reason" .dnew), (.fld (.v 0) "Engine" "own_trail" (.lst false .nil)), (.fld (.v 0) "Engine" "own_starts" (.lst false (.cons (.c (.int 0)) .nil))), (.fld (.v 0) "Engine" "own_queue" (.lst false .nil)), (.for_ (.nm 2) (.seq (.v 1)) [(.ex (.meth (.v 0) "Engine" "have" ct_Engine_have (.cons (.v 2) .nil)))])]
def ir_Engine_force : List S := [(.whl (.cmp .NotEq (.fld (.v 0) "Engine" "own_queue") (.lst true .nil)) [(.asg (.nm 1) (.bm .pop true (.fld (.v 0) "Engine" "own_queue") (.cons (.c (.int 0)) .nil))), (.ite (.cmp .Lt (.ix (.fld (.v 0) "Engine" "own_room") (.v 1)) (.c (.int 0))) [(.fld (.v 0) "Engine" "own_queue" (.lst false .nil)), (.ret (.some (.v 1)))] []), (.for_ (.tp [(.nm 2), (.nm 3)]) (.seq (.ix (.ix (.fld (.v 0) "Engine" "own_rows") (.v 1)) (.c (.int 0)))) [(.ite (.and (.cons (.cmp .Gt (.v 2) (.ix (.fld (.v 0) "Engine" "own_room") (.v 1))) (.cons (.meth (.v 0) "Engine" "is_open" ct_Engine_is_open (.cons (.v 3) .nil)) .nil))) [(.ex (.meth (.v 0) "Engine" "put_on" ct_Engine_put_on (.cons (.v 3) (.cons (.v 1) .nil))))] [])])]), (.ret (.some (.c .non)))]
def ir_are_literals : List S := [(.ite (.or (.cons (.not (.isi (.v 1) "tuple" [])) (.cons (.not (.bi .all true (.cons (.comp true (.nm 3) (.seq (.v 1)) .none (.call "is_literal" ct_is_literal (.cons (.v 3) .nil))) .nil))) .nil))) [(.ret (.some (.c (.bl false))))] []), (.asg (.nm 2) (.comp true (.nm 3) (.seq (.v 1)) .none (.bi .abs true (.cons (.v 3) .nil)))), (.ret (.some (.and (.cons (.cmp .Eq (.lenset (.v 2)) (.bi .len true (.cons (.v 2) .nil))) (.cons (.bi .all true (.cons (.comp true (.nm 4) (.seq (.v 2)) .none (.cmp .LtE (.v 4) (.prop (.v 0) "Rows" "switches" ct_Rows_switches))) .nil)) .nil)))))]
def ir__law_drawn : List S := [(.asg (.nm 3) (.lst false .nil)), (.for_ (.nm 4) (.rng1 (.v 2)) [(.asg (.nm 5) (.call "_law_some" ct__law_some (.cons (.v 0) (.cons (.lr2 true (.c (.int 1)) (.bin .Add true (.v 1) (.c (.int 1)))) (.cons (.bin .Add true (.c (.int 1)) (.call "_law_take" ct__law_take (.cons (.v 0) (.cons (.v 1) .nil)))) .nil))))), (.asg (.nm 6) (.call "_law_of" ct__law_of (.cons (.v 0) (.cons (.lst true (.cons (.c (.int 1)) (.cons (.c (.int 1)) (.cons (.c (.int 4)) (.cons (.c (.int 9)) .nil))))) .nil)))), (.asg (.nm 7) (.comp true (.nm 9) (.seq (.v 5)) .none (.tup (.cons (.bin .Add true (.c (.int 1)) (.call "_law_take" ct__law_take (.cons (.v 0) (.cons (.v 6) .nil)))) (.cons (.ite (.cmp .Eq (.call "_law_take" ct__law_take (.cons (.v 0) (.cons (.c (.int 2)) .nil))) (.c (.int 0))) (.v 9) (.neg (.v 9))) .nil))))), (.asg (.nm 8) (.bi .sum true (.cons (.comp true (.tp [(.nm 12), (.nm 13)]) (.seq (.v 7)) .none (.v 12)) .nil))), (.ex (.bm .append true (.v 3) (.cons (.call "_law_merged" ct__law_merged (.cons (.v 7) (.cons (.bin .Add true (.call "_law_take" ct__law_take (.cons (.v 0) (.cons (.bin .Add true (.v 8) (.c (.int 1))) .nil))) (.bi .int true (.cons (.cmp .Eq (.call "_law_take" ct__law_take (.cons (.v 0) (.cons (.c (.int 9)) .nil))) (.c (.int 0))) .nil))) .nil))) .nil)))]), (.ret (.some (.comp true (.tp [(.nm 10), (.nm 11)]) (.seq (.v 3)) .none (.tup (.cons (.v 10) (.cons (.bi .int true (.cons (.bi .max2 true (.cons (.c (.int 0)) (.cons (.v 11) .nil))) .nil)) .nil))))))]
def ir_is_row : List S := [(.ret (.some (.and (.cons (.isi (.v 0) "tuple" []) (.cons (.cmp .Eq (.bi .len true (.cons (.v 0) .nil)) (.c (.int 2))) (.cons (.call "are_terms" ct_are_terms (.cons (.ix (.v 0) (.c (.int 0))) .nil)) (.cons (.call "is_integer" ct_is_integer (.cons (.ix (.v 0) (.c (.int 1))) .nil)) .nil)))))))]
def ir_check_literals : List S := [(.ex (.call "check_rows" ct_check_rows (.cons (.v 0) .nil))), (.ite (.not (.call "are_literals" ct_are_literals (.cons (.v 0) (.cons (.v 1) .nil)))) [.never] [])]
def ir_Rows___init__ : List S := [(.ite (.not (.call "is_between" ct_is_between (.cons (.v 1) (.cons (.c (.int 0)) (.cons (.g "MOST_INNER" (.int 100000)) .nil))))) [.never] []), (.ite (.or (.cons (.not (.isi (.v 2) "tuple" [])) (.cons (.cmp .Gt (.bi .len true (.cons (.v 2) .nil)) (.g "MOST_ROWS" (.int 100000))) .nil))) [.never] []), (.for_ (.nm 3) (.seq (.v 2)) [(.ite (.or (.cons (.not (.call "is_row" ct_is_row (.cons (.v 3) .nil))) (.cons (.and (.cons (.cmp .NotEq (.ix (.v 3) (.c (.int 0))) (.tup .nil)) (.cons (.cmp .Gt (.bi .abs true (.cons (.ix (.ix (.ix (.v 3) (.c (.int 0))) (.neg (.c (.int 1)))) (.c (.int 1))) .nil)) (.v 1)) .nil))) .nil))) [.never] [])]), (.fld (.v 0) "Rows" "own_switches" (.v 1)), (.fld (.v 0) "Rows" "own_rows" (.v 2))]
def ir_forced_by : List S := [(.asg (.nm 2) (.mk "Engine" ct_Engine___init__ (.cons (.prop (.v 0) "Rows" "rows" ct_Rows_rows) .nil))), (.for_ (.nm 3) (.seq (.v 1)) [(.ite (.meth (.v 2) "Engine" "is_off" ct_Engine_is_off (.cons (.v 3) .nil)) [(.ret (.some (.c .non)))] []), (.ite (.meth (.v 2) "Engine" "is_open" ct_Engine_is_open (.cons (.v 3) .nil)) [(.ex (.meth (.v 2) "Engine" "put_on" ct_Engine_put_on (.cons (.v 3) (.cons (.c .non) .nil))))] [])]), (.ite (.cmp .IsNot (.meth (.v 2) "Engine" "force" ct_Engine_force .nil) (.c .non)) [(.ret (.some (.c .non)))] []), (.ret (.some (.bi .tuple true (.cons (.skabs true (.meth (.v 2) "Engine" "trail" ct_Engine_trail .nil)) .nil))))]
def ir_forced : List S := [(.ex (.call "check_literals" ct_check_literals (.cons (.v 0) (.cons (.v 1) .nil)))), (.ret (.some (.call "forced_by" ct_forced_by (.cons (.v 0) (.cons (.v 1) .nil)))))]
def ir_forced_more : List S := [(.ex (.call "check_literals" ct_check_literals (.cons (.v 0) (.cons (.v 1) .nil)))), (.asg (.nm 2) (.call "forced_by" ct_forced_by (.cons (.v 0) (.cons (.v 1) .nil)))), (.ret (.some (.ite (.cmp .Is (.v 2) (.c .non)) (.c .non) (.bi .tuple true (.cons (.comp true (.nm 3) (.seq (.v 2)) (.some (.cmp .NotIn (.v 3) (.v 1))) (.v 3)) .nil)))))]
def ir__law_right : List S := [(.asg (.nm 1) (.bin .Add true (.c (.int 1)) (.call "_law_take" ct__law_take (.cons (.v 0) (.cons (.c (.int 6)) .nil))))), (.asg (.nm 2) (.call "_law_drawn" ct__law_drawn (.cons (.v 0) (.cons (.v 1) (.cons (.bin .Add true (.c (.int 1)) (.call "_law_take" ct__law_take (.cons (.v 0) (.cons (.c (.int 5)) .nil)))) .nil))))), (.asg (.nm 3) (.mk "Rows" ct_Rows___init__ (.cons (.v 1) (.cons (.bi .tuple true (.cons (.v 2) .nil)) .nil)))), (.asg (.nm 4) (.call "_law_some" ct__law_some (.cons (.v 0) (.cons (.lr2 true (.c (.int 1)) (.bin .Add true (.v 1) (.c (.int 1)))) (.cons (.call "_law_take" ct__law_take (.cons (.v 0) (.cons (.bin .Add true (.v 1) (.c (.int 1))) .nil))) .nil))))), (.asg (.nm 5) (.bi .tuple true (.cons (.comp true (.nm 12) (.seq (.v 4)) .none (.bi .int true (.cons (.bin .Mult true (.v 12) (.call "_law_of" ct__law_of (.cons (.v 0) (.cons (.lst true (.cons (.c (.int 1)) (.cons (.neg (.c (.int 1))) .nil))) .nil)))) .nil))) .nil))), (.asg (.tp [(.nm 9), (.nm 10)]) (.tup (.cons (.callk "forced" ct_forced .nil (.cons "rows" (.v 3) (.cons "literals" (.v 5) .nil)) [0, 1]) (.cons (.call "_law_forced" ct__law_forced (.cons (.v 2) (.cons (.v 5) .nil))) .nil)))), (.ite (.cmp .NotEq (.bi .repr true (.cons (.v 9) .nil)) (.bi .repr true (.cons (.v 10) .nil))) [(.ret (.some (.c (.bl false))))] []), (.asg (.nm 6) (.callk "forced_more" ct_forced_more .nil (.cons "rows" (.v 3) (.cons "literals" (.v 5) .nil)) [0, 1])), (.ite (.cmp .NotEq (.v 6) (.ite (.cmp .Is (.v 10) (.c .non)) (.c .non) (.bi .tuple true (.cons (.comp true (.nm 13) (.seq (.v 10)) (.some (.cmp .NotIn (.v 13) (.v 5))) (.v 13)) .nil)))) [(.ret (.some (.c (.bl false))))] []), (.ite (.cmp .NotEq (.call "forced" ct_forced (.cons (.mk "Rows" ct_Rows___init__ (.cons (.v 1) (.cons (.bi .tuple true (.cons (.rev true (.v 2)) .nil)) .nil))) (.cons (.rev true (.v 5)) .nil))) (.v 9)) [(.ret (.some (.c (.bl false))))] []), (.asg (.nm 7) (.comp true (.nm 11) (.seq (.call "_law_fulls" ct__law_fulls (.cons (.v 1) .nil))) (.some (.call "_law_fits" ct__law_fits (.cons (.v 2) (.cons (.v 11) .nil)))) (.v 11))), (.asg (.nm 7) (.comp true (.nm 11) (.seq (.v 7)) (.some (.bi .all true (.cons (.comp true (.nm 13) (.seq (.v 5)) .none (.cmp .In (.v 13) (.v 11))) .nil))) (.v 11))), (.ite (.cmp .Is (.v 10) (.c .non)) [(.ret (.some (.cmp .Eq (.v 7) (.lst true .nil))))] []), (.ite (.or (.cons (.not (.bi .all true (.cons (.comp true (.nm 11) (.seq (.v 7)) .none (.bi .all true (.cons (.comp true (.nm 13) (.seq (.v 10)) .none (.cmp .In (.v 13) (.v 11))) .nil))) .nil))) (.cons (.cmp .NotEq (.call "forced" ct_forced (.cons (.v 3) (.cons (.v 10) .nil))) (.v 10)) .nil))) [(.ret (.some (.c (.bl false))))] []), (.asg (.nm 8) (.call "forced" ct_forced (.cons (.mk "Rows" ct_Rows___init__ (.cons (.v 1) (.cons (.bi .tuple true (.cons (.sl true (.v 2) (.some (.c (.int 1))) .none) .nil)) .nil))) (.cons (.sl true (.v 5) (.some (.c (.int 1))) .none) .nil)))), (.ret (.some (.and (.cons (.cmp .IsNot (.v 8) (.c .non)) (.cons (.bi .all true (.cons (.comp true (.nm 13) (.seq (.v 8)) .none (.cmp .In (.v 13) (.v 10))) .nil)) .nil)))))]
def ir_law : List S := [(.for_ (.nm 1) (.seq (.call "_law_cells" ct__law_cells (.cons (.v 0) (.cons (.c (.int 3)) .nil)))) [(.asg (.nm 2) (.call "_law_pot" ct__law_pot (.cons (.v 0) (.cons (.v 1) .nil)))), (.ite (.not (.bi .all true (.cons (.comp true (.nm 3) (.rng1 (.c (.int 3))) .none (.call "_law_right" ct__law_right (.cons (.v 2) .nil))) .nil))) [(.ret (.some (.c (.bl false))))] [])]), (.ret (.some (.c (.bl true))))]
end K12
set_option Elab.async false
set_option linter.all false
set_option maxRecDepth 100000
set_option maxHeartbeats 2000000
namespace K12
open PySem PySem.Spec PyProof.Rows L2 TL
theorem i1 : isiB "int" "int" = true := by decide +kernel
theorem i2 : isiB "bool" "int" = false := by decide +kernel
theorem i3 : isiB "tuple" "tuple" = true := by decide +kernel
theorem pure_is_integer : ∀ ds M x Q, ct_is_integer ds M x Q → wpSs ir_is_integer (FinOf x Q) (startE 1 ds) M := by
  rintro ds M x Q ⟨i, rfl, h⟩
  simp [ir_is_integer, startE, i1, i2]
  exact fin_same h
theorem pure_is_literal : ∀ ds M x Q, ct_is_literal ds M x Q → wpSs ir_is_literal (FinOf x Q) (startE 1 ds) M := by
  rintro ds M x Q ⟨i, rfl, ⟨h1, h2⟩, h⟩
  simp [ir_is_literal, startE, ct_is_integer, eqK, h1]
  have e : (if i < 0 then -i else i) ≤ 100000 := by split <;> omega
  simp [e]
  exact fin_same h
theorem pure_is_between : ∀ ds M x Q, ct_is_between ds M x Q → wpSs ir_is_between (FinOf x Q) (startE 3 ds) M := by
  rintro ds M x Q ⟨i, a, b, rfl, h1, h2, h⟩
  simp [ir_is_between, startE, ct_is_integer, h1, h2]
  exact fin_same h
theorem log_small {n : Int} {k : Nat} (h : n.natAbs < 2 ^ k) (hk : 0 < k) : n.natAbs.log2 < k := by
  by_cases z : n.natAbs = 0
  · rw [z]; simpa using hk
  · exact (Nat.log2_lt z).mpr h
end K12

set_option Elab.async false
set_option linter.all false
set_option maxRecDepth 100000
set_option maxHeartbeats 2000000
set_option exponentiation.threshold 1100
namespace K12
open PySem PySem.Spec PyProof.Rows L2 TL
theorem log_lt {n : Int} {k : Nat} (h : n.natAbs < 2 ^ k) (hk : 0 < k) : n.natAbs.log2 < k := by
  by_cases z : n.natAbs = 0
  · rw [z]; simpa using hk
  · exact (Nat.log2_lt z).mpr h
theorem mulW_of {i j : Int} (a b : Nat) (hi : i.natAbs < 2 ^ a) (hj : j.natAbs < 2 ^ b) (ha : 0 < a) (hb : 0 < b) (hab : a + b < 1000000) : CMulW i j := by
  have h1 := log_lt hi ha
  have h2 := log_lt hj hb
  show i.natAbs.log2 + j.natAbs.log2 < 1000000
  omega
theorem divW_of {i j : Int} (a : Nat) (h : 0 < j) (hj : j.natAbs < 2 ^ a) (ha : 0 < a) (ha2 : a < 9000) : CDivW i j := ⟨h, by have := log_lt hj ha; omega⟩
theorem mixed_ok {b k i : Int} (hb : 0 ≤ b) (hb2 : b < 2 ^ 61) (hk : 0 ≤ k) (hk2 : k ≤ 1000001) : 0 ≤ b + 92003 * k * k + 383 ∧ b + 92003 * k * k + 383 < 2 ^ 62 := by
  have e : 0 ≤ 92003 * k * k := Int.mul_nonneg (Int.mul_nonneg (by omega) hk) hk
  have e2 : 92003 * k * k ≤ 92003 * 1000001 * 1000001 := by
    have a1 : 92003 * k ≤ 92003 * 1000001 := by omega
    exact Int.le_trans (Int.mul_le_mul_of_nonneg_right a1 hk) (Int.mul_le_mul_of_nonneg_left hk2 (by omega))
  omega
theorem pure__law_take : ∀ ds M x Q, ct__law_take ds M x Q → wpSs ir__law_take (FinOf x Q) (startE 5 ds) M := by
  rintro ds M x Q ⟨p, n, o, c, rfl, hM, ⟨own, base, cnt, rfl, h1, h2, h3, h4, h5⟩, hc, hn, hn2, h⟩
  simp [ir__law_take, startE, ixK, dctOf, seqOf, lstOf, catOf, hM, atI, ixN, setK, mput_same, TL.keyOf]
  have dn : ∀ z, CDivW z n := fun z => divW_of 60 hn (by omega) (by omega) (by omega)
  split
  · exact ⟨hn, dn _, fin_same (h _ _ (Int.emod_nonneg _ (by omega)) (Int.emod_lt_of_pos _ hn) ⟨own / n, base, cnt, rfl, Int.ediv_nonneg h1 (by omega), h2, h3, h4, by omega⟩)⟩
  · refine ⟨by decide, ?_⟩
    have q : ∀ i : Int, 2147483563 ≤ i → i ≤ 2147483647 → CMulW 92003 (cnt + 1) ∧ CMulW (92003 * (cnt + 1)) (cnt + 1) ∧ (((base + 92003 * (cnt + 1) * (cnt + 1) + 383).natAbs.log2 : Nat) + 1 : Int) * 3 ≤ 134217728 ∧ 0 < i ∧ CMulW 461 (cnt + 1) ∧
        CMulW ((base + 92003 * (cnt + 1) * (cnt + 1) + 383) ^ 3 % i) ((base + 92003 * (cnt + 1) * (cnt + 1) + 383) ^ 3 % i % 11047 + 461 * (cnt + 1)) ∧
        CDivW ((base + 92003 * (cnt + 1) * (cnt + 1) + 383) ^ 3 % i * ((base + 92003 * (cnt + 1) * (cnt + 1) + 383) ^ 3 % i % 11047 + 461 * (cnt + 1)) % 2305843009213693907) 389 ∧ 0 < n ∧
        fin Q (D.int ((base + 92003 * (cnt + 1) * (cnt + 1) + 383) ^ 3 % i * ((base + 92003 * (cnt + 1) * (cnt + 1) + 383) ^ 3 % i % 11047 + 461 * (cnt + 1)) % 2305843009213693907 / 389 % n)) (mput M p (PO.lst [D.int own, D.int base, D.int (cnt + 1)])) := fun i hi hi2 => by
      have m := mixed_ok (i := i) h2 h3 (k := cnt + 1) (by omega) (by omega)
      generalize hz : base + 92003 * (cnt + 1) * (cnt + 1) + 383 = z at m ⊢
      have ez : z.natAbs < 2 ^ 62 := by omega
      have lz := log_lt ez (by omega)
      have e1 : 0 ≤ z ^ 3 % i := Int.emod_nonneg _ (by omega)
      have e2 : z ^ 3 % i < i := Int.emod_lt_of_pos _ (by omega)
      have e3 : 0 ≤ z ^ 3 % i % 11047 := Int.emod_nonneg _ (by omega)
      have e4 : z ^ 3 % i % 11047 < 11047 := Int.emod_lt_of_pos _ (by omega)
      refine ⟨mulW_of 17 20 (by omega) (by omega) (by omega) (by omega) (by omega), mulW_of 37 20 (by omega) (by omega) (by omega) (by omega) (by omega), by omega, by omega, mulW_of 9 20 (by omega) (by omega) (by omega) (by omega) (by omega), ?_, divW_of 9 (by omega) (by omega) (by omega) (by omega), hn, ?_⟩
      · exact mulW_of 31 30 (by omega) (by omega) (by omega) (by omega) (by omega)
      · exact fin_same (h _ _ (Int.emod_nonneg _ (by omega)) (Int.emod_lt_of_pos _ hn) ⟨own, base, cnt + 1, rfl, h1, h2, h3, by omega, by omega⟩)
    have r0 : 0 ≤ (cnt + 1) % 5 := Int.emod_nonneg _ (by omega)
    have r1 : (cnt + 1) % 5 < 5 := Int.emod_lt_of_pos _ (by omega)
    rw [if_pos r0, if_pos r1]
    have r2 : ((cnt + 1) % 5).toNat = 0 ∨ ((cnt + 1) % 5).toNat = 1 ∨ ((cnt + 1) % 5).toNat = 2 ∨ ((cnt + 1) % 5).toNat = 3 ∨ ((cnt + 1) % 5).toNat = 4 := by omega
    rcases r2 with e | e | e | e | e <;> (simp only [e, Option.bind_some]; exact q _ (by omega) (by omega))
theorem pure__law_cells : ∀ ds M x Q, ct__law_cells ds M x Q → wpSs ir__law_cells (FinOf x Q) (startE 2 ds) M := by
  rintro ds M x Q ⟨ns, m, rfl, h1, h2, h⟩
  simp [ir__law_cells, startE, dctOf, seqOf, lstOf, catOf, rgOk]
  generalize hk : (if 1 < if (ns.length : Int) < m then (ns.length : Int) else m then if (ns.length : Int) < m then (ns.length : Int) else m else 1) = k
  have b : 1 ≤ k ∧ k ≤ m := by
    rw [← hk]
    split
    · split at * <;> omega
    · omega
  refine ⟨⟨by omega, by omega, by omega⟩, fin_same ?_⟩
  have e := h k.toNat (by omega)
  rw [rangeD_map]
  simpa [Function.comp_def] using e
theorem atI_mem {xs : List D} {i : Int} (h0 : 0 ≤ i) (h1 : i < xs.length) : ∃ d, atI xs i = some d ∧ d ∈ xs := by
  have e : i.toNat < xs.length := by omega
  refine ⟨xs[i.toNat], ?_, List.getElem_mem e⟩
  unfold atI ixN
  rw [if_pos h0, if_pos h1]
  simp [e]
theorem pure__law_of : ∀ ds M x Q, ct__law_of ds M x Q → wpSs ir__law_of (FinOf x Q) (startE 2 ds) M := by
  rintro ds M x Q ⟨p, xs, o, c, rfl, hM, ho, hc, hx, hl, h⟩
  simp [ir__law_of, startE, dctOf, seqOf, lstOf, catOf, ixK]
  have : 0 < xs.length := List.length_pos_iff.mpr hx
  refine ⟨p, xs.length, o, c, rfl, hM, ho, hc, by omega, by omega, fun r o' r0 r1 ho' => ?_⟩
  obtain ⟨d, e, hd⟩ := atI_mem r0 r1
  simp [e]
  exact fin_same (h d o' hd ho')
theorem ite01 {p : Prop} [Decidable p] : (if p then (1 : Int) else 0) = 0 ∨ (if p then (1 : Int) else 0) = 1 := by by_cases h : p <;> simp [h]
theorem big_lt {a b : Int} (hb : b = 0 ∨ b = 1) : CMulW (a % 10 ^ 300) b := by
  have h0 : 0 ≤ a % 10 ^ 300 := Int.emod_nonneg _ (by decide)
  have h1 : a % 10 ^ 300 < 10 ^ 300 := Int.emod_lt_of_pos _ (by decide)
  refine mulW_of 1000 2 ?_ (by rcases hb with h | h <;> subst h <;> decide) (by decide) (by decide) (by decide)
  have h2 : (10 : Int) ^ 300 < 2 ^ 1000 := by decide +kernel
  have h3 : ((2 ^ 1000 : Nat) : Int) = 2 ^ 1000 := by norm_cast
  omega
theorem pot_ok (cell : Int) (i : Nat) (hi : i < 64) (b : Int) (hb : b = 0 ∨ b = 1) : CMulW (absI cell % 10 ^ 300) b ∧ CMulW (cell % 2305843009213693951) 72109 ∧ CMulW 9901 i ∧ CMulW (9901 * i) i ∧
    PotO (.lst [.int (absI cell % 10 ^ 300 * b), .int ((cell % 2305843009213693951 * 72109 + 9901 * i * i + 1231) % 2305843009213693921), .int 0]) 0 := by
  have e1 : 0 ≤ cell % 2305843009213693951 := Int.emod_nonneg _ (by omega)
  have e2 : cell % 2305843009213693951 < 2305843009213693951 := Int.emod_lt_of_pos _ (by omega)
  refine ⟨big_lt hb, mulW_of 61 17 (by omega) (by omega) (by omega) (by omega) (by omega), mulW_of 14 6 (by omega) (by omega) (by omega) (by omega) (by omega), mulW_of 20 6 (by omega) (by omega) (by omega) (by omega) (by omega), _, _, _, rfl, ?_, Int.emod_nonneg _ (by omega), ?_, by omega, by omega⟩
  · exact Int.mul_nonneg (Int.emod_nonneg _ (by decide)) (by omega)
  · have := Int.emod_lt_of_pos (cell % 2305843009213693951 * 72109 + 9901 * i * i + 1231) (show (0 : Int) < 2305843009213693921 by omega)
    omega
theorem pure__law_pot : ∀ ds M x Q, ct__law_pot ds M x Q → wpSs ir__law_pot (FinOf x Q) (startE 5 ds) M := by
  rintro ds M x Q ⟨ns, i, rfl, hi, h⟩
  have p1 : ((Nat.log2 10 : Nat) + 1 : Int) * 60 ≤ 134217728 := by decide +kernel
  have p2 : ((Nat.log2 (10 ^ 60) : Nat) + 1 : Int) * 5 ≤ 134217728 := by decide +kernel
  have p3 : ((Nat.log2 10 : Nat) + 1 : Int) * 18 ≤ 134217728 := by decide +kernel
  have fin' : ∀ (p : Addr) (o : TL.PO), M p = none → PotO o 0 → TL.fin Q (D.ref p) (mput M p o) := fun p o n ho => fin_same (h p o n ho)
  by_cases c : i < ns.length
  · have e : atI (ns.map D.int) (i : Int) = some (.int ns[i]) := atI_nat (by simp [c])
    have q := pot_ok ns[i] i hi
    simp [ir__law_pot, startE, dctOf, seqOf, lstOf, catOf, ixK, c, e]
    obtain ⟨q1, q2, q3, q4, q5⟩ := q (if 1000000000000000000 ≤ if ns[i] < 0 then -ns[i] else ns[i] then 1 else 0) ite01
    exact ⟨p1, p2, p3, q1, q2, q3, q4, by decide, fun p n => fin' p _ n q5⟩
  · have q := pot_ok (947 * i + 691) i hi
    simp [ir__law_pot, startE, dctOf, seqOf, lstOf, catOf, ixK, c]
    obtain ⟨q1, q2, q3, q4, q5⟩ := q (if 1000000000000000000 ≤ if (947 * i + 691 : Int) < 0 then -(947 * i + 691 : Int) else (947 * i + 691 : Int) then 1 else 0) ite01
    exact ⟨mulW_of 10 6 (by omega) (by omega) (by omega) (by omega) (by omega), p1, p2, p3, q1, q2, q3, q4, by decide, fun p n => fin' p _ n q5⟩
end K12

set_option Elab.async false
set_option linter.all false
set_option maxRecDepth 100000
set_option maxHeartbeats 2000000
namespace K12
open PySem PySem.Spec PyProof.Rows L2 TL
theorem map_erase {α β : Type} (f : α → β) : ∀ (l : List α) (i : Nat), (l.map f).eraseIdx i = (l.eraseIdx i).map f
  | [], _ => by simp
  | _ :: _, 0 => by simp
  | a :: l, i + 1 => by simp [map_erase f l i]
theorem erase_perm {α : Type} : ∀ {l : List α} {i : Nat} (h : i < l.length), ([l[i]] ++ l.eraseIdx i).Perm l
  | a :: l, 0, h => by simp
  | a :: l, i + 1, h => by
    have ih := erase_perm (l := l) (i := i) (by simpa using h)
    simp only [List.getElem_cons_succ, List.eraseIdx_cons_succ, List.cons_append, List.nil_append] at ih ⊢
    exact (List.Perm.swap _ _ _).trans (ih.cons a)
/-- the same but at these places -/
def Same3 (M M' : Mm) (p q r : Addr) : Prop := ∀ a, a ≠ p → a ≠ q → a ≠ r → M' a = M a
theorem pure__law_some : ∀ ds M x Q, ct__law_some ds M x Q → wpSs ir__law_some (FinOf x Q) (startE 6 ds) M := by
  rintro ds M x Q ⟨p, ns, m, o, c, rfl, hM, ho, h0, hm, hl, hc, h⟩
  simp [ir__law_some, startE, seqOf, lstOf, catOf]
  intro r hr f hf
  refine ⟨by omega, by omega, ?_⟩
  have rp : r ≠ p := fun z => by subst z; rw [hM] at hr; cases hr
  have fr : f ≠ r := fun z => by subst z; rw [mput_same] at hf; cases hf
  have hf' : M f = none := by rwa [mput_ne fr] at hf
  have fp : f ≠ p := fun z => by subst z; rw [hM] at hf'; cases hf'
  rw [rangeD_map]
  refine forGo_inv D.int (fun (l : List Int) env M' => ∃ (z : Option D) (ys rs : List Int) (o' : TL.PO) (c' : Int), env = [some (.ref p), some (.lst (ns.map D.int)), some (.int m), z, some (.ref r), some (.ref f)] ∧ M' p = some o' ∧ PotO o' c' ∧ M' r = some (.lst (rs.map D.int)) ∧ M' f = some (.lst (ys.map D.int)) ∧
      Same3 M M' p r f ∧ (ys ++ rs).Perm ns ∧ c' = c + ys.length ∧ (ys.length : Int) + l.length = m) (fun _ _ _ _ => trivial) ?_ ?_ _ _ _ ?_
  · rintro env M' ⟨z, ys, rs, o', c', rfl, h1, h2, h3, h4, h5, h6, h7, h8⟩
    simp
    have h9 : (ys.length : Int) = m := by simpa using h8
    have h10 : c' = c + m := by omega
    refine fin_sub ?_ (h f ys rs o' hf' (by rw [← h10]; exact h2) h9 h6)
    intro a oo ha
    by_cases e1 : a = f
    · subst e1; rw [mput_same] at ha; cases ha; exact h4
    · rw [mput_ne e1] at ha
      by_cases e2 : a = p
      · subst e2; rw [mput_same] at ha; cases ha; exact h1
      · rw [mput_ne e2] at ha
        by_cases e3 : a = r
        · subst e3; rw [hr] at ha; cases ha
        · rw [h5 a e2 e3 e1]; exact ha
  · rintro a l env M' k ⟨z, ys, rs, o', c', rfl, h1, h2, h3, h4, h5, h6, h7, h8⟩ hk
    have e1 := h6.length_eq
    rw [List.length_append] at e1
    simp at h8
    simp [tyOf, h3, h4, okM, bmD, mlst, lenD, dctOf, seqOf, lstOf, catOf]
    refine ⟨p, rs.length, o', c', rfl, h1, h2, by omega, by omega, by omega, fun j o'' j0 j1 ho'' => ?_⟩
    have e2 : ixN rs.length j = some j.toNat := by unfold ixN; rw [if_pos j0, if_pos j1]
    have e3 : j.toNat < rs.length := by omega
    have m1 : mput M' p o'' r = some (.lst (rs.map D.int)) := by rw [mput_ne rp]; exact h3
    simp [m1, e2, e3]
    have m2 : mput (mput M' p o'') r (.lst ((rs.map D.int).eraseIdx j.toNat)) f = some (.lst (ys.map D.int)) := by rw [mput_ne fr, mput_ne fp]; exact h4
    simp [m2]
    refine ⟨by rw [sizeLine_eq]; omega, hk _ _ ⟨some (.int a), ys ++ [rs[j.toNat]], rs.eraseIdx j.toNat, o'', c' + 1, rfl, ?_, ho'', ?_, ?_, ?_, ?_, ?_, ?_⟩⟩
    · rw [mput_ne (Ne.symm fp), mput_ne (Ne.symm rp), mput_same]
    · rw [mput_ne (Ne.symm fr), mput_same, map_erase]
    · rw [mput_same]; simp
    · intro b b1 b2 b3
      rw [mput_ne b3, mput_ne b2, mput_ne b1]; exact h5 b b1 b2 b3
    · refine List.Perm.trans ?_ h6
      rw [List.append_assoc]
      refine List.Perm.append_left ys ?_
      exact erase_perm e3
    · simp; omega
    · simp; omega
  · refine ⟨none, [], ns, o, c, rfl, ?_, ho, ?_, ?_, ?_, by simp, by simp, by simp; omega⟩
    · rw [mput_ne (Ne.symm fp), mput_ne (Ne.symm rp)]; exact hM
    · rw [mput_ne (Ne.symm fr), mput_same]
    · rw [mput_same]; rfl
    · intro b b1 b2 b3
      rw [mput_ne b3, mput_ne b2]
end K12

set_option Elab.async false
set_option linter.all false
set_option maxRecDepth 100000
set_option maxHeartbeats 2000000
namespace K12
open PySem PySem.Spec PyProof.Rows L2 TL
theorem seq_it {M : Mm} {d : D} {xs : List D} {k : Src → Prop} (h : SeqAt M d xs) (hk : k ⟨grd d xs, xs⟩) : itK M d k := by
  unfold itK
  split
  · cases h
  · rw [show seqOf M _ = some xs from h]; exact hk
theorem seq_grd {M M' : Mm} {d : D} {xs : List D} (h : SeqAt M d xs) (e : ∀ a o, M a = some o → M' a = some o) : grd d xs M' := by
  cases d with
  | ref a =>
    have h' : (match M a with | some (.lst xs) => some xs | _ => none) = some xs := h
    split at h'
    · rename_i ys em
      cases h'
      exact e a _ em
    · cases h'
  | _ => trivial
def kD (p : Int × Int) : Key × D := (.inl p.1, .int p.2)
theorem kget_net (s : Int) : ∀ nt : Terms, kget (nt.map kD) (.inl s) = (nt.find? fun p => decide (p.1 = s)).map fun p => D.int p.2
  | [] => rfl
  | p :: nt => by
    have ih := kget_net s nt
    unfold kget at ih ⊢
    rw [List.map_cons, List.find?_cons, List.find?_cons]
    by_cases e : p.1 = s
    · simp [kD, e]
    · have e2 : ¬ ((Sum.inl p.1 : Key) = Sum.inl s) := fun z => e (Sum.inl.inj z)
      simp only [kD, e, e2, decide_false]
      exact ih
theorem kget_get (s : Int) (nt : Terms) : (kget (nt.map kD) (.inl s)).getD (.int 0) = .int (aget nt s) := by
  rw [kget_net]; unfold aget
  cases nt.find? fun p => decide (p.1 = s) <;> rfl
theorem kput_net (s v : Int) (nt : Terms) : kput (nt.map kD) (.inl s) (.int v) = (aput nt s v).map kD := by
  unfold kput aput
  have e : ((nt.map kD).any fun kv => decide (kv.1 = Sum.inl s)) = nt.any fun p => decide (p.1 = s) := by
    rw [List.any_map]
    congr 1
    funext p
    simp [kD, Function.comp]
  rw [e]
  split
  · rw [List.map_map, List.map_map]
    refine List.map_congr_left fun p _ => ?_
    simp only [Function.comp, kD]
    by_cases q : p.1 = s
    · simp [q]
    · have q2 : ¬ ((Sum.inl p.1 : Key) = Sum.inl s) := fun z => q (Sum.inl.inj z)
      simp [q, q2]
  · simp [kD]
theorem aput_len (nt : Terms) (s v : Int) : (aput nt s v).length ≤ nt.length + 1 := by unfold aput; split <;> simp
theorem aput_mem {nt : Terms} {s v t : Int} (h : t ∈ nt.map (·.1)) : t ∈ (aput nt s v).map (·.1) := by
  unfold aput
  split
  · rw [List.map_map]
    obtain ⟨p, hp, e⟩ := List.mem_map.mp h
    refine List.mem_map.mpr ⟨p, hp, ?_⟩
    simp only [Function.comp]
    split <;> exact e
  · rw [List.map_append]; exact List.mem_append_left _ h
theorem keysI_net : ∀ nt : Terms, keysI (nt.map kD) = some (nt.map (·.1))
  | [] => rfl
  | p :: nt => by simp [keysI, kD, keysI_net nt]
theorem find_key {s : Int} : ∀ {nt : Terms}, s ∈ nt.map (·.1) → ∃ v, (nt.find? fun p => decide (p.1 = s)) = some (s, v)
  | p :: nt, h => by
    rw [List.find?_cons]
    by_cases e : p.1 = s
    · obtain ⟨a, b⟩ := p
      simp at e; subst e
      exact ⟨b, by simp⟩
    · simp only [e, decide_false]
      refine find_key ?_
      simp only [List.map_cons, List.mem_cons] at h
      rcases h with h | h
      · exact absurd h.symm e
      · exact h
theorem kget_at {s : Int} {nt : Terms} (h : s ∈ nt.map (·.1)) : kget (nt.map kD) (.inl s) = some (.int (aget nt s)) := by
  obtain ⟨v, e⟩ := find_key h
  rw [kget_net, e]; unfold aget; rw [e]; rfl
theorem sort_mem {s : Int} {ns : List Int} : s ∈ sortI ns ↔ s ∈ ns := (sortI_perm ns).mem_iff
theorem seq_put {M : Mm} {d : D} {xs : List D} {n : Addr} {o : TL.PO} (h : SeqAt M d xs) (hn : M n = none) : SeqAt (mput M n o) d xs := by
  cases d with
  | ref a =>
    have h' : (match M a with | some (.lst xs) => some xs | _ => none) = some xs := h
    show (match mput M n o a with | some (.lst xs) => some xs | _ => none) = some xs
    by_cases e : a = n
    · subst e; rw [hn] at h'; cases h'
    · rw [mput_ne e]; exact h'
  | _ => exact h
theorem lessF_cons (l : Int) (p : Int × Int) (r : Terms) : lessF l (p :: r) = lessF (if 0 < p.2 then l else l - p.1) r := rfl
theorem pure__law_merged : ∀ ds M x Q, ct__law_merged ds M x Q → wpSs ir__law_merged (FinOf x Q) (startE 7 ds) M := by
  rintro ds M x Q ⟨d, ps, l, rfl, hs, hl, h⟩
  simp [ir__law_merged, startE]
  intro n hn
  refine seq_it (M := mput M n (.dct [])) (d := d) (xs := ps.map prD) (seq_put hs hn) ?_
  refine forGo_inv prD (fun (r : Terms) env M' => ∃ (z4 z5 z6 : Option D) (nt : Terms) (l' : Int), env = [some d, some (.int l'), some (.ref n), none, z4, z5, z6] ∧ M' = mput M n (.dct (nt.map kD)) ∧ r.foldl netStep nt = netF ps ∧ lessF l' r = lessF l ps ∧ nt.length + r.length ≤ 60) ?_ ?_ ?_ _ _ _ ?_
  · rintro r env M' ⟨z4, z5, z6, nt, l', rfl, rfl, _⟩
    exact seq_grd hs fun a o e => by rw [mput_ne (ne_of_M e hn)]; exact e
  · rintro env M' ⟨z4, z5, z6, nt, l', rfl, rfl, h1, h2, h3⟩
    have h1 : nt = netF ps := h1
    have h2 : l' = lessF l ps := h2
    subst h1 h2
    simp
    intro t ht
    have tn : t ≠ n := fun z => by subst z; rw [mput_same] at ht; cases ht
    have ht' : M t = none := by rwa [mput_ne tn] at ht
    have mn : mput (mput M n (.dct ((netF ps).map kD))) t (.lst []) n = some (.dct ((netF ps).map kD)) := by rw [mput_ne (Ne.symm tn), mput_same]
    simp [sortedD, dctOf, mn, keysI_net, itK, seqOf, lstOf, catOf, grd]
    refine ⟨by omega, forGo_inv D.int (fun (r : List Int) env M' => ∃ (z4 z5 z6 : Option D) (acc : Terms) (l' : Int), env = [some d, some (.int l'), some (.ref n), some (.ref t), z4, z5, z6] ∧ M' = mput (mput M n (.dct ((netF ps).map kD))) t (.lst (acc.map prD)) ∧ r.foldl (outStep (netF ps)) (acc, l') = mergedF ps l ∧ (∀ s ∈ r, s ∈ (netF ps).map (·.1)) ∧ acc.length + r.length ≤ 63) ?_ ?_ ?_ _ _ _ ?_⟩
    · intro _ _ _ _; trivial
    · rintro env M' ⟨z4, z5, z6, acc, l', rfl, rfl, g1, g2, g3⟩
      have g1 : (acc, l') = mergedF ps l := g1
      simp
      refine ⟨sl2, fin_sub (sub_put (sub_put sub_refl hn) ht') ?_⟩
      rw [← g1] at h
      exact h
    · rintro s r env M' k ⟨z4, z5, z6, acc, l', rfl, rfl, g1, g2, g3⟩ hk
      have hin := kget_at (g2 s List.mem_cons_self)
      have mn2 : ∀ o, mput (mput M n (.dct ((netF ps).map kD))) t o n = some (.dct ((netF ps).map kD)) := fun o => by rw [mput_ne (Ne.symm tn), mput_same]
      simp at g3
      have g1 : r.foldl (outStep (netF ps)) (outStep (netF ps) (acc, l') s) = mergedF ps l := g1
      have sl : acc.length < sizeLine := by rw [sizeLine_eq]; omega
      have nx : ∀ z4 z5 z6 acc2 l2, outStep (netF ps) (acc, l') s = (acc2, l2) → acc2.length ≤ acc.length + 1 → k [some d, some (.int l2), some (.ref n), some (.ref t), z4, z5, z6] (mput (mput M n (.dct ((netF ps).map kD))) t (.lst (acc2.map prD))) := fun z4 z5 z6 acc2 l2 e le =>
        hk _ _ ⟨z4, z5, z6, acc2, l2, rfl, rfl, by rw [← e]; exact g1, fun s hs => g2 s (List.mem_cons_of_mem _ hs), by omega⟩
      simp [ixK, dctOf, mn2, TL.keyOf, hin, tyOf, okM, bmD, mlst]
      unfold outStep at nx
      by_cases c : 0 < aget (netF ps) s
      · have c2 : ¬ aget (netF ps) s < 0 := by omega
        simp [c, c2, sl]
        simp [c] at nx
        exact ⟨sl2, by simpa [prD] using nx _ _ _⟩
      · by_cases c2 : aget (netF ps) s < 0
        · simp [c, c2, sl]
          simp [c, c2] at nx
          exact ⟨sl2, by simpa [prD] using nx _ _ _⟩
        · simp [c, c2]
          simp [c, c2] at nx
          simpa [prD] using nx _ _ _
    · exact ⟨_, _, _, [], _, rfl, rfl, rfl, fun s hs => sort_mem.mp hs, by rw [(sortI_perm _).length_eq]; simp at h3; simp; omega⟩
  · rintro ⟨m, lit⟩ r env M' k ⟨z4, z5, z6, nt, l', rfl, rfl, h1, h2, h3⟩ hk
    simp at h3
    rw [lessF_cons] at h2
    simp [prD, tyOf, okM, bmD, dctOf, TL.keyOf, setK, kget_get, kput_net]
    have sl : nt.length < sizeLine := by rw [sizeLine_eq]; omega
    have nx : ∀ z4 z5 z6 nt2 l2, netStep nt (m, lit) = nt2 → (if 0 < lit then l' else l' - m) = l2 → k [some d, some (.int l2), some (.ref n), none, z4, z5, z6] (mput M n (.dct (nt2.map kD))) := fun z4 z5 z6 nt2 l2 e1 e2 =>
      hk _ _ ⟨z4, z5, z6, nt2, l2, rfl, rfl, by rw [← e1]; exact h1, by rw [← e2]; exact h2, by
        rw [← e1]
        have : (netStep nt (m, lit)).length ≤ nt.length + 1 := aput_len _ _ _
        omega⟩
    by_cases c : 0 < lit
    · simp [c, sl]
      exact nx _ _ _ _ _ (by simp [netStep, c, absI]) (by simp [c])
    · simp [c, sl]
      exact nx _ _ _ _ _ (by simp [netStep, c, absI]) (by simp [c])
  · exact ⟨none, none, none, [], l, rfl, rfl, rfl, rfl, by simpa using hl⟩
end K12

set_option Elab.async false
set_option linter.all false
set_option maxRecDepth 100000
set_option maxHeartbeats 2000000
namespace K12
open PySem PySem.Spec PyProof.Rows L2 TL
/-! ### what the rows say, plain -/
def sgn (p : Int × Int) : Int := if 0 < p.2 then p.1 else -p.1
def keyN (nt : Terms) : List Int := nt.map (·.1)
theorem keyN_cons (p : Int × Int) (nt : Terms) : keyN (p :: nt) = p.1 :: keyN nt := rfl
theorem netStep_eq (nt : Terms) (p : Int × Int) : netStep nt p = aput nt (absI p.2) (aget nt (absI p.2) + sgn p) := rfl
theorem any_key {s : Int} {nt : Terms} : (nt.any fun p => decide (p.1 = s)) = true ↔ s ∈ keyN nt := by
  unfold keyN
  rw [List.any_eq_true]
  constructor
  · rintro ⟨p, hp, e⟩
    exact List.mem_map.mpr ⟨p, hp, by simpa using e⟩
  · intro h
    obtain ⟨p, hp, e⟩ := List.mem_map.mp h
    exact ⟨p, hp, by simpa using e⟩
theorem keyN_aput (nt : Terms) (s v : Int) : keyN (aput nt s v) = if s ∈ keyN nt then keyN nt else keyN nt ++ [s] := by
  by_cases h : s ∈ keyN nt
  · rw [if_pos h]
    unfold aput
    rw [if_pos (any_key.mpr h)]
    unfold keyN
    rw [List.map_map]
    refine List.map_congr_left fun p _ => ?_
    simp only [Function.comp]
    split <;> rfl
  · rw [if_neg h]
    unfold aput
    rw [if_neg (fun z => h (any_key.mp z))]
    simp [keyN]
theorem aget_none {s : Int} {nt : Terms} (h : s ∉ keyN nt) : aget nt s = 0 := by
  unfold aget
  have : nt.find? (fun p => decide (p.1 = s)) = none := by
    rw [List.find?_eq_none]
    intro p hp e
    exact h (List.mem_map.mpr ⟨p, hp, by simpa using e⟩)
  rw [this]; rfl
theorem aget_cons (p : Int × Int) (nt : Terms) (s : Int) : aget (p :: nt) s = if p.1 = s then p.2 else aget nt s := by
  unfold aget
  rw [List.find?_cons]
  by_cases e : p.1 = s <;> simp [e]
theorem aget_append (nt mt : Terms) (s : Int) : aget (nt ++ mt) s = if s ∈ keyN nt then aget nt s else aget mt s := by
  induction nt with
  | nil => simp [keyN]
  | cons p nt ih =>
    rw [List.cons_append, aget_cons, aget_cons, ih]
    by_cases e : p.1 = s
    · simp [e, keyN]
    · have e2 : ¬ s = p.1 := fun z => e z.symm
      simp [e, e2, keyN_cons]
theorem aget_map (nt : Terms) (s v t : Int) : aget (nt.map fun p => if p.1 = s then (p.1, v) else p) t = if t = s then (if s ∈ keyN nt then v else 0) else aget nt t := by
  induction nt with
  | nil => simp [keyN, aget]
  | cons p nt ih =>
    rw [List.map_cons, aget_cons, aget_cons, ih]
    by_cases e : p.1 = s
    · by_cases e2 : t = s
      · subst e2; simp [e, keyN]
      · have : ¬ s = t := fun z => e2 z.symm
        simp [e, e2, this]
    · by_cases e2 : t = s
      · subst e2
        have : ¬ t = p.1 := fun z => e z.symm
        simp [e, this, keyN_cons]
      · simp [e, e2]
theorem aget_aput (nt : Terms) (s v t : Int) : aget (aput nt s v) t = if t = s then v else aget nt t := by
  unfold aput
  by_cases h : s ∈ keyN nt
  · rw [if_pos (any_key.mpr h), aget_map, if_pos h]
  · rw [if_neg (fun z => h (any_key.mp z)), aget_append, aget_cons]
    by_cases e : t = s
    · subst e; simp [h]
    · have : ¬ s = t := fun z => e z.symm
      by_cases g : t ∈ keyN nt
      · simp [e, g]
      · rw [if_neg g, if_neg this, if_neg e, aget_none g]; rfl
theorem keyN_step (nt : Terms) (p : Int × Int) (s : Int) : s ∈ keyN (netStep nt p) ↔ s ∈ keyN nt ∨ s = absI p.2 := by
  rw [netStep_eq, keyN_aput]
  split
  · rename_i h
    exact ⟨.inl, fun z => z.elim id fun e => e ▸ h⟩
  · simp
theorem nodup_step {nt : Terms} (p : Int × Int) (h : (keyN nt).Nodup) : (keyN (netStep nt p)).Nodup := by
  rw [netStep_eq, keyN_aput]
  split
  · exact h
  · rename_i g
    rw [List.nodup_append]
    refine ⟨h, by simp, ?_⟩
    intro a ha b hb e
    simp at hb
    subst hb
    exact g (e ▸ ha)
/-- what comes to a switch -/
def netOf (ps : Terms) (s : Int) : Int := (ps.map fun p => if s = absI p.2 then sgn p else 0).sum
theorem aget_fold : ∀ (ps : Terms) (nt : Terms) (s : Int), aget (ps.foldl netStep nt) s = aget nt s + netOf ps s
  | [], nt, s => by simp [netOf]
  | p :: ps, nt, s => by
    rw [List.foldl_cons, aget_fold ps, netStep_eq, aget_aput]
    simp only [netOf, List.map_cons, List.sum_cons]
    by_cases e : s = absI p.2
    · simp only [e, if_true]; omega
    · simp only [e, if_false]; omega
theorem aget_net (ps : Terms) (s : Int) : aget (netF ps) s = netOf ps s := by
  rw [netF, aget_fold]
  simp [aget]
theorem keyN_fold : ∀ (ps : Terms) (nt : Terms) (s : Int), s ∈ keyN (ps.foldl netStep nt) ↔ s ∈ keyN nt ∨ ∃ p ∈ ps, s = absI p.2
  | [], nt, s => by simp
  | p :: ps, nt, s => by
    rw [List.foldl_cons, keyN_fold ps, keyN_step]
    simp only [List.mem_cons, exists_eq_or_imp, or_assoc]
theorem keyN_net (ps : Terms) (s : Int) : s ∈ keyN (netF ps) ↔ ∃ p ∈ ps, s = absI p.2 := by
  rw [netF, keyN_fold]
  simp [keyN]
theorem nodup_fold : ∀ (ps : Terms) (nt : Terms), (keyN nt).Nodup → (keyN (ps.foldl netStep nt)).Nodup
  | [], _, h => h
  | p :: ps, nt, h => nodup_fold ps _ (nodup_step p h)
theorem nodup_net (ps : Terms) : (keyN (netF ps)).Nodup := nodup_fold ps [] List.nodup_nil
theorem len_fold : ∀ (ps : Terms) (nt : Terms), (ps.foldl netStep nt).length ≤ nt.length + ps.length
  | [], _ => by simp
  | p :: ps, nt => by
    have h := len_fold ps (netStep nt p)
    have h2 : (netStep nt p).length ≤ nt.length + 1 := aput_len _ _ _
    simp only [List.foldl_cons, List.length_cons]
    omega
theorem len_net (ps : Terms) : (netF ps).length ≤ ps.length := by
  have := len_fold ps []
  unfold netF
  simpa using this
/-! the second walk, from its head -/
def outT (g : Int → Int) : List Int → Terms
  | [] => []
  | s :: r => (if 0 < g s then [(g s, s)] else if g s < 0 then [(-g s, -s)] else []) ++ outT g r
def neg0 (v : Int) : Int := if v < 0 then v else 0
def negs (g : Int → Int) (ks : List Int) : Int := (ks.map fun s => neg0 (g s)).sum
theorem out_fold (nt : Terms) : ∀ (ks : List Int) (acc : Terms) (l : Int), ks.foldl (outStep nt) (acc, l) = (acc ++ outT (aget nt) ks, l - negs (aget nt) ks)
  | [], acc, l => by simp [outT, negs]
  | s :: ks, acc, l => by
    have e : outStep nt (acc, l) s = (acc ++ (if 0 < aget nt s then [(aget nt s, s)] else if aget nt s < 0 then [(-aget nt s, -s)] else []), l - neg0 (aget nt s)) := by
      unfold outStep neg0
      by_cases c : 0 < aget nt s
      · have c2 : ¬ aget nt s < 0 := by omega
        simp [c, c2]
      · by_cases c2 : aget nt s < 0 <;> simp [c, c2]
    rw [List.foldl_cons, e, out_fold nt ks]
    simp only [negs, List.map_cons, List.sum_cons, outT, List.append_assoc]
    congr 1; omega
theorem merged_eq (ps : Terms) (l : Int) : mergedF ps l = (outT (aget (netF ps)) (sortI (keyN (netF ps))), lessF l ps - negs (aget (netF ps)) (sortI (keyN (netF ps)))) := by
  unfold mergedF
  rw [out_fold]; rfl
/-! sorting -/
theorem insI_lt {x y : Int} (h : x < y) : ∀ l : List Int, insI x (insI y l) = insI y (insI x l)
  | [] => by simp only [insI]; rw [if_pos (by omega), if_neg (by omega)]
  | a :: l => by
    have ih := insI_lt h l
    by_cases h1 : x ≤ a <;> by_cases h2 : y ≤ a <;> simp only [insI, h1, h2, if_true, if_false]
    · rw [if_pos (by omega), if_neg (by omega)]
    · rw [if_neg (by omega)]
    · omega
    · rw [ih]
theorem insI_comm (x y : Int) (l : List Int) : insI x (insI y l) = insI y (insI x l) := by
  rcases Int.lt_trichotomy x y with h | h | h
  · exact insI_lt h l
  · rw [h]
  · exact (insI_lt h l).symm
theorem sortI_congr {a b : List Int} (h : a.Perm b) : sortI a = sortI b := by
  induction h with
  | nil => rfl
  | cons x _ ih => simp only [sortI, ih]
  | swap x y l => simp only [sortI]; exact insI_comm _ _ _
  | trans _ _ i1 i2 => exact i1.trans i2
/-- rising, above a -/
def Rises : Int → List Int → Prop
  | _, [] => True
  | a, s :: r => a < s ∧ Rises s r
theorem rises_insI {x : Int} : ∀ {l : List Int} {a : Int}, Rises a l → a < x → x ∉ l → Rises a (insI x l)
  | [], a, _, h, _ => ⟨h, trivial⟩
  | y :: l, a, ⟨h1, h2⟩, h, n => by
    simp only [List.mem_cons, not_or] at n
    simp only [insI]
    split
    · exact ⟨h, by have := n.1; omega, h2⟩
    · exact ⟨h1, rises_insI h2 (by omega) n.2⟩
theorem rises_sortI {a : Int} : ∀ {l : List Int}, l.Nodup → (∀ s ∈ l, a < s) → Rises a (sortI l)
  | [], _, _ => trivial
  | x :: l, h, g => by
    rw [List.nodup_cons] at h
    exact rises_insI (rises_sortI h.2 fun s hs => g s (List.mem_cons_of_mem _ hs)) (g x List.mem_cons_self) (fun z => h.1 (sort_mem.mp z))
theorem sortI_rises : ∀ {l : List Int} {a : Int}, Rises a l → sortI l = l
  | [], _, _ => rfl
  | [x], _, _ => rfl
  | x :: y :: l, a, ⟨h1, h2, h3⟩ => by
    have ih := sortI_rises (l := y :: l) (a := x) ⟨h2, h3⟩
    rw [sortI, ih, insI, if_pos (by omega)]
/-! order plays no part -/
theorem perm_sum {α : Type} (f : α → Int) {a b : List α} (h : a.Perm b) : (a.map f).sum = (b.map f).sum := by
  induction h with
  | nil => rfl
  | cons x _ ih => simp [ih]
  | swap x y l => simp; omega
  | trans _ _ i1 i2 => exact i1.trans i2
theorem lessF_eq : ∀ (ps : Terms) (l : Int), lessF l ps = l - (ps.map fun p => if 0 < p.2 then 0 else p.1).sum
  | [], l => by simp [lessF]
  | p :: ps, l => by
    rw [lessF_cons, lessF_eq ps]
    simp only [List.map_cons, List.sum_cons]
    split <;> omega
theorem merged_perm {a b : Terms} (h : a.Perm b) (l : Int) : mergedF a l = mergedF b l := by
  have g : aget (netF a) = aget (netF b) := by
    funext s; rw [aget_net, aget_net]; exact perm_sum _ h
  have k : (keyN (netF a)).Perm (keyN (netF b)) := by
    refine (List.perm_ext_iff_of_nodup (nodup_net a) (nodup_net b)).mpr fun s => ?_
    rw [keyN_net, keyN_net]
    exact ⟨fun ⟨p, hp, e⟩ => ⟨p, h.mem_iff.mp hp, e⟩, fun ⟨p, hp, e⟩ => ⟨p, h.mem_iff.mpr hp, e⟩⟩
  rw [merged_eq, merged_eq, g, sortI_congr k, lessF_eq, lessF_eq, perm_sum _ h]
/-! what comes out may stand -/
theorem terms_le {a b : Int} : ∀ {ts : Terms}, TermsOk b ts → a ≤ b → TermsOk a ts
  | [], _, _ => trivial
  | _ :: _, ⟨h1, h2, h3, h4⟩, h => ⟨h1, h2, by omega, h4⟩
theorem outT_ok (g : Int → Int) : ∀ {ks : List Int} {a : Int}, 0 ≤ a → Rises a ks → (∀ s ∈ ks, s ≤ 100000) → TermsOk a (outT g ks)
  | [], _, _, _, _ => trivial
  | s :: ks, a, h0, ⟨h1, h2⟩, hk => by
    have ih := outT_ok g (a := s) (by omega) h2 fun t ht => hk t (List.mem_cons_of_mem _ ht)
    have hs := hk s List.mem_cons_self
    simp only [outT]
    by_cases c : 0 < g s
    · simp only [c, if_true]
      exact ⟨c, ⟨by show s ≠ 0; omega, by show s.natAbs ≤ 100000; omega⟩, by show a < (s.natAbs : Int); omega, by show TermsOk (s.natAbs : Int) _; rw [show (s.natAbs : Int) = s by omega]; exact ih⟩
    · by_cases c2 : g s < 0
      · simp only [c, c2, if_true, if_false]
        exact ⟨by show 1 ≤ -g s; omega, ⟨by show -s ≠ 0; omega, by show (-s).natAbs ≤ 100000; omega⟩, by show a < ((-s).natAbs : Int); omega, by show TermsOk ((-s).natAbs : Int) _; rw [show ((-s).natAbs : Int) = s by omega]; exact ih⟩
      · simp only [c, c2, if_false]
        exact terms_le ih (by omega)
theorem abs_pos {l : Int} (h : LitOk l) : 0 < absI l ∧ absI l ≤ 100000 := by
  obtain ⟨h1, h2⟩ := h
  unfold absI; split <;> omega
theorem keys_rise {ps : Terms} (h : PairsOk ps) : Rises 0 (sortI (keyN (netF ps))) := rises_sortI (nodup_net ps) fun s hs => by
  obtain ⟨p, hp, rfl⟩ := (keyN_net ps s).mp hs
  exact (abs_pos (h p hp)).1
theorem merged_ok {ps : Terms} (h : PairsOk ps) (l : Int) : TermsOk 0 (mergedF ps l).1 := by
  rw [merged_eq]
  refine outT_ok _ (by omega) (keys_rise h) fun s hs => ?_
  obtain ⟨p, hp, rfl⟩ := (keyN_net ps s).mp (sort_mem.mp hs)
  exact (abs_pos (h p hp)).2
theorem outT_len (g : Int → Int) : ∀ ks : List Int, (outT g ks).length ≤ ks.length
  | [] => by simp [outT]
  | s :: ks => by
    have := outT_len g ks
    simp only [outT, List.length_append, List.length_cons]
    split
    · simp; omega
    · split <;> simp <;> omega
theorem merged_len (ps : Terms) (l : Int) : (mergedF ps l).1.length ≤ ps.length := by
  rw [merged_eq]
  refine Nat.le_trans (outT_len _ _) ?_
  rw [(sortI_perm _).length_eq]
  simpa [keyN] using len_net ps
theorem outT_mem (g : Int → Int) {t : Int × Int} : ∀ {ks : List Int}, (∀ s ∈ ks, 0 < s) → t ∈ outT g ks → absI t.2 ∈ ks ∧ g (absI t.2) ≠ 0
  | [], _, h => by simp [outT] at h
  | s :: ks, hp, h => by
    have s0 := hp s List.mem_cons_self
    simp only [outT, List.mem_append] at h
    rcases h with h | h
    · split at h
      · simp at h; subst h
        have : absI s = s := by unfold absI; rw [if_neg (by omega)]
        exact ⟨by rw [this]; exact List.mem_cons_self, by rw [this]; omega⟩
      · split at h
        · simp at h; subst h
          have : absI (-s) = s := by unfold absI; rw [if_pos (by omega)]; omega
          exact ⟨by rw [this]; exact List.mem_cons_self, by rw [this]; omega⟩
        · simp at h
    · have := outT_mem g (fun t ht => hp t (List.mem_cons_of_mem _ ht)) h
      exact ⟨List.mem_cons_of_mem _ this.1, this.2⟩
/-! a row that may stand stays -/
def nk (p : Int × Int) : Int × Int := (absI p.2, sgn p)
theorem rises_keys : ∀ {ts : Terms} {a : Int}, TermsOk a ts → Rises a (keyN (ts.map nk))
  | [], _, _ => trivial
  | t :: ts, a, ⟨h1, h2, h3, h4⟩ => by
    have e : absI t.2 = t.2.natAbs := by unfold absI; split <;> omega
    refine ⟨by show a < absI t.2; omega, ?_⟩
    show Rises (absI t.2) _
    rw [e]; exact rises_keys h4
theorem rises_gt {x : Int} : ∀ {l : List Int} {a : Int}, Rises a l → x ∈ l → a < x
  | y :: l, a, ⟨h1, h2⟩, h => by
    rcases List.mem_cons.mp h with rfl | h
    · exact h1
    · have := rises_gt h2 h; omega
theorem net_row : ∀ {ts : Terms} {a : Int} {nt : Terms}, TermsOk a ts → (∀ s ∈ keyN nt, s ≤ a) → ts.foldl netStep nt = nt ++ ts.map nk
  | [], _, _, _, _ => by simp
  | t :: ts, a, nt, ⟨h1, h2, h3, h4⟩, hk => by
    have e : absI t.2 = t.2.natAbs := by unfold absI; split <;> omega
    have n : absI t.2 ∉ keyN nt := fun z => by have := hk _ z; omega
    have s : netStep nt t = nt ++ [nk t] := by
      rw [netStep_eq, aget_none n]
      unfold aput
      rw [if_neg (fun z => n (any_key.mp z))]
      simp [nk]
    rw [List.foldl_cons, s, net_row h4]
    · simp
    · intro s hs
      simp only [keyN, List.map_append, List.mem_append] at hs
      rcases hs with hs | hs
      · have := hk s hs; omega
      · simp [nk] at hs; omega
theorem aget_row {t : Int × Int} : ∀ {ts : Terms} {a : Int}, TermsOk a ts → t ∈ ts → aget (ts.map nk) (absI t.2) = sgn t
  | u :: ts, a, ⟨h1, h2, h3, h4⟩, h => by
    rw [List.map_cons, aget_cons]
    rcases List.mem_cons.mp h with rfl | h
    · simp [nk]
    · have e : absI u.2 = u.2.natAbs := by unfold absI; split <;> omega
      have m : absI t.2 ∈ keyN (ts.map nk) := List.mem_map.mpr ⟨nk t, List.mem_map.mpr ⟨t, h, rfl⟩, rfl⟩
      have := rises_gt (rises_keys h4) m
      have n : ¬ (nk u).1 = absI t.2 := by show ¬ absI u.2 = absI t.2; omega
      rw [if_neg n]; exact aget_row h4 h
theorem terms_mem {t : Int × Int} : ∀ {ts : Terms} {a : Int}, TermsOk a ts → t ∈ ts → 1 ≤ t.1 ∧ LitOk t.2
  | u :: ts, a, ⟨h1, h2, h3, h4⟩, h => by
    rcases List.mem_cons.mp h with rfl | h
    · exact ⟨h1, h2⟩
    · exact terms_mem h4 h
theorem outT_row (g : Int → Int) : ∀ {ts : Terms}, (∀ t ∈ ts, 1 ≤ t.1 ∧ LitOk t.2 ∧ g (absI t.2) = sgn t) → outT g (keyN (ts.map nk)) = ts ∧ negs g (keyN (ts.map nk)) = -(ts.map fun p => if 0 < p.2 then 0 else p.1).sum
  | [], _ => ⟨rfl, rfl⟩
  | t :: ts, h => by
    obtain ⟨i1, i2⟩ := outT_row g (ts := ts) fun t ht => h t (List.mem_cons_of_mem _ ht)
    obtain ⟨h1, ⟨h2, h3⟩, h4⟩ := h t List.mem_cons_self
    obtain ⟨m, l⟩ := t
    simp only at h1 h2 h3 h4
    simp only [keyN, List.map_cons, List.map_map] at i1 i2 ⊢
    simp only [outT, nk, h4, negs, List.map_cons, List.sum_cons]
    constructor
    · rw [i1]
      unfold sgn
      by_cases c : 0 < l
      · have : absI l = l := by unfold absI; rw [if_neg (by omega)]
        simp only [c, if_true, this]
        rw [if_pos (by omega)]; rfl
      · have : absI l = -l := by unfold absI; rw [if_pos (by omega)]
        simp only [c, if_false, this]
        rw [if_neg (by omega), if_pos (by omega)]
        simp
    · simp only [negs] at i2
      rw [i2]
      unfold sgn neg0
      by_cases c : 0 < l
      · simp only [c, if_true]; rw [if_neg (by omega)]; omega
      · simp only [c, if_false]; rw [if_pos (by omega)]; omega
theorem net_of_row {ts : Terms} (h : TermsOk 0 ts) : netF ts = ts.map nk := by
  have := net_row (nt := []) h (by simp [keyN])
  simpa [netF] using this
theorem merged_row {ts : Terms} (h : TermsOk 0 ts) (l : Int) : mergedF ts l = (ts, l) := by
  have o := outT_row (aget (ts.map nk)) (ts := ts) fun t ht => ⟨(terms_mem h ht).1, (terms_mem h ht).2, aget_row h ht⟩
  rw [merged_eq, net_of_row h, sortI_rises (rises_keys h), o.1, o.2, lessF_eq]
  congr 1; omega
/-! an axiom takes a term away -/
theorem negs_put (g : Int → Int) (s0 : Int) : ∀ {ks : List Int}, ks.Nodup → negs (fun s => if s = s0 then 0 else g s) ks = negs g ks - if s0 ∈ ks then neg0 (g s0) else 0
  | [], _ => by simp [negs]
  | s :: ks, h => by
    rw [List.nodup_cons] at h
    have ih := negs_put g s0 h.2
    simp only [negs, List.map_cons, List.sum_cons] at ih ⊢
    rw [ih]
    by_cases e : s = s0
    · subst e
      simp only [List.mem_cons, true_or, if_true, if_neg h.1]
      simp [neg0]; omega
    · have e2 : ¬ s0 = s := fun z => e z.symm
      simp only [List.mem_cons, e, e2, if_false, false_or]
      omega
theorem merged_less {ts : Terms} (h : TermsOk 0 ts) (l : Int) {t : Int × Int} (ht : t ∈ ts) :
    (mergedF (ts ++ [(t.1, -t.2)]) l).2 = l - t.1 ∧ ∀ u ∈ (mergedF (ts ++ [(t.1, -t.2)]) l).1, u.2 ≠ t.2 := by
  obtain ⟨h1, h2, h3⟩ := terms_mem h ht
  have ea : absI (-t.2) = absI t.2 := by unfold absI; split <;> split <;> omega
  have es : sgn (t.1, -t.2) = -sgn t := by
    unfold sgn
    simp only
    split <;> split <;> omega
  have m : absI t.2 ∈ keyN (ts.map nk) := List.mem_map.mpr ⟨nk t, List.mem_map.mpr ⟨t, ht, rfl⟩, rfl⟩
  have en : netF (ts ++ [(t.1, -t.2)]) = aput (ts.map nk) (absI t.2) 0 := by
    have : netF (ts ++ [(t.1, -t.2)]) = netStep (netF ts) (t.1, -t.2) := by simp [netF]
    rw [this, net_of_row h, netStep_eq, es]
    simp only [ea]
    rw [aget_row h ht]
    congr 1; omega
  have ek : keyN (aput (ts.map nk) (absI t.2) 0) = keyN (ts.map nk) := by rw [keyN_aput, if_pos m]
  have eg : aget (aput (ts.map nk) (absI t.2) 0) = fun s => if s = absI t.2 then 0 else aget (ts.map nk) s := by
    funext s; rw [aget_aput]
  have hr := rises_keys h
  have nd : (keyN (ts.map nk)).Nodup := by rw [← net_of_row h]; exact nodup_net ts
  have o := outT_row (aget (ts.map nk)) (ts := ts) fun t ht => ⟨(terms_mem h ht).1, (terms_mem h ht).2, aget_row h ht⟩
  rw [merged_eq, en, ek, eg, sortI_rises hr]
  constructor
  · simp only
    rw [negs_put _ _ nd, if_pos m, o.2, lessF_eq, aget_row h ht]
    simp only [List.map_append, List.map_cons, List.map_nil, List.sum_append, List.sum_cons, List.sum_nil]
    unfold sgn neg0
    by_cases c : 0 < t.2
    · rw [if_neg (show ¬ 0 < -t.2 by omega)]; simp only [c, if_true]; rw [if_neg (by omega)]; omega
    · rw [if_pos (show 0 < -t.2 by omega)]; simp only [c, if_false]; rw [if_pos (by omega)]; omega
  · intro u hu e
    have := (outT_mem _ (fun s hs => rises_gt hr hs) hu).2
    rw [e] at this
    simp at this
end K12

set_option Elab.async false
set_option linter.all false
set_option maxRecDepth 100000
set_option maxHeartbeats 2000000
namespace K12
open PySem PySem.Spec PyProof.Rows L2 TL
theorem pure__law_reach : ∀ ds M x Q, ct__law_reach ds M x Q → wpSs ir__law_reach (FinOf x Q) (startE 4 ds) M := by
  rintro ds M x Q ⟨⟨ts, l⟩, f, rfl, hl, h⟩
  simp [ir__law_reach, startE, rowD, termsD, fullD, ixK, dctOf, seqOf, lstOf, catOf, atI, ixN, itK, grd]
  refine ⟨sl_of hl, compGo_opt prD (fun t => if memB f t.2 = true then some (D.int t.1) else none) trivial ts [] (fun a ha acc k hk => ?_) ?_⟩
  · have an : (∃ z ∈ f, flatEq (D.int z) (D.int a.2) = true) ↔ memB f a.2 = true := by
      unfold memB
      simp [flatEq]
    simp [prD, inK, dctOf, seqOf, lstOf, catOf, TL.keyOf, D.flat]
    by_cases c : memB f a.2 = true
    · rw [if_pos (an.mpr c)]
      simpa [c] using hk
    · rw [if_neg (fun z => c (an.mp z))]
      simpa [c] using hk
  · have e : ts.filterMap (fun t => if memB f t.2 = true then some (D.int t.1) else none) = ((ts.filter fun t => memB f t.2).map (·.1)).map D.int := by
      clear hl h
      induction ts with
      | nil => rfl
      | cons t ts ih =>
        cases c : memB f t.2 with
        | true => simp [List.filterMap_cons, List.filter_cons, c, ih]
        | false => simp [List.filterMap_cons, List.filter_cons, c, ih]
    rw [List.nil_append, e, intsOf_map]
    exact fin_same h
theorem pure__law_fits : ∀ ds M x Q, ct__law_fits ds M x Q → wpSs ir__law_fits (FinOf x Q) (startE 3 ds) M := by
  rintro ds M x Q ⟨rows, f, rfl, hl, hr, h⟩
  simp [ir__law_fits, startE, itK, seqOf, lstOf, catOf, grd]
  refine ⟨sl_of hl, compGo_map rowD (fun r => D.bl (decide (r.2 ≤ reachF r f))) trivial rows (fun a ha acc k hk => ?_) ?_⟩
  · refine ⟨a, f, rfl, hr a ha, ?_⟩
    simpa [rowD, ixK, dctOf, seqOf, lstOf, catOf, atI, ixN, TL.keyOf] using hk
  · have e : rows.map (fun r => D.bl (decide (r.2 ≤ reachF r f))) = (rows.map fun r => decide (r.2 ≤ reachF r f)).map D.bl := by simp
    rw [e, boolsOf_map]
    refine fin_same ?_
    rw [List.all_map]; exact h
theorem bools_true {α : Type} : ∀ xs : List α, boolsOf (xs.map fun _ => D.bl true) = some (List.replicate xs.length true)
  | [] => rfl
  | _ :: xs => by simp [boolsOf, bools_true xs, List.replicate_succ]
theorem pure_is_row : ∀ ds M x Q, ct_is_row ds M x Q → wpSs ir_is_row (FinOf x Q) (startE 1 ds) M := by
  rintro ds M x Q ⟨⟨ts, l⟩, rfl, ht, h⟩
  simp [ir_is_row, startE, rowD, i3, dctOf, seqOf, lstOf, catOf, eqK, ixK, atI, ixN, TL.keyOf]
  exact ⟨ts, rfl, ht, ⟨l, rfl, fin_same h⟩⟩
theorem pure_are_terms : ∀ ds M x Q, ct_are_terms ds M x Q → wpSs ir_are_terms (FinOf x Q) (startE 3 ds) M := by
  rintro ds M x Q ⟨ts, rfl, ht, h⟩
  simp [ir_are_terms, startE, termsD, i3, itK, seqOf, lstOf, catOf, grd]
  refine forGo_inv prD (fun (r : Terms) env M' => ∃ (z2 : Option D) (a : Int), env = [some (termsD ts), some (.int a), z2] ∧ M' = M ∧ TermsOk a r) (fun _ _ _ _ => trivial) ?_ ?_ _ _ _ ?_
  · rintro env M' ⟨z2, a, rfl, rfl, _⟩
    exact fin_same h
  · rintro ⟨m, l⟩ r env M' k ⟨z2, a, rfl, rfl, h1, h2, h3, h4⟩ hk
    simp [prD, i3, dctOf, seqOf, lstOf, catOf, eqK, ixK, atI, ixN, TL.keyOf]
    simp only at h1 h2 h3 h4
    refine ⟨m, rfl, ?_⟩
    simp only [if_true]
    rw [if_neg (by omega)]
    refine ⟨l, rfl, h2, ?_⟩
    simp only [if_true]
    rw [if_neg (by split <;> omega)]
    exact hk _ _ ⟨_, _, rfl, rfl, by rw [show (if l < 0 then -l else l) = (l.natAbs : Int) by split <;> omega]; exact h4⟩
  · exact ⟨_, 0, rfl, rfl, ht⟩
theorem pure_Rows_switches : ∀ ds M x Q, ct_Rows_switches ds M x Q → wpSs ir_Rows_switches (FinOf x Q) (startE 1 ds) M := by
  rintro ds M x Q ⟨p, many, rows, rfl, hM, h⟩
  simp [ir_Rows_switches, startE, fldK, insK, hM, rowsI]
  exact fin_same h
theorem pure_check_rows : ∀ ds M x Q, ct_check_rows ds M x Q → wpSs ir_check_rows (FinOf x Q) (startE 1 ds) M := by
  rintro ds M x Q ⟨p, many, rows, rfl, hM, h⟩
  simp [ir_check_rows, startE, hM, rowsI]
  exact fin_same h
theorem pure_Rows_rows : ∀ ds M x Q, ct_Rows_rows ds M x Q → wpSs ir_Rows_rows (FinOf x Q) (startE 1 ds) M := by
  rintro ds M x Q ⟨p, many, rows, rfl, hM, h⟩
  simp [ir_Rows_rows, startE, fldK, insK, hM, rowsI, List.lookup]
  exact fin_same h
end K12

set_option Elab.async false
set_option linter.all false
set_option maxRecDepth 100000
set_option maxHeartbeats 2000000
namespace K12
open PySem PySem.Spec PyProof.Rows L2 TL
/-! rows as data -/
theorem pr_plain (p : Int × Int) : (prD p).plain = true := rfl
theorem pr_deep (p : Int × Int) : (prD p).deep ≤ 1 := by simp [prD, D.deep, deeps]
theorem terms_pok (ts : Terms) : (termsD ts).pok = true := by
  have := deeps_map pr_deep ts
  show (plains (ts.map prD) && decide (deeps (ts.map prD) + 1 ≤ 60)) = true
  rw [plains_map pr_plain, Bool.true_and]
  exact decide_eq_true (by omega)
theorem row_pok (r : RowP) : (rowD r).pok = true := by
  have := deeps_map pr_deep r.1
  show ((plains (r.1.map prD) && true) && decide (max (deeps (r.1.map prD) + 1) (max 0 0) + 1 ≤ 60)) = true
  rw [plains_map pr_plain, Bool.true_and, Bool.true_and]
  exact decide_eq_true (by omega)
/-- what is in a row is at most so great -/
def RB (B : Nat) (r : RowP) : Prop := r.2.natAbs ≤ B ∧ ∀ t ∈ r.1, t.1.natAbs ≤ B
theorem row_show {r : RowP} {B : Nat} (h : RB B r) (hB : B < 10 ^ 12) (hl : ∀ t ∈ r.1, LitOk t.2) (n : r.1.length ≤ 1000) : (rowD r).s12 = true ∧ (rowD r).wt ≤ 2 ^ 20 := by
  unfold rowD termsD
  have e : (10 : Nat) ^ 12 = 1000000000000 := by decide
  have a : s12s (r.1.map prD) = true := s12s_map fun t ht => by
    have h1 := h.2 t ht
    have h2 := (hl t ht).2
    simp only [prD, D.s12, s12s, Bool.and_true, Bool.and_eq_true, decide_eq_true_eq]
    omega
  have b := wts_map (f := prD) (n := 82) (xs := r.1) fun t _ => by simp [prD, D.wt, wts]
  have h1 := h.1
  constructor
  · simp only [D.s12, s12s, a, Bool.true_and, Bool.and_true, decide_eq_true_eq]; omega
  · simp only [D.wt, wts]
    have : r.1.length * 83 ≤ 1000 * 83 := Nat.mul_le_mul_right _ n
    have e2 : (2 : Nat) ^ 20 = 1048576 := by decide
    omega
/-! how great it gets -/
theorem netOf_le {B : Nat} {s : Int} : ∀ {ps : Terms}, (∀ p ∈ ps, p.1.natAbs ≤ B) → (netOf ps s).natAbs ≤ ps.length * B
  | [], _ => by simp [netOf]
  | p :: ps, h => by
    have a := h p List.mem_cons_self
    have b := netOf_le (s := s) (ps := ps) fun q hq => h q (List.mem_cons_of_mem _ hq)
    have c : (sgn p).natAbs ≤ B := by unfold sgn; split <;> omega
    simp only [netOf, List.map_cons, List.sum_cons, List.length_cons, Nat.add_mul] at b ⊢
    split <;> omega
theorem neg_le {B : Nat} : ∀ {ps : Terms}, (∀ p ∈ ps, p.1.natAbs ≤ B) → ((ps.map fun (p : Int × Int) => if 0 < p.2 then (0 : Int) else p.1).sum).natAbs ≤ ps.length * B
  | [], _ => by simp
  | p :: ps, h => by
    have a := h p List.mem_cons_self
    have b := neg_le (ps := ps) fun q hq => h q (List.mem_cons_of_mem _ hq)
    simp only [List.map_cons, List.sum_cons, List.length_cons, Nat.add_mul] at b ⊢
    split <;> omega
theorem negs_le {B : Nat} {g : Int → Int} (h : ∀ s, (g s).natAbs ≤ B) : ∀ ks : List Int, (negs g ks).natAbs ≤ ks.length * B
  | [] => by simp [negs]
  | s :: ks => by
    have a := h s
    have b := negs_le h ks
    have c : (neg0 (g s)).natAbs ≤ B := by unfold neg0; split <;> omega
    simp only [negs, List.map_cons, List.sum_cons, List.length_cons, Nat.add_mul] at b ⊢
    omega
theorem outT_le {B : Nat} {g : Int → Int} (h : ∀ s, (g s).natAbs ≤ B) {t : Int × Int} : ∀ {ks : List Int}, t ∈ outT g ks → t.1.natAbs ≤ B
  | [], m => by simp [outT] at m
  | s :: ks, m => by
    have a := h s
    simp only [outT, List.mem_append] at m
    rcases m with m | m
    · split at m
      · simp at m; subst m; exact a
      · split at m
        · simp at m; subst m; simp only; omega
        · simp at m
    · exact outT_le h m
theorem merged_le {ps : Terms} {l : Int} {B : Nat} (hn : ps.length ≤ 60) (h : ∀ p ∈ ps, p.1.natAbs ≤ B) : RB (l.natAbs + 3660 * B) (mergedF ps l) := by
  have g : ∀ s, (aget (netF ps) s).natAbs ≤ 60 * B := fun s => by
    rw [aget_net]
    exact Nat.le_trans (netOf_le h) (Nat.mul_le_mul_right _ hn)
  rw [merged_eq]
  constructor
  · simp only
    rw [lessF_eq]
    have a := Nat.le_trans (neg_le h) (Nat.mul_le_mul_right B hn)
    have b := negs_le g (sortI (keyN (netF ps)))
    have k : (sortI (keyN (netF ps))).length ≤ 60 := by
      rw [(sortI_perm _).length_eq]
      have := len_net ps
      simp only [keyN, List.length_map]; omega
    have c := Nat.le_trans b (Nat.mul_le_mul_right (60 * B) k)
    omega
  · intro t ht
    have := outT_le g ht
    omega
theorem merged_lits {ps : Terms} (h : PairsOk ps) (l : Int) {m : Int} (g : ∀ p ∈ ps, (p.2.natAbs : Int) ≤ m) : ∀ t ∈ (mergedF ps l).1, (t.2.natAbs : Int) ≤ m := fun t ht => by
  rw [merged_eq] at ht
  have a := (outT_mem _ (fun s hs => rises_gt (keys_rise h) hs) ht).1
  obtain ⟨p, hp, e⟩ := (keyN_net ps _).mp (sort_mem.mp a)
  have := g p hp
  have e1 : absI t.2 = t.2.natAbs := by unfold absI; split <;> omega
  have e2 : absI p.2 = p.2.natAbs := by unfold absI; split <;> omega
  omega
end K12

set_option Elab.async false
set_option linter.all false
set_option maxRecDepth 100000
set_option maxHeartbeats 2000000
namespace K12
open PySem PySem.Spec PyProof.Rows L2 TL
theorem eq_nil (M : Mm) (ts : Terms) (k : Bool → Prop) (h : k (decide (ts = []))) : eqK M (termsD ts) (.tup []) k := by
  show eqP (termsD ts) (.tup []) k
  refine ⟨terms_pok ts, rfl, ?_⟩
  cases ts with
  | nil => exact h
  | cons t ts => simpa [termsD, D.py, pys, PyData.eqv, PyData.eqvAll] using h
theorem last_in {xs : List D} (h : xs ≠ []) : ∃ d, atI xs (-1) = some d ∧ d ∈ xs := by
  have : 0 < xs.length := List.length_pos_iff.mpr h
  refine ⟨xs[xs.length - 1], ?_, List.getElem_mem _⟩
  unfold atI ixN
  rw [if_neg (by decide), if_pos (by omega)]
  simp
  have e : (-1 + (xs.length : Int)).toNat = xs.length - 1 := by omega
  rw [e]; simp [this]
theorem at2_0 (a b : D) : atI [a, b] 0 = some a := rfl
theorem at2_1 (a b : D) : atI [a, b] 1 = some b := rfl
theorem pure_Rows___init__ : ∀ ds M x Q, ct_Rows___init__ ds M x Q → wpSs ir_Rows___init__ (FinOf x Q) (startE 4 ds) M := by
  rintro ds M x Q ⟨p, many, rows, rfl, hM, h0, h1, hl, hr, h⟩
  simp [ir_Rows___init__, startE, i3]
  refine ⟨_, _, _, rfl, h0, h1, ?_⟩
  simp [i3, dctOf, seqOf, lstOf, catOf, itK, grd]
  refine ⟨by omega, ?_⟩
  refine forGo_inv rowD (fun (r : List RowP) env M' => ∃ z3 : Option D, env = [some (.ref p), some (.int many), some (.tup (rows.map rowD)), z3] ∧ M' = M ∧ ∀ a ∈ r, RowOk many a) (fun _ _ _ _ => trivial) ?_ ?_ _ _ _ ?_
  · rintro env M' ⟨z3, rfl, rfl, _⟩
    simp [sfK, insK, hM, mput_same, putF']
    exact fin_same h
  · rintro ⟨ts, l⟩ r env M' k ⟨z3, rfl, rfl, g⟩ hk
    obtain ⟨g1, g2⟩ := g _ List.mem_cons_self
    have hk2 := hk [some (.ref p), some (.int many), some (.tup (rows.map rowD)), some (rowD (ts, l))] M' ⟨_, rfl, rfl, fun a ha => g a (List.mem_cons_of_mem _ ha)⟩
    simp
    refine ⟨_, rfl, g1, rfl, ?_⟩
    simp [rowD, dctOf, seqOf, lstOf, catOf, ixK, at2_0, at2_1]
    refine eq_nil _ _ _ ?_
    by_cases c : ts = []
    · simp [c]; simpa [rowD, c] using hk2
    · simp [c]
      obtain ⟨d, e, hd⟩ := last_in (xs := ts.map prD) (by simpa using c)
      obtain ⟨t, ht, rfl⟩ := List.mem_map.mp hd
      have b := g2 t ht
      simp [termsD, e, prD, dctOf, seqOf, lstOf, catOf, at2_1]
      refine ⟨by split <;> omega, hk2⟩
  · exact ⟨_, rfl, rfl, hr⟩
theorem bools_false {α : Type} : ∀ xs : List α, boolsOf (xs.map fun _ => D.bl false) = some (List.replicate xs.length false)
  | [] => rfl
  | _ :: xs => by simp [boolsOf, bools_false xs, List.replicate_succ]
theorem full_mem {f g : List Int} {s : Int} : memB (f ++ g) s = (memB f s || memB g s) := by unfold memB; rw [List.any_append]
theorem pure__law_fulls : ∀ ds M x Q, ct__law_fulls ds M x Q → wpSs ir__law_fulls (FinOf x Q) (startE 4 ds) M := by
  rintro ds M x Q ⟨m, rfl, h1, h2, h⟩
  simp [ir__law_fulls, startE]
  refine ⟨sl1, by omega, by omega, ?_⟩
  rw [rangeD_map]
  refine forGo_inv D.int (fun (r : List Int) env M' => ∃ (fs : List (List Int)) (z2 z3 : Option D) (a : Int), env = [some (.int m), some (.lst (fs.map fullD)), z2, z3] ∧ M' = M ∧ r = (List.range (m - a).toNat).map (fun i : Nat => a + 1 + (i : Int)) ∧ 0 ≤ a ∧ a ≤ m ∧ (∀ f ∈ fs, FullOk a f ∧ (∀ z ∈ f, (z.natAbs : Int) ≤ a) ∧ (f.length : Int) ≤ a) ∧ fs.length = 2 ^ a.toNat) (fun _ _ _ _ => trivial) ?_ ?_ _ _ _ ?_
  · rintro env M' ⟨fs, z2, z3, a, rfl, rfl, e, a0, a1, g1, g2⟩
    have e2 : (m - a).toNat = 0 := by simpa using (congrArg List.length e).symm
    have e3 : a = m := by omega
    subst e3
    simp
    refine fin_same (h fs (fun f hf => (g1 f hf).1) ?_)
    rw [g2]
    have : a.toNat ≤ 6 := by omega
    exact Nat.le_trans (Nat.pow_le_pow_right (by decide) this) (by decide)
  · rintro s r env M' k ⟨fs, z2, z3, a, rfl, rfl, e, a0, a1, g1, g2⟩ hk
    have lt : a < m := by
      by_cases c : a < m
      · exact c
      · have : (m - a).toNat = 0 := by omega
        rw [this] at e; cases e
    have e1 : (m - a).toNat = (m - (a + 1)).toNat + 1 := by omega
    rw [e1, List.range_succ_eq_map, List.map_cons, List.cons.injEq] at e
    obtain ⟨es, er⟩ := e
    have es : s = a + 1 := by simpa using es
    have lf : fs.length ≤ 64 := by
      rw [g2]
      have : a.toNat ≤ 6 := by omega
      exact Nat.le_trans (Nat.pow_le_pow_right (by decide) this) (by decide)
    simp [itK, seqOf, lstOf, catOf, grd]
    refine ⟨sl_of (by omega), compGo_map fullD (fun f => D.lst [fullD (f ++ [-s]), fullD (f ++ [s])]) trivial fs (fun f hf acc k hk => ?_) ?_⟩
    · have := (g1 f hf).2.2
      simp [fullD]
      refine ⟨sl1, sl_of (by omega), sl1, sl_of (by omega), sl2, ?_⟩
      simpa [fullD] using hk
    · have ll : ∀ fs : List (List Int), lstsOf M' (fs.map fun f => D.lst [fullD (f ++ [-s]), fullD (f ++ [s])]) = some (fs.map fun f => [fullD (f ++ [-s]), fullD (f ++ [s])]) := by
        intro fs
        induction fs with
        | nil => rfl
        | cons f fs ih => simp [lstsOf, ih, TL.catOf, TL.lstOf]
      have fl : ∀ fs : List (List Int), (fs.map fun f => [fullD (f ++ [-s]), fullD (f ++ [s])]).flatten = (fs.flatMap fun f => [f ++ [-s], f ++ [s]]).map fullD := by
        intro fs
        induction fs with
        | nil => rfl
        | cons f fs ih => simp [ih]
      have ln : ∀ fs : List (List Int), (fs.flatMap fun f => [f ++ [-s], f ++ [s]]).length = 2 * fs.length := by
        intro fs
        induction fs with
        | nil => rfl
        | cons f fs ih => simp [ih]; omega
      show someK (lstsOf M' (fs.map fun f => D.lst [fullD (f ++ [-s]), fullD (f ++ [s])])) fun ys => ys.flatten.length ≤ sizeLine ∧ k [some (D.int m), some (D.lst ys.flatten), some (D.int s), z3] M'
      rw [ll fs]
      show (List.flatten _).length ≤ sizeLine ∧ k [some (D.int m), some (D.lst (List.flatten _)), some (D.int s), z3] M'
      rw [fl fs]
      refine ⟨sl_of (by simp [ln]; omega), hk _ _ ⟨_, _, _, a + 1, rfl, rfl, ?_, by omega, by omega, ?_, ?_⟩⟩
      · rw [er, List.map_map]
        refine List.map_congr_left fun i _ => ?_
        simp only [Function.comp]
        omega
      · intro f hf
        obtain ⟨g, hg, hf⟩ := List.mem_flatMap.mp hf
        obtain ⟨g3, g4, g5⟩ := g1 g hg
        have n1 : ∀ z, a < (z.natAbs : Int) → memB g z = false := fun z hz => by
          unfold memB
          rw [List.any_eq_false]
          intro y hy e
          have := g4 y hy
          simp at e; subst e; omega
        have q : ∀ z, z = s ∨ z = -s → FullOk (a + 1) (g ++ [z]) ∧ (∀ y ∈ g ++ [z], (y.natAbs : Int) ≤ a + 1) ∧ ((g ++ [z]).length : Int) ≤ a + 1 := fun z hz => by
          refine ⟨fun t t1 t2 => ?_, fun y hy => ?_, by simp; omega⟩
          · rw [full_mem, full_mem]
            by_cases c : t = a + 1
            · rw [n1 t (by omega), n1 (-t) (by omega)]
              have e1 : ∀ u v : Int, memB [u] v = decide (u = v) := fun u v => by unfold memB; simp
              rw [e1, e1, Bool.false_or, Bool.false_or]
              rcases hz with hz | hz
              · rw [decide_eq_false (show ¬ z = -t by omega), decide_eq_true (show z = t by omega)]; rfl
              · rw [decide_eq_true (show z = -t by omega), decide_eq_false (show ¬ z = t by omega)]; rfl
            · have e1 : memB [z] t = false := by unfold memB; simp; omega
              have e2 : memB [z] (-t) = false := by unfold memB; simp; omega
              rw [e1, e2, Bool.or_false, Bool.or_false]
              exact g3 t t1 (by omega)
          · rcases List.mem_append.mp hy with hy | hy
            · have := g4 y hy; omega
            · simp at hy; subst hy; omega
        simp only [List.mem_cons, List.not_mem_nil, or_false] at hf
        rcases hf with rfl | rfl
        · exact q _ (.inr rfl)
        · exact q _ (.inl rfl)
      · rw [ln, g2, show (a + 1).toNat = a.toNat + 1 by omega, Nat.pow_succ]; omega
  · refine ⟨[[]], _, _, 0, rfl, rfl, ?_, by omega, by omega, ?_, rfl⟩
    · simp
    · intro f hf
      simp at hf; subst hf
      exact ⟨fun s s1 s2 => by omega, by simp, by simp⟩
end K12

set_option Elab.async false
set_option linter.all false
set_option maxRecDepth 100000
set_option maxHeartbeats 2000000
namespace K12
open PySem PySem.Spec PyProof.Rows L2 TL
theorem PotO.mono {o : TL.PO} {c d : Int} (h : PotO o c) (e : c ≤ d) : PotO o d := by
  obtain ⟨a, b, n, h0, h1, h2, h3, h4, h5⟩ := h
  exact ⟨a, b, n, h0, h1, h2, h3, h4, by omega⟩
/-- before what is below nought is cut off -/
def Pre (many : Int) (r : RowP) : Prop := RowOk many r ∧ r.1.length ≤ 6 ∧ Sm r.2 ∧ ∀ t ∈ r.1, Sm t.1
def PairOk (many : Int) (p : Int × Int) : Prop := 1 ≤ p.1 ∧ p.1 ≤ 9 ∧ 1 ≤ (p.2.natAbs : Int) ∧ (p.2.natAbs : Int) ≤ many
theorem pre_of {many l : Int} {ps : Terms} (hm : many ≤ 6) (h : ∀ p ∈ ps, PairOk many p) (n : ps.length ≤ 6) (hl : l.natAbs ≤ 1000) : Pre many (mergedF ps l) := by
  have po : PairsOk ps := fun p hp => by
    obtain ⟨_, _, a, b⟩ := h p hp
    exact ⟨by omega, by omega⟩
  have e : (2 : Nat) ^ 20 = 1048576 := by decide
  obtain ⟨b1, b2⟩ := merged_le (ps := ps) (l := l) (B := 9) (by omega) fun p hp => by
    obtain ⟨a, b, _⟩ := h p hp
    omega
  refine ⟨⟨merged_ok po l, merged_lits po l fun p hp => (h p hp).2.2.2⟩, Nat.le_trans (merged_len _ _) n, ?_, fun t ht => ?_⟩
  · unfold Sm; omega
  · have := b2 t ht
    unfold Sm; omega
theorem sum_le {many : Int} : ∀ {ps : Terms}, (∀ p ∈ ps, PairOk many p) → 0 ≤ (ps.map (·.1)).sum ∧ (ps.map (·.1)).sum ≤ 9 * ps.length
  | [], _ => by simp
  | p :: ps, h => by
    have := sum_le (ps := ps) fun q hq => h q (List.mem_cons_of_mem _ hq)
    obtain ⟨a, b, _⟩ := h p List.mem_cons_self
    simp only [List.map_cons, List.sum_cons, List.length_cons]
    omega
theorem pure__law_drawn : ∀ ds M x Q, ct__law_drawn ds M x Q → wpSs ir__law_drawn (FinOf x Q) (startE 14 ds) M := by
  rintro ds M x Q ⟨p, o, c, many, n, rfl, hM, ho, m1, m5, n0, n4, hc, h⟩
  simp [ir__law_drawn, startE]
  intro f hf
  have fp : f ≠ p := fun z => by subst z; rw [hM] at hf; cases hf
  refine ⟨by omega, by omega, ?_⟩
  rw [rangeD_map]
  refine forGo_inv D.int (fun (r : List Int) env M' => ∃ (z4 z5 z6 z7 z8 : Option D) (rows : List RowP) (o' : TL.PO), env = [some (.ref p), some (.int many), some (.int n), some (.ref f), z4, z5, z6, z7, z8, none, none, none, none, none] ∧
      M' p = some o' ∧ PotO o' (c + 26 * rows.length) ∧ M' f = some (.lst (rows.map rowD)) ∧ (∀ r ∈ rows, Pre many r) ∧ (∀ a u, a ≠ p → M a = some u → M' a = some u) ∧ (rows.length : Int) + r.length = n) (fun _ _ _ _ => trivial) ?_ ?_ _ _ _ ?_
  · rintro env M' ⟨z4, z5, z6, z7, z8, rows, o', rfl, e1, e2, e3, e4, e5, e6⟩
    simp at e6
    simp [itK, seqOf, lstOf, catOf, e3, grd]
    refine ⟨sl_of (by omega), compGo_map rowD (fun r => rowD (r.1, if 0 < r.2 then r.2 else 0)) e3 rows (fun a hin acc k hk => ?_) ?_⟩
    · simp [rowD]
      exact ⟨sl2, by simpa [rowD] using hk⟩
    · have e : rows.map (fun r => rowD (r.1, if 0 < r.2 then r.2 else 0)) = (rows.map fun r => (r.1, if 0 < r.2 then r.2 else 0)).map rowD := by simp
      rw [e]
      refine fin_sub ?_ (h _ o' (by simpa using e6) ?_ (e2.mono (by omega)))
      · intro a u ha
        by_cases z : a = p
        · subst z; rw [mput_same] at ha; cases ha; exact e1
        · rw [mput_ne z] at ha; exact e5 a u z ha
      · intro r hr
        obtain ⟨u, hu, rfl⟩ := List.mem_map.mp hr
        obtain ⟨a1, a2, a3, a4⟩ := e4 u hu
        refine ⟨a1, a2, ?_, a4⟩
        unfold Sm at *
        simp only
        split <;> omega
  · rintro s r env M' k ⟨z4, z5, z6, z7, z8, rows, o', rfl, e1, e2, e3, e4, e5, e6⟩ hk
    simp at e6
    simp
    refine ⟨by unfold rgOk; omega, p, many, o', _, rfl, e1, e2, by omega, by omega, by omega, fun r1 o1 r10 r11 ho1 => ?_⟩
    rw [rangeD_map]
    refine ⟨p, _, 1 + r1, o1, _, rfl, by simp, ho1, by omega, by simp; omega, by simp; omega, by omega, fun q ys rs o2 hq ho2 ly hp => ?_⟩
    simp
    have qp : q ≠ p := fun z => by subst z; rw [mput_same] at hq; cases hq
    have hq' : M' q = none := by rwa [mput_ne qp] at hq
    have qf : f ≠ q := ne_of_M e3 hq'
    have yb : ∀ y ∈ ys, 1 ≤ y ∧ y ≤ many := fun y hy => by
      have := hp.mem_iff.mp (List.mem_append_left rs hy)
      simp at this
      obtain ⟨i, i1, rfl⟩ := this
      omega
    generalize hc1 : c + 26 * (rows.length : Int) = c1 at *
    refine ⟨by rw [sizeLine_eq]; decide, p, _, o2, _, rfl, by rw [mput_ne (Ne.symm qp), mput_same], ho2, by omega, by simp, by simp, fun d o3 hd ho3 => ?_⟩
    have hd' : ∃ u : Int, d = .int u ∧ 1 ≤ u ∧ u ≤ 9 := by
      simp at hd
      rcases hd with rfl | rfl | rfl <;> exact ⟨_, rfl, by decide, by decide⟩
    obtain ⟨u, rfl, u1, u2⟩ := hd'
    simp [itK, grd]
    generalize hM1 : mput (mput (mput M' p o2) q (.lst (ys.map D.int))) p o3 = M1
    have M1q : M1 q = some (.lst (ys.map D.int)) := by rw [← hM1, mput_ne qp, mput_same]
    have M1p : M1 p = some o3 := by rw [← hM1, mput_same]
    have M1f : M1 f = some (.lst (rows.map rowD)) := by rw [← hM1, mput_ne fp, mput_ne qf, mput_ne fp]; exact e3
    have M1a : ∀ a w, a ≠ p → M a = some w → M1 a = some w := fun a w h1 h2 => by
      have h3 := e5 a w h1 h2
      rw [← hM1, mput_ne h1, mput_ne (ne_of_M h3 hq'), mput_ne h1]; exact h3
    simp [seqOf, lstOf, catOf, M1q]
    refine ⟨sl_of (by omega), compGo_inv D.int (fun (l : List Int) acc M2 => ∃ (ps : Terms) (o4 : TL.PO), acc = ps.map prD ∧ M2 = mput M1 p o4 ∧ PotO o4 (c1 + 8 + 2 * ps.length) ∧ (∀ x ∈ ps, PairOk many x) ∧ ps.length + l.length = ys.length ∧ ∀ y ∈ l, 1 ≤ y ∧ y ≤ many) ?_ ?_ ?_ _ _ _ ?_⟩
    · rintro l acc M2 ⟨ps, o4, rfl, rfl, _⟩
      show mput M1 p o4 q = some _
      rw [mput_ne qp]; exact M1q
    · rintro acc M2 ⟨ps, o4, rfl, rfl, p1, p2, p3, _⟩
      simp at p3
      have lp : ps.length ≤ 6 := by omega
      have sm := sum_le p2
      refine ⟨sl_of (by simp; omega), compGo_map prD (fun t => D.int t.1) trivial ps (fun a ha acc k hk => ?_) ?_⟩
      · simp [prD]; exact hk
      · have e : ps.map (fun t => D.int t.1) = (ps.map (·.1)).map D.int := by simp
        rw [e, intsOf_map]
        have ty : tyOf (mput M1 p o4) (.ref f) = some .list := by
          show (match mput M1 p o4 f with | some (.lst _) => some Ty.list | some (.dct _) => some Ty.dict | _ => none) = _
          rw [mput_ne fp, M1f]
        simp only [ty]
        refine ⟨rfl, p, _, o4, _, rfl, mput_same, p1, by omega, by omega, by omega, fun w1 o5 w10 w11 ho5 => ?_⟩
        refine ⟨p, 9, o5, _, rfl, mput_same, ho5, by omega, by omega, by omega, fun w2 o6 w20 w21 ho6 => ?_⟩
        simp [eqK]
        refine ⟨_, ps, _, rfl, rfl, by omega, ?_⟩
        have mf : mput M1 p o6 f = some (.lst (rows.map rowD)) := by rw [mput_ne fp]; exact M1f
        simp [bmD, mlst, mf]
        have b01 := ite01 (p := w2 = 0)
        refine ⟨by rw [sizeLine_eq]; omega, hk _ _ ⟨_, _, _, _, _, rows ++ [mergedF ps (w1 + if w2 = 0 then 1 else 0)], o6, rfl, ?_, ho6.mono (by simp; omega), ?_, ?_, ?_, by simp; omega⟩⟩
        · rw [mput_ne (Ne.symm fp), mput_same]
        · rw [mput_same]; simp
        · intro r hr
          rcases List.mem_append.mp hr with hr | hr
          · exact e4 r hr
          · simp at hr; subst hr
            exact pre_of m5 p2 lp (by omega)
        · intro a w h1 h2
          have h3 := M1a a w h1 h2
          rw [mput_ne (ne_of_M h2 hf), mput_ne h1]; exact h3
    · rintro y l acc M2 k2 ⟨ps, o4, rfl, rfl, p1, p2, p3, p4⟩ hk2
      simp at p3
      obtain ⟨y1, y2⟩ := p4 y List.mem_cons_self
      simp
      refine ⟨p, u, o4, _, rfl, by simp, p1, by omega, by omega, by omega, fun v1 o5 v10 v11 ho5 => ?_⟩
      simp
      refine ⟨p, 2, o5, _, rfl, by simp, ho5, by omega, by omega, by omega, fun v2 o6 v20 v21 ho6 => ?_⟩
      have fin : ∀ z : Int, z = y ∨ z = -y → k2 (ps.map prD ++ [D.tup [.int (1 + v1), .int z]]) (mput M1 p o6) := fun z hz => hk2 _ _ ⟨ps ++ [(1 + v1, z)], o6, by simp [prD], rfl, ho6.mono (by simp; omega), by
        intro x hx
        rcases List.mem_append.mp hx with hx | hx
        · exact p2 x hx
        · simp at hx; subst hx
          exact ⟨by simp only; omega, by simp only; omega, by simp only; omega, by simp only; omega⟩, by simp; omega, fun t ht => p4 t (List.mem_cons_of_mem _ ht)⟩
      simp [eqK]
      by_cases cz : v2 = 0
      · simp [cz]; exact ⟨sl2, fin _ (.inl rfl)⟩
      · simp [cz]; exact ⟨sl2, fin _ (.inr rfl)⟩
    · exact ⟨[], o3, rfl, by rw [← hM1]; simp, ho3.mono (by simp; omega), by simp, by simp, yb⟩
  · refine ⟨_, _, _, _, _, [], o, rfl, ?_, by simpa using ho, ?_, by simp, ?_, by simp; omega⟩
    · rw [mput_ne (Ne.symm fp)]; exact hM
    · rw [mput_same]; rfl
    · intro a u _ ha
      rw [mput_ne (ne_of_M ha hf)]; exact ha
end K12

set_option Elab.async false
set_option linter.all false
set_option maxRecDepth 100000
set_option maxHeartbeats 2000000
namespace K12
open PySem PySem.Spec PyProof.Rows L2 TL
/-! ### what is forced, plain: the sequence does not matter -/
theorem memB_iff {T : List Int} {z : Int} : memB T z = true ↔ z ∈ T := by
  unfold memB
  rw [List.any_eq_true]
  constructor
  · rintro ⟨y, hy, e⟩
    have e : y = z := by simpa using e
    exact e ▸ hy
  · intro h
    exact ⟨z, h, by simp⟩
theorem memB_false {T : List Int} {z : Int} : memB T z = false ↔ z ∉ T := by
  rw [← memB_iff]; cases memB T z <;> simp
theorem openB_false {T : List Int} {l : Int} : openB T l = false ↔ l ∈ T ∨ -l ∈ T := by
  unfold openB
  rw [Bool.not_eq_false', List.any_eq_true]
  constructor
  · rintro ⟨z, hz, e⟩
    have e : absI z = absI l := by simpa using e
    have : z = l ∨ z = -l := by unfold absI at e; split at e <;> split at e <;> omega
    rcases this with rfl | rfl
    · exact .inl hz
    · exact .inr hz
  · rintro (h | h)
    · exact ⟨l, h, by simp⟩
    · refine ⟨-l, h, ?_⟩
      have : absI (-l) = absI l := by unfold absI; split <;> split <;> omega
      simp [this]
theorem openB_true {T : List Int} {l : Int} : openB T l = true ↔ l ∉ T ∧ -l ∉ T := by
  have := openB_false (T := T) (l := l)
  cases h : openB T l with
  | true => rw [h] at this; simp at this; simp [this.1, this.2]
  | false => rw [h] at this; simp at this; simp; intro a; rcases this with q | q; exact absurd q a; exact q
def wsum (p : Int → Bool) (ts : Terms) : Int := ((ts.filter fun t => p t.2).map (·.1)).sum
theorem wsum_cons (p : Int → Bool) (t : Int × Int) (ts : Terms) : wsum p (t :: ts) = (if p t.2 = true then t.1 else 0) + wsum p ts := by
  unfold wsum
  rw [List.filter_cons]
  split
  · simp
  · simp
theorem wsum_mono {p q : Int → Bool} : ∀ {ts : Terms}, (∀ t ∈ ts, 0 ≤ t.1) → (∀ t ∈ ts, q t.2 = true → p t.2 = true) → wsum q ts ≤ wsum p ts
  | [], _, _ => Int.le_refl _
  | t :: ts, h, g => by
    have ih := wsum_mono (p := p) (q := q) (ts := ts) (fun u hu => h u (List.mem_cons_of_mem _ hu)) fun u hu => g u (List.mem_cons_of_mem _ hu)
    have a := h t List.mem_cons_self
    have b := g t List.mem_cons_self
    rw [wsum_cons, wsum_cons]
    by_cases c : q t.2 = true
    · rw [if_pos c, if_pos (b c)]; omega
    · rw [if_neg c]; split <;> omega
theorem wsum_less {p q : Int → Bool} {m l : Int} : ∀ {ts : Terms}, (∀ t ∈ ts, 0 ≤ t.1) → (∀ t ∈ ts, q t.2 = true → p t.2 = true) → (m, l) ∈ ts → p l = true → q l = false → wsum q ts + m ≤ wsum p ts
  | t :: ts, h, g, hm, hp, hq => by
    have h' : ∀ u ∈ ts, 0 ≤ u.1 := fun u hu => h u (List.mem_cons_of_mem _ hu)
    have g' : ∀ u ∈ ts, q u.2 = true → p u.2 = true := fun u hu => g u (List.mem_cons_of_mem _ hu)
    have a := h t List.mem_cons_self
    have b := g t List.mem_cons_self
    rw [wsum_cons, wsum_cons]
    rcases List.mem_cons.mp hm with e | hm
    · subst e
      have := wsum_mono h' g'
      simp only [hp, hq, if_true, Bool.false_eq_true, if_false]; omega
    · have := wsum_less h' g' hm hp hq
      by_cases c : q t.2 = true
      · rw [if_pos c, if_pos (b c)]; omega
      · rw [if_neg c]; split <;> omega
theorem roomF_eq (T : List Int) (r : RowP) : roomF T r = wsum (fun l => !memB T (-l)) r.1 - r.2 := rfl
def Pos (rows : List RowP) : Prop := ∀ r ∈ rows, ∀ t ∈ r.1, 0 ≤ t.1
theorem room_mono {T U : List Int} {r : RowP} (h : ∀ t ∈ r.1, 0 ≤ t.1) (s : ∀ z ∈ T, z ∈ U) : roomF U r ≤ roomF T r := by
  rw [roomF_eq, roomF_eq]
  have := wsum_mono (p := fun l => !memB T (-l)) (q := fun l => !memB U (-l)) h fun t _ q => by
    simp only [Bool.not_eq_true', memB_false] at q ⊢
    exact fun z => q (s _ z)
  omega
theorem room_off {T U : List Int} {r : RowP} {m l : Int} (h : ∀ t ∈ r.1, 0 ≤ t.1) (s : ∀ z ∈ T, z ∈ U) (hm : (m, l) ∈ r.1) (h1 : -l ∈ U) (h2 : -l ∉ T) : roomF U r + m ≤ roomF T r := by
  rw [roomF_eq, roomF_eq]
  have := wsum_less (p := fun l => !memB T (-l)) (q := fun l => !memB U (-l)) h (fun t _ q => by
    simp only [Bool.not_eq_true', memB_false] at q ⊢
    exact fun z => q (s _ z)) hm (by simp only [Bool.not_eq_true', memB_false]; exact h2) (by simp only [Bool.not_eq_false', memB_iff]; exact h1)
  omega
theorem room_congr {T U : List Int} (s : ∀ z, z ∈ T ↔ z ∈ U) (r : RowP) : roomF T r = roomF U r := by
  have : ∀ z, memB T z = memB U z := fun z => by rw [Bool.eq_iff_iff, memB_iff, memB_iff]; exact s z
  unfold roomF
  simp only [this]
theorem open_congr {T U : List Int} (s : ∀ z, z ∈ T ↔ z ∈ U) (l : Int) : openB T l = openB U l := by
  rw [Bool.eq_iff_iff, openB_true, openB_true, s, s]
/-- what is reached from within a closed lot stays within -/
theorem rch_in {rows rows' : List RowP} {A T B : List Int} (hp : Pos rows) (hs : ∀ r ∈ rows', r ∈ rows) (hc : Clo rows A) (ht : ∀ z ∈ T, z ∈ A) (h : Rch rows' T B) : ∀ z ∈ B, z ∈ A := by
  induction h with
  | refl => exact ht
  | @step U l _ hr ho ih =>
    obtain ⟨r, hin, m, hm, hlt⟩ := hr
    have rin := hs r hin
    obtain ⟨c1, c2⟩ := hc r rin
    intro z hz
    rcases List.mem_append.mp hz with hz | hz
    · exact ih z hz
    · simp at hz; subst hz
      have mono := room_mono (hp r rin) ih
      have := c2 (m, z) hm (by simp only; omega)
      rcases openB_false.mp this with q | q
      · exact q
      · have := room_off (hp r rin) ih hm q (openB_true.mp ho).2
        omega
theorem not_conf {rows rows' : List RowP} {A B : List Int} (hp : Pos rows) (hs : ∀ r ∈ rows', r ∈ rows) (hc : Clo rows A) (hb : ∀ z ∈ B, z ∈ A) : ¬ Conf rows' B := fun ⟨r, hin, hlt⟩ => by
  have := room_mono (hp r (hs r hin)) hb
  have := (hc r (hs r hin)).1
  omega
theorem rch_abs {rows : List RowP} {T B : List Int} (h : Rch rows T B) (n : AbsN T) : AbsN B := by
  induction h with
  | refl => exact n
  | @step U l _ _ ho ih =>
    unfold AbsN at ih ⊢
    rw [List.map_append, List.nodup_append]
    refine ⟨ih, by simp, ?_⟩
    intro a ha b hb e
    simp at hb; subst hb
    obtain ⟨z, hz, ez⟩ := List.mem_map.mp ha
    have o := openB_true.mp ho
    have : z = l ∨ z = -l := by rw [← ez] at e; unfold absI at e; split at e <;> split at e <;> omega
    rcases this with rfl | rfl
    · exact o.1 hz
    · exact o.2 hz
theorem rch_sub {rows : List RowP} {T B : List Int} (h : Rch rows T B) : ∀ z ∈ T, z ∈ B := by
  induction h with
  | refl => exact fun _ h => h
  | step _ _ _ ih => exact fun z hz => List.mem_append_left _ (ih z hz)
theorem rch_trans {rows : List RowP} {T U B : List Int} (h : Rch rows T U) (g : Rch rows U B) : Rch rows T B := by
  induction g with
  | refl => exact h
  | step _ r o ih => exact .step ih r o
theorem rch_lits {many : Int} {rows : List RowP} {T B : List Int} (hr : ∀ r ∈ rows, ∀ t ∈ r.1, t.2 ≠ 0 ∧ (t.2.natAbs : Int) ≤ many) (ht : ∀ l ∈ T, l ≠ 0 ∧ (l.natAbs : Int) ≤ many) (h : Rch rows T B) : ∀ l ∈ B, l ≠ 0 ∧ (l.natAbs : Int) ≤ many := by
  induction h with
  | refl => exact ht
  | step _ hr' _ ih =>
    obtain ⟨r, hin, m, hm, _⟩ := hr'
    intro z hz
    rcases List.mem_append.mp hz with hz | hz
    · exact ih z hz
    · simp at hz; subst hz
      exact hr r hin _ hm
/-! sorted by what they are without sign -/
theorem sortA_perm (ns : List Int) : (sortA ns).Perm ns := List.mergeSort_perm _ _
theorem sortA_pw (ns : List Int) : (sortA ns).Pairwise fun a b => absN a ≤ absN b := by
  have := List.pairwise_mergeSort (le := fun a b => decide (absN a ≤ absN b)) (fun a b c h1 h2 => by simp at *; omega) (fun a b => by simp; omega) ns
  exact this.imp fun h => by simpa using h
theorem abs_inj {T : List Int} (n : AbsN T) {a b : Int} (ha : a ∈ T) (hb : b ∈ T) (e : absI a = absI b) : a = b := by
  induction T with
  | nil => cases ha
  | cons z T ih =>
    unfold AbsN at n
    rw [List.map_cons, List.nodup_cons] at n
    rcases List.mem_cons.mp ha with rfl | ha' <;> rcases List.mem_cons.mp hb with rfl | hb'
    · rfl
    · exact absurd (e ▸ List.mem_map.mpr ⟨b, hb', rfl⟩) n.1
    · exact absurd (e ▸ List.mem_map.mpr ⟨a, ha', rfl⟩) n.1
    · exact ih n.2 ha' hb'
theorem nodup_abs : ∀ {T : List Int}, AbsN T → T.Nodup
  | [], _ => List.nodup_nil
  | z :: T, n => by
    unfold AbsN at n
    rw [List.map_cons, List.nodup_cons] at n
    exact List.nodup_cons.mpr ⟨fun h => n.1 (List.mem_map.mpr ⟨z, h, rfl⟩), nodup_abs n.2⟩
theorem perm_of {A B : List Int} (na : AbsN A) (nb : AbsN B) (h : ∀ z, z ∈ A ↔ z ∈ B) : A.Perm B := (List.perm_ext_iff_of_nodup (nodup_abs na) (nodup_abs nb)).mpr h
theorem sorted_eq : ∀ {A B : List Int}, AbsN A → A.Perm B → A.Pairwise (fun a b => absN a ≤ absN b) → B.Pairwise (fun a b => absN a ≤ absN b) → A = B := fun {A B} na h ha hb => by
  refine List.Perm.eq_of_pairwise (le := fun a b => absN a ≤ absN b) (fun a b h1 h2 h3 h4 => ?_) ha hb h
  exact abs_inj na h1 (h.mem_iff.mpr h2) (Int.le_antisymm h3 h4)
theorem sortA_same {A B : List Int} (na : AbsN A) (nb : AbsN B) (h : ∀ z, z ∈ A ↔ z ∈ B) : sortA A = sortA B := by
  have p := ((sortA_perm A).trans (perm_of na nb h)).trans (sortA_perm B).symm
  refine sorted_eq ?_ p (sortA_pw A) (sortA_pw B)
  unfold AbsN at na ⊢
  exact ((sortA_perm A).map _).nodup_iff.mpr na
/-- one result -/
theorem FR_one {rows rows' : List RowP} {T T' : List Int} {x y : Option (List Int)} (hp : Pos rows) (hr : ∀ r, r ∈ rows ↔ r ∈ rows') (ht : ∀ z, z ∈ T ↔ z ∈ T') (nt : AbsN T) (nt' : AbsN T') (h : FR rows T x) (g : FR rows' T' y) : x = y := by
  have hp' : Pos rows' := fun r h => hp r ((hr r).mpr h)
  rcases h with ⟨rfl, B, h1, h2⟩ | ⟨A, h1, h2, rfl⟩ <;> rcases g with ⟨rfl, B', g1, g2⟩ | ⟨A', g1, g2, rfl⟩
  · rfl
  · exact absurd h2 (not_conf hp' (fun r h => (hr r).mp h) g2 (rch_in hp' (fun r h => (hr r).mp h) g2 (fun z hz => rch_sub g1 z ((ht z).mp hz)) h1))
  · exact absurd g2 (not_conf hp (fun r h => (hr r).mpr h) h2 (rch_in hp (fun r h => (hr r).mpr h) h2 (fun z hz => rch_sub h1 z ((ht z).mpr hz)) g1))
  · rw [sortA_same (rch_abs h1 nt) (rch_abs g1 nt') fun z =>
      ⟨rch_in hp' (fun r h => (hr r).mp h) g2 (fun z hz => rch_sub g1 z ((ht z).mp hz)) h1 z, rch_in hp (fun r h => (hr r).mpr h) h2 (fun z hz => rch_sub h1 z ((ht z).mpr hz)) g1 z⟩]
/-- fewer rows, fewer literals: never less than that -/
theorem FR_less {rows rows' : List RowP} {T T' : List Int} {D : List Int} {y : Option (List Int)} (hp : Pos rows) (hr : ∀ r ∈ rows', r ∈ rows) (ht : ∀ z ∈ T', z ∈ T) (h : FR rows T (some D)) (g : FR rows' T' y) : ∃ E, y = some E ∧ ∀ z ∈ E, z ∈ D := by
  rcases h with ⟨e, _⟩ | ⟨A, h1, h2, e⟩
  · cases e
  · cases e
    have s : ∀ {B}, Rch rows' T' B → ∀ z ∈ B, z ∈ A := fun hB => rch_in hp hr h2 (fun z hz => rch_sub h1 z (ht z hz)) hB
    rcases g with ⟨rfl, B', g1, g2⟩ | ⟨A', g1, g2, rfl⟩
    · exact absurd g2 (not_conf hp hr h2 (s g1))
    · exact ⟨_, rfl, fun z hz => (sortA_perm A).mem_iff.mpr (s g1 z ((sortA_perm A').mem_iff.mp hz))⟩
/-- what it is: the told ones, each switch once, sorted -/
theorem FR_some {many : Int} {rows : List RowP} {T D : List Int} (hl : ∀ r ∈ rows, ∀ t ∈ r.1, t.2 ≠ 0 ∧ (t.2.natAbs : Int) ≤ many) (ht : LitsOk many T) (h : FR rows T (some D)) : LitsOk many D ∧ (∀ z ∈ T, z ∈ D) ∧ FR rows D (some D) := by
  rcases h with ⟨e, _⟩ | ⟨A, h1, h2, e⟩
  · cases e
  · cases e
    have p := sortA_perm A
    have nA := rch_abs h1 ht.1
    have nD : AbsN (sortA A) := by
      unfold AbsN at nA ⊢
      exact (p.map _).nodup_iff.mpr nA
    refine ⟨⟨nD, fun l hl' => rch_lits hl ht.2 h1 l (p.mem_iff.mp hl')⟩, fun z hz => p.mem_iff.mpr (rch_sub h1 z hz), .inr ⟨sortA A, .refl, fun r hr => ?_, ?_⟩⟩
    · have c := h2 r hr
      rw [room_congr (fun z => p.mem_iff) r]
      exact ⟨c.1, fun t ht hlt => by rw [open_congr fun z => p.mem_iff]; exact c.2 t ht hlt⟩
    · congr 1
      exact (sorted_eq nD (sortA_perm (sortA A)).symm (sortA_pw A) (sortA_pw (sortA A)))
/-! FULLS -/
theorem wsum_reach (r : RowP) (f : List Int) : reachF r f = wsum (fun l => memB f l) r.1 := rfl
theorem reach_room {f T : List Int} {r : RowP} (h : ∀ t ∈ r.1, 0 ≤ t.1) (hf : ∀ t ∈ r.1, memB f (-t.2) = !memB f t.2) (s : ∀ z ∈ T, z ∈ f) : reachF r f ≤ roomF T r + r.2 := by
  rw [wsum_reach, roomF_eq]
  have := wsum_mono (p := fun l => !memB T (-l)) (q := fun l => memB f l) h fun t ht q => by
    simp only [Bool.not_eq_true', memB_false]
    intro z
    have := hf t ht
    rw [q, memB_iff.mpr (s _ z)] at this
    cases this
  omega
theorem reach_room_less {f T : List Int} {r : RowP} {m l : Int} (h : ∀ t ∈ r.1, 0 ≤ t.1) (hf : ∀ t ∈ r.1, memB f (-t.2) = !memB f t.2) (s : ∀ z ∈ T, z ∈ f) (hm : (m, l) ∈ r.1) (h1 : -l ∉ T) (h2 : l ∉ f) : reachF r f + m ≤ roomF T r + r.2 := by
  rw [wsum_reach, roomF_eq]
  have := wsum_less (p := fun l => !memB T (-l)) (q := fun l => memB f l) h (fun t ht q => by
    simp only [Bool.not_eq_true', memB_false]
    intro z
    have := hf t ht
    rw [q, memB_iff.mpr (s _ z)] at this
    cases this) hm (by simp only [Bool.not_eq_true', memB_false]; exact h1) (memB_false.mpr h2)
  omega
theorem full_has {rows : List RowP} {f T B : List Int} (hp : Pos rows) (hf : ∀ r ∈ rows, ∀ t ∈ r.1, memB f (-t.2) = !memB f t.2) (fits : ∀ r ∈ rows, r.2 ≤ reachF r f) (ht : ∀ z ∈ T, z ∈ f) (h : Rch rows T B) : ∀ z ∈ B, z ∈ f := by
  induction h with
  | refl => exact ht
  | @step U l _ hr ho ih =>
    obtain ⟨r, hin, m, hm, hlt⟩ := hr
    intro z hz
    rcases List.mem_append.mp hz with hz | hz
    · exact ih z hz
    · simp at hz; subst hz
      by_cases c : z ∈ f
      · exact c
      · have := reach_room_less (hp r hin) (hf r hin) ih hm (openB_true.mp ho).2 c
        have := fits r hin
        omega
theorem full_no_conf {rows : List RowP} {f B : List Int} (hp : Pos rows) (hf : ∀ r ∈ rows, ∀ t ∈ r.1, memB f (-t.2) = !memB f t.2) (fits : ∀ r ∈ rows, r.2 ≤ reachF r f) (hb : ∀ z ∈ B, z ∈ f) : ¬ Conf rows B := fun ⟨r, hin, hlt⟩ => by
  have := reach_room (hp r hin) (hf r hin) hb
  have := fits r hin
  omega
end K12

set_option Elab.async false
set_option linter.all false
set_option maxRecDepth 100000
set_option maxHeartbeats 2000000
namespace K12
open PySem PySem.Spec PyProof.Rows L2 TL
theorem lk_own_rows (E : EA) : (fldsE E).lookup ("own_rows" : Str) = some (.ref E.a1) := by
  simp only [fldsE, List.lookup, show (("own_rows" : Str) == ("own_rows" : Str)) = true from by decide +kernel]
theorem lk_own_room (E : EA) : (fldsE E).lookup ("own_room" : Str) = some (.ref E.a2) := by
  simp only [fldsE, List.lookup, show (("own_room" : Str) == ("own_rows" : Str)) = false from by decide +kernel, show (("own_room" : Str) == ("own_room" : Str)) = true from by decide +kernel]
theorem lk_own_uses (E : EA) : (fldsE E).lookup ("own_uses" : Str) = some (.ref E.a3) := by
  simp only [fldsE, List.lookup, show (("own_uses" : Str) == ("own_rows" : Str)) = false from by decide +kernel, show (("own_uses" : Str) == ("own_room" : Str)) = false from by decide +kernel, show (("own_uses" : Str) == ("own_uses" : Str)) = true from by decide +kernel]
theorem lk_own_on (E : EA) : (fldsE E).lookup ("own_on" : Str) = some (.ref E.a4) := by
  simp only [fldsE, List.lookup, show (("own_on" : Str) == ("own_rows" : Str)) = false from by decide +kernel, show (("own_on" : Str) == ("own_room" : Str)) = false from by decide +kernel, show (("own_on" : Str) == ("own_uses" : Str)) = false from by decide +kernel, show (("own_on" : Str) == ("own_on" : Str)) = true from by decide +kernel]
theorem lk_own_level (E : EA) : (fldsE E).lookup ("own_level" : Str) = some (.ref E.a5) := by
  simp only [fldsE, List.lookup, show (("own_level" : Str) == ("own_rows" : Str)) = false from by decide +kernel, show (("own_level" : Str) == ("own_room" : Str)) = false from by decide +kernel, show (("own_level" : Str) == ("own_uses" : Str)) = false from by decide +kernel, show (("own_level" : Str) == ("own_on" : Str)) = false from by decide +kernel, show (("own_level" : Str) == ("own_level" : Str)) = true from by decide +kernel]
theorem lk_own_reason (E : EA) : (fldsE E).lookup ("own_reason" : Str) = some (.ref E.a6) := by
  simp only [fldsE, List.lookup, show (("own_reason" : Str) == ("own_rows" : Str)) = false from by decide +kernel, show (("own_reason" : Str) == ("own_room" : Str)) = false from by decide +kernel, show (("own_reason" : Str) == ("own_uses" : Str)) = false from by decide +kernel, show (("own_reason" : Str) == ("own_on" : Str)) = false from by decide +kernel, show (("own_reason" : Str) == ("own_level" : Str)) = false from by decide +kernel, show (("own_reason" : Str) == ("own_reason" : Str)) = true from by decide +kernel]
theorem lk_own_trail (E : EA) : (fldsE E).lookup ("own_trail" : Str) = some (.ref E.a7) := by
  simp only [fldsE, List.lookup, show (("own_trail" : Str) == ("own_rows" : Str)) = false from by decide +kernel, show (("own_trail" : Str) == ("own_room" : Str)) = false from by decide +kernel, show (("own_trail" : Str) == ("own_uses" : Str)) = false from by decide +kernel, show (("own_trail" : Str) == ("own_on" : Str)) = false from by decide +kernel, show (("own_trail" : Str) == ("own_level" : Str)) = false from by decide +kernel, show (("own_trail" : Str) == ("own_reason" : Str)) = false from by decide +kernel, show (("own_trail" : Str) == ("own_trail" : Str)) = true from by decide +kernel]
theorem lk_own_starts (E : EA) : (fldsE E).lookup ("own_starts" : Str) = some (.ref E.a8) := by
  simp only [fldsE, List.lookup, show (("own_starts" : Str) == ("own_rows" : Str)) = false from by decide +kernel, show (("own_starts" : Str) == ("own_room" : Str)) = false from by decide +kernel, show (("own_starts" : Str) == ("own_uses" : Str)) = false from by decide +kernel, show (("own_starts" : Str) == ("own_on" : Str)) = false from by decide +kernel, show (("own_starts" : Str) == ("own_level" : Str)) = false from by decide +kernel, show (("own_starts" : Str) == ("own_reason" : Str)) = false from by decide +kernel, show (("own_starts" : Str) == ("own_trail" : Str)) = false from by decide +kernel, show (("own_starts" : Str) == ("own_starts" : Str)) = true from by decide +kernel]
theorem lk_own_queue (E : EA) : (fldsE E).lookup ("own_queue" : Str) = some (.ref E.a9) := by
  simp only [fldsE, List.lookup, show (("own_queue" : Str) == ("own_rows" : Str)) = false from by decide +kernel, show (("own_queue" : Str) == ("own_room" : Str)) = false from by decide +kernel, show (("own_queue" : Str) == ("own_uses" : Str)) = false from by decide +kernel, show (("own_queue" : Str) == ("own_on" : Str)) = false from by decide +kernel, show (("own_queue" : Str) == ("own_level" : Str)) = false from by decide +kernel, show (("own_queue" : Str) == ("own_reason" : Str)) = false from by decide +kernel, show (("own_queue" : Str) == ("own_trail" : Str)) = false from by decide +kernel, show (("own_queue" : Str) == ("own_starts" : Str)) = false from by decide +kernel, show (("own_queue" : Str) == ("own_queue" : Str)) = true from by decide +kernel]
theorem lm_is_off (E : EA) : (fldsE E).lookup ("is_off" : Str) = none := by
  simp only [fldsE, List.lookup, show (("is_off" : Str) == ("own_rows" : Str)) = false from by decide +kernel, show (("is_off" : Str) == ("own_room" : Str)) = false from by decide +kernel, show (("is_off" : Str) == ("own_uses" : Str)) = false from by decide +kernel, show (("is_off" : Str) == ("own_on" : Str)) = false from by decide +kernel, show (("is_off" : Str) == ("own_level" : Str)) = false from by decide +kernel, show (("is_off" : Str) == ("own_reason" : Str)) = false from by decide +kernel, show (("is_off" : Str) == ("own_trail" : Str)) = false from by decide +kernel, show (("is_off" : Str) == ("own_starts" : Str)) = false from by decide +kernel, show (("is_off" : Str) == ("own_queue" : Str)) = false from by decide +kernel]
theorem lm_is_open (E : EA) : (fldsE E).lookup ("is_open" : Str) = none := by
  simp only [fldsE, List.lookup, show (("is_open" : Str) == ("own_rows" : Str)) = false from by decide +kernel, show (("is_open" : Str) == ("own_room" : Str)) = false from by decide +kernel, show (("is_open" : Str) == ("own_uses" : Str)) = false from by decide +kernel, show (("is_open" : Str) == ("own_on" : Str)) = false from by decide +kernel, show (("is_open" : Str) == ("own_level" : Str)) = false from by decide +kernel, show (("is_open" : Str) == ("own_reason" : Str)) = false from by decide +kernel, show (("is_open" : Str) == ("own_trail" : Str)) = false from by decide +kernel, show (("is_open" : Str) == ("own_starts" : Str)) = false from by decide +kernel, show (("is_open" : Str) == ("own_queue" : Str)) = false from by decide +kernel]
theorem lm_levels (E : EA) : (fldsE E).lookup ("levels" : Str) = none := by
  simp only [fldsE, List.lookup, show (("levels" : Str) == ("own_rows" : Str)) = false from by decide +kernel, show (("levels" : Str) == ("own_room" : Str)) = false from by decide +kernel, show (("levels" : Str) == ("own_uses" : Str)) = false from by decide +kernel, show (("levels" : Str) == ("own_on" : Str)) = false from by decide +kernel, show (("levels" : Str) == ("own_level" : Str)) = false from by decide +kernel, show (("levels" : Str) == ("own_reason" : Str)) = false from by decide +kernel, show (("levels" : Str) == ("own_trail" : Str)) = false from by decide +kernel, show (("levels" : Str) == ("own_starts" : Str)) = false from by decide +kernel, show (("levels" : Str) == ("own_queue" : Str)) = false from by decide +kernel]
theorem lm_trail (E : EA) : (fldsE E).lookup ("trail" : Str) = none := by
  simp only [fldsE, List.lookup, show (("trail" : Str) == ("own_rows" : Str)) = false from by decide +kernel, show (("trail" : Str) == ("own_room" : Str)) = false from by decide +kernel, show (("trail" : Str) == ("own_uses" : Str)) = false from by decide +kernel, show (("trail" : Str) == ("own_on" : Str)) = false from by decide +kernel, show (("trail" : Str) == ("own_level" : Str)) = false from by decide +kernel, show (("trail" : Str) == ("own_reason" : Str)) = false from by decide +kernel, show (("trail" : Str) == ("own_trail" : Str)) = false from by decide +kernel, show (("trail" : Str) == ("own_starts" : Str)) = false from by decide +kernel, show (("trail" : Str) == ("own_queue" : Str)) = false from by decide +kernel]
theorem lm_have (E : EA) : (fldsE E).lookup ("have" : Str) = none := by
  simp only [fldsE, List.lookup, show (("have" : Str) == ("own_rows" : Str)) = false from by decide +kernel, show (("have" : Str) == ("own_room" : Str)) = false from by decide +kernel, show (("have" : Str) == ("own_uses" : Str)) = false from by decide +kernel, show (("have" : Str) == ("own_on" : Str)) = false from by decide +kernel, show (("have" : Str) == ("own_level" : Str)) = false from by decide +kernel, show (("have" : Str) == ("own_reason" : Str)) = false from by decide +kernel, show (("have" : Str) == ("own_trail" : Str)) = false from by decide +kernel, show (("have" : Str) == ("own_starts" : Str)) = false from by decide +kernel, show (("have" : Str) == ("own_queue" : Str)) = false from by decide +kernel]
theorem lm_put_on (E : EA) : (fldsE E).lookup ("put_on" : Str) = none := by
  simp only [fldsE, List.lookup, show (("put_on" : Str) == ("own_rows" : Str)) = false from by decide +kernel, show (("put_on" : Str) == ("own_room" : Str)) = false from by decide +kernel, show (("put_on" : Str) == ("own_uses" : Str)) = false from by decide +kernel, show (("put_on" : Str) == ("own_on" : Str)) = false from by decide +kernel, show (("put_on" : Str) == ("own_level" : Str)) = false from by decide +kernel, show (("put_on" : Str) == ("own_reason" : Str)) = false from by decide +kernel, show (("put_on" : Str) == ("own_trail" : Str)) = false from by decide +kernel, show (("put_on" : Str) == ("own_starts" : Str)) = false from by decide +kernel, show (("put_on" : Str) == ("own_queue" : Str)) = false from by decide +kernel]
theorem lm_force (E : EA) : (fldsE E).lookup ("force" : Str) = none := by
  simp only [fldsE, List.lookup, show (("force" : Str) == ("own_rows" : Str)) = false from by decide +kernel, show (("force" : Str) == ("own_room" : Str)) = false from by decide +kernel, show (("force" : Str) == ("own_uses" : Str)) = false from by decide +kernel, show (("force" : Str) == ("own_on" : Str)) = false from by decide +kernel, show (("force" : Str) == ("own_level" : Str)) = false from by decide +kernel, show (("force" : Str) == ("own_reason" : Str)) = false from by decide +kernel, show (("force" : Str) == ("own_trail" : Str)) = false from by decide +kernel, show (("force" : Str) == ("own_starts" : Str)) = false from by decide +kernel, show (("force" : Str) == ("own_queue" : Str)) = false from by decide +kernel]
section
variable {M0 M : Mm} {objs : List (Addr × TL.PO)}
theorem Own.set {xs ys : List (Addr × TL.PO)} {a : Addr} {o o' : TL.PO} (h : Own M0 M (xs ++ (a, o) :: ys)) : Own M0 (mput M a o') (xs ++ (a, o') :: ys) := by
  have nd := h.nd
  rw [List.map_append, List.map_cons] at nd
  have ne : ∀ p, p ∈ xs ∨ p ∈ ys → p.1 ≠ a := fun p hp e => by
    rw [List.nodup_append] at nd
    obtain ⟨_, n2, n3⟩ := nd
    rw [List.nodup_cons] at n2
    rcases hp with hp | hp
    · exact n3 p.1 (List.mem_map.mpr ⟨p, hp, rfl⟩) a (List.mem_cons_self) e
    · exact n2.1 (e ▸ List.mem_map.mpr ⟨p, hp, rfl⟩)
  have fa : M0 a = none := h.fr (a, o) (by simp)
  refine ⟨by rw [List.map_append, List.map_cons]; exact nd, fun p hp => ?_, fun p hp => ?_, fun b u hb => ?_⟩
  · rcases List.mem_append.mp hp with hp | hp
    · rw [mput_ne (ne p (.inl hp))]; exact h.at_ p (List.mem_append_left _ hp)
    · rcases List.mem_cons.mp hp with rfl | hp
      · exact mput_same
      · rw [mput_ne (ne p (.inr hp))]; exact h.at_ p (List.mem_append_right _ (List.mem_cons_of_mem _ hp))
  · rcases List.mem_append.mp hp with hp | hp
    · exact h.fr p (List.mem_append_left _ hp)
    · rcases List.mem_cons.mp hp with rfl | hp
      · exact fa
      · exact h.fr p (List.mem_append_right _ (List.mem_cons_of_mem _ hp))
  · have : b ≠ a := fun e => by rw [e, fa] at hb; cases hb
    rw [mput_ne this]; exact h.sub b u hb
theorem Own.snoc {p : Addr} {o : TL.PO} (h : Own M0 M objs) (n : M p = none) : Own M0 (mput M p o) (objs ++ [(p, o)]) := by
  have ne : ∀ x ∈ objs, x.1 ≠ p := fun x hx e => by
    have := h.at_ x hx
    rw [e, n] at this; cases this
  have n0 : M0 p = none := none_sub h.sub n
  refine ⟨?_, fun x hx => ?_, fun x hx => ?_, fun b u hb => ?_⟩
  · rw [List.map_append, List.nodup_append]
    refine ⟨h.nd, by simp, fun a ha b hb e => ?_⟩
    simp at hb
    obtain ⟨x, hx, ex⟩ := List.mem_map.mp ha
    exact ne x hx (by rw [ex, e, hb])
  · rcases List.mem_append.mp hx with hx | hx
    · rw [mput_ne (ne x hx)]; exact h.at_ x hx
    · simp at hx; subst hx; exact mput_same
  · rcases List.mem_append.mp hx with hx | hx
    · exact h.fr x hx
    · simp at hx; subst hx; exact n0
  · have : b ≠ p := fun e => by rw [e, n0] at hb; cases hb
    rw [mput_ne this]; exact h.sub b u hb
theorem Own.nil : Own M M [] := ⟨by simp, by simp, by simp, sub_refl⟩
end
section
variable {M0 M : Mm} {E : EA} {rows : List RowP} {room : List Int} {us : List (Int × Addr)} {uc : Int → Terms} {on : List Int} {lv rs : List (Key × D)} {tr q : List Int} (h : Own M0 M (engO E rows room us uc on lv rs tr q))
include h
theorem ge : M E.e = some (.ins "Engine" (fldsE E)) := h.at_ (E.e, _) (by simp [engO])
theorem g1 : M E.a1 = some (.lst (rows.map rowD)) := h.at_ (E.a1, _) (by simp [engO])
theorem g2 : M E.a2 = some (.lst (room.map .int)) := h.at_ (E.a2, _) (by simp [engO])
theorem g3 : M E.a3 = some (.dct (usD us)) := h.at_ (E.a3, _) (by simp [engO])
theorem g4 : M E.a4 = some (.dct (onD on)) := h.at_ (E.a4, _) (by simp [engO])
theorem g5 : M E.a5 = some (.dct lv) := h.at_ (E.a5, _) (by simp [engO])
theorem g6 : M E.a6 = some (.dct rs) := h.at_ (E.a6, _) (by simp [engO])
theorem g7 : M E.a7 = some (.lst (tr.map .int)) := h.at_ (E.a7, _) (by simp [engO])
theorem g8 : M E.a8 = some (.lst [.int 0]) := h.at_ (E.a8, _) (by simp [engO])
theorem g9 : M E.a9 = some (.lst (q.map .int)) := h.at_ (E.a9, _) (by simp [engO])
theorem gu {l : Int} {u : Addr} (m : (l, u) ∈ us) : M u = some (.lst ((uc l).map prD)) := h.at_ (u, _) (by
  simp only [engO, List.mem_cons]
  exact .inr (.inr (.inr (.inr (.inr (.inr (.inr (.inr (.inr (.inr (List.mem_map.mpr ⟨(l, u), m, rfl⟩)))))))))))
theorem ine {k : Addr → List (Str × D) → Prop} (hk : k E.e (fldsE E)) : insK M (.ref E.e) "Engine" k := by
  show (match M E.e with | some (.ins c fs) => c = ("Engine" : Str) ∧ k E.e fs | _ => False)
  rw [ge h]; exact ⟨rfl, hk⟩
theorem fe {f : Str} {d : D} {k : D → Prop} (e : (fldsE E).lookup f = some d) (hk : k d) : fldK M (.ref E.e) "Engine" f k := by
  refine ine h ?_
  show optK ((fldsE E).lookup f) k
  rw [e]; exact hk
theorem s1 {v : List RowP} : Own M0 (mput M E.a1 (.lst (v.map rowD))) (engO E v room us uc on lv rs tr q) := Own.set (xs := [_]) h
theorem s2 {v : List Int} : Own M0 (mput M E.a2 (.lst (v.map .int))) (engO E rows v us uc on lv rs tr q) := Own.set (xs := [_, _]) h
theorem s4 {v : List Int} : Own M0 (mput M E.a4 (.dct (onD v))) (engO E rows room us uc v lv rs tr q) := Own.set (xs := [_, _, _, _]) h
theorem s5 {v : List (Key × D)} : Own M0 (mput M E.a5 (.dct v)) (engO E rows room us uc on v rs tr q) := Own.set (xs := [_, _, _, _, _]) h
theorem s6 {v : List (Key × D)} : Own M0 (mput M E.a6 (.dct v)) (engO E rows room us uc on lv v tr q) := Own.set (xs := [_, _, _, _, _, _]) h
theorem s7 {v : List Int} : Own M0 (mput M E.a7 (.lst (v.map .int))) (engO E rows room us uc on lv rs v q) := Own.set (xs := [_, _, _, _, _, _, _]) h
theorem s9 {v : List Int} : Own M0 (mput M E.a9 (.lst (v.map .int))) (engO E rows room us uc on lv rs tr v) := Own.set (xs := [_, _, _, _, _, _, _, _, _]) h
end
/-! on: what stands there -/
theorem on_get {T : List Int} (n : AbsN T) (l : Int) : kget (onD T) (.inl (absI l)) = (T.find? fun z => decide (absI z = absI l)).map D.int := by
  clear n
  induction T with
  | nil => rfl
  | cons z T ih =>
    unfold kget onD at ih ⊢
    rw [List.map_cons, List.find?_cons, List.find?_cons]
    by_cases c : absI z = absI l
    · simp [c]
    · have c2 : ¬ ((Sum.inl (absI z) : Key) = Sum.inl (absI l)) := fun q => c (Sum.inl.inj q)
      simp only [c, c2, decide_false]
      exact ih
theorem on_has {T : List Int} (l : Int) : (kget (onD T) (.inl (absI l))).isSome = T.any fun z => decide (absI z = absI l) := by
  induction T with
  | nil => rfl
  | cons z T ih =>
    unfold kget onD at ih ⊢
    rw [List.map_cons, List.find?_cons, List.any_cons]
    by_cases c : absI z = absI l
    · simp [c]
    · have c2 : ¬ ((Sum.inl (absI z) : Key) = Sum.inl (absI l)) := fun q => c (Sum.inl.inj q)
      simp only [c, c2, decide_false, Bool.false_or]
      exact ih
theorem pure_Engine_is_open : ∀ ds M x Q, ct_Engine_is_open ds M x Q → wpSs ir_Engine_is_open (FinOf x Q) (startE 2 ds) M := by
  rintro ds M x Q ⟨M0, E, rows, room, us, uc, on, lv, rs, tr, q, l, rfl, h, hQ⟩
  simp [ir_Engine_is_open, startE]
  refine fe h (lk_own_on E) ?_
  simp [inK, dctOf, g4 h, TL.keyOf]
  refine fin_same ?_
  have := on_has (T := on) l
  unfold absI at this
  have e : (kget (onD on) (Sum.inl (if l < 0 then -l else l))).isNone = openB on l := by
    rw [← Option.not_isSome, this]; rfl
  rw [e]
  exact hQ
theorem pure_Engine_levels : ∀ ds M x Q, ct_Engine_levels ds M x Q → wpSs ir_Engine_levels (FinOf x Q) (startE 1 ds) M := by
  rintro ds M x Q ⟨M0, E, rows, room, us, uc, on, lv, rs, tr, q, rfl, h, hQ⟩
  simp [ir_Engine_levels, startE]
  refine fe h (lk_own_starts E) ?_
  simp [dctOf, seqOf, lstOf, catOf, g8 h]
  exact fin_same hQ
theorem pure_Engine_trail : ∀ ds M x Q, ct_Engine_trail ds M x Q → wpSs ir_Engine_trail (FinOf x Q) (startE 1 ds) M := by
  rintro ds M x Q ⟨M0, E, rows, room, us, uc, on, lv, rs, tr, q, rfl, h, hQ⟩
  simp [ir_Engine_trail, startE]
  refine fe h (lk_own_trail E) ?_
  simp [dctOf, seqOf, lstOf, catOf, g7 h]
  exact fin_same hQ
theorem pure_Engine_is_off : ∀ ds M x Q, ct_Engine_is_off ds M x Q → wpSs ir_Engine_is_off (FinOf x Q) (startE 2 ds) M := by
  rintro ds M x Q ⟨M0, E, rows, room, us, uc, on, lv, rs, tr, q, l, rfl, h, n, hQ⟩
  simp [ir_Engine_is_off, startE]
  refine fe h (lk_own_on E) ?_
  simp [tyOf, g4 h, okM, bmD, dctOf, TL.keyOf]
  have e := on_get n l
  unfold absI at e
  rw [e]
  cases c : on.find? fun z => decide (absI z = absI l) with
  | none =>
    have c' : (on.find? fun z => decide ((if z < 0 then -z else z) = if l < 0 then -l else l)) = none := c
    have no : memB on (-l) = false := by
      rw [memB_false]
      intro hm
      have := List.find?_eq_none.mp c (-l) hm
      apply this
      have : absI (-l) = absI l := by unfold absI; split <;> split <;> omega
      simp [this]
    rw [c']
    rw [no] at hQ
    exact ⟨rfl, rfl, fin_same hQ⟩
  | some z =>
    have c' : (on.find? fun z => decide ((if z < 0 then -z else z) = if l < 0 then -l else l)) = some z := c
    have hz := List.mem_of_find?_eq_some c
    have ez : absI z = absI l := by simpa using List.find?_some c
    rw [c']
    refine fin_same ?_
    have : memB on (-l) = decide (z = -l) := by
      rw [Bool.eq_iff_iff, memB_iff, decide_eq_true_eq]
      constructor
      · intro hm
        have : absI (-l) = absI l := by unfold absI; split <;> split <;> omega
        have := abs_inj n hz hm (ez.trans this.symm)
        omega
      · intro e2
        have : z = -l := by omega
        exact this ▸ hz
    rw [this] at hQ
    exact hQ
end K12

set_option Elab.async false
set_option linter.all false
set_option maxRecDepth 100000
set_option maxHeartbeats 2000000
namespace K12
open PySem PySem.Spec PyProof.Rows L2 TL
section
variable {M : Mm} {p : Addr} {xs : List D} {kvs : List (Key × D)} {i v d : D} {q : Key} {fz : Bool} {Q : KD} {kk : Mm → Prop}
theorem setK_d (h : M p = some (.dct kvs)) (e : TL.keyOf i = some q) (hl : kvs.length < sizeLine) (hk : kk (mput M p (.dct (kput kvs q v)))) : setK M (.ref p) i v kk := by
  simp only [setK, h, e, someK]; exact ⟨hl, hk⟩
theorem setK_l {j : Int} {n : Nat} (h : M p = some (.lst xs)) (e : ixN xs.length j = some n) (hk : kk (mput M p (.lst (xs.set n v)))) : setK M (.ref p) (.int j) v kk := by
  simp only [setK, h, D.asI, e, someK]; exact hk
theorem ty_l {F : Ty → Prop} (h : M p = some (.lst xs)) (hk : F .list) : someK (tyOf M (.ref p)) F := by
  simp only [tyOf, h, someK]; exact hk
theorem ty_d {F : Ty → Prop} (h : M p = some (.dct kvs)) (hk : F .dict) : someK (tyOf M (.ref p)) F := by
  simp only [tyOf, h, someK]; exact hk
theorem app_ok (h : M p = some (.lst xs)) (hl : xs.length < sizeLine) (hQ : Q .non (mput M p (.lst (xs ++ [d])))) : bmD .list .append fz (.ref p) [d] M Q := by
  simp only [bmD, mlst, h]; exact ⟨hl, hQ⟩
theorem newLT {ds : List D} (h : Q (.lst ds) M) : newL true ds M Q := by
  unfold newL; rw [if_pos rfl]; exact h
theorem subI {i j : Int} (h : Q (.int (i - j)) M) : TL.opI .Sub (.int i) (.int j) M Q := h
theorem get2 {i : Int} {z : D} (h : M p = some (.dct kvs)) (hQ : Q ((kget kvs (.inl i)).getD z) M) : bmD .dict .get fz (.ref p) [.int i, z] M Q := by
  simp only [bmD, dctOf, h, TL.keyOf, someK]; exact hQ
theorem ixL {i : Int} {k : D → Prop} (h : M p = some (.lst xs)) (e : atI xs i = some d) (hk : k d) : ixK M (.ref p) (.int i) k := by
  simp only [ixK, dctOf, seqOf, lstOf, catOf, h, e]; exact hk
theorem ixT {i : Int} {k : D → Prop} (e : atI xs i = some d) (hk : k d) : ixK M (.tup xs) (.int i) k := by
  simp only [ixK, dctOf, seqOf, e]; exact hk
end
theorem on_put {T : List Int} {l : Int} (o : openB T l = true) : kput (onD T) (.inl (absI l)) (.int l) = onD (T ++ [l]) := by
  unfold kput
  have : ((onD T).any fun kv => decide (kv.1 = Sum.inl (absI l))) = false := by
    have := o
    unfold openB at this
    simp only [Bool.not_eq_true'] at this
    unfold onD
    rw [List.any_map, ← this]
    congr 1
    funext z
    simp [Function.comp]
  rw [this]
  simp [onD]
theorem kput_le {κ : Type} [DecidableEq κ] (kvs : List (κ × D)) (k : κ) (v : D) : (kput kvs k v).length ≤ kvs.length + 1 := by
  unfold kput; split <;> simp
/-- the rooms, less what a literal takes -/
def subR (rm : List Int) (ps : Terms) : List Int := ps.foldl (fun rm p => rm.set p.1.toNat (rm.getD p.1.toNat 0 - p.2)) rm
theorem subR_len : ∀ (ps : Terms) (rm : List Int), (subR rm ps).length = rm.length
  | [], _ => rfl
  | p :: ps, rm => by
    have := subR_len ps (rm.set p.1.toNat (rm.getD p.1.toNat 0 - p.2))
    simpa [subR] using this
theorem subR_at (n : Nat) : ∀ (ts : Terms) (pre rest : List Int) (z : Int), pre.length = n → subR (pre ++ z :: rest) (ts.map fun t => ((n : Int), t.1)) = pre ++ (z - (ts.map (·.1)).sum) :: rest
  | [], pre, rest, z, h => by simp [subR]
  | t :: ts, pre, rest, z, h => by
    have ih := subR_at n ts pre rest (z - t.1) h
    have e : (pre ++ z :: rest).set n ((pre ++ z :: rest).getD n 0 - t.1) = pre ++ (z - t.1) :: rest := by
      subst h
      simp [List.getD_eq_getElem?_getD]
    show subR ((pre ++ z :: rest).set ((n : Int)).toNat ((pre ++ z :: rest).getD ((n : Int)).toNat 0 - t.1)) (ts.map fun t => ((n : Int), t.1)) = _
    rw [Int.toNat_natCast, e, ih]
    simp only [List.map_cons, List.sum_cons]
    congr 2
    omega
theorem subR_append (rm : List Int) (a b : Terms) : subR rm (a ++ b) = subR (subR rm a) b := List.foldl_append ..
theorem room_put {T : List Int} {l : Int} (o : openB T l = true) (hl : l ≠ 0) (r : RowP) : roomF (T ++ [l]) r = roomF T r - ((r.1.filter fun t => decide (t.2 = -l)).map (·.1)).sum := by
  rw [roomF_eq, roomF_eq]
  have h := (openB_true.mp o).1
  have : ∀ ts : Terms, wsum (fun z => !memB (T ++ [l]) (-z)) ts = wsum (fun z => !memB T (-z)) ts - ((ts.filter fun t => decide (t.2 = -l)).map (·.1)).sum := by
    intro ts
    induction ts with
    | nil => rfl
    | cons t ts ih =>
      rw [wsum_cons, wsum_cons, ih, List.filter_cons]
      have e : memB (T ++ [l]) (-t.2) = (memB T (-t.2) || decide (t.2 = -l)) := by
        rw [full_mem]
        congr 1
        unfold memB
        simp only [List.any_cons, List.any_nil, Bool.or_false]
        by_cases c : l = -t.2
        · rw [decide_eq_true c, decide_eq_true (by omega)]
        · rw [decide_eq_false c, decide_eq_false (by omega)]
      rw [e]
      by_cases c : t.2 = -l
      · have : memB T (-t.2) = false := by rw [memB_false, c, Int.neg_neg]; exact h
        simp [c, this] at *
        rw [this]; simp; omega
      · simp [c]; omega
  rw [this]; omega
theorem uses_room {T : List Int} {l : Int} (o : openB T l = true) (hl : l ≠ 0) : ∀ (rows : List RowP) (pre : List Int) (n : Nat), pre.length = n → subR (pre ++ rows.map (roomF T)) (usesF (-l) n rows) = pre ++ rows.map (roomF (T ++ [l]))
  | [], pre, n, h => by simp [usesF, subR]
  | r :: rows, pre, n, h => by
    have ih := uses_room o hl rows (pre ++ [roomF (T ++ [l]) r]) (n + 1) (by simp [h])
    rw [usesF, subR_append, List.map_cons, subR_at n _ pre _ _ h]
    have e : roomF T r - ((r.1.filter fun t => decide (t.2 = -l)).map (·.1)).sum = roomF (T ++ [l]) r := (room_put o hl r).symm
    rw [e]
    have e2 : ((n + 1 : Nat) : Int) = (n : Int) + 1 := by omega
    rw [e2] at ih
    simpa using ih
theorem uses_in (l : Int) : ∀ (rows : List RowP) (n : Nat), ∀ p ∈ usesF l n rows, (n : Int) ≤ p.1 ∧ p.1 < n + rows.length
  | [], n, p, h => by simp [usesF] at h
  | r :: rows, n, p, h => by
    rw [usesF] at h
    rcases List.mem_append.mp h with h | h
    · obtain ⟨t, _, rfl⟩ := List.mem_map.mp h
      simp only [List.length_cons]; omega
    · have := uses_in l rows (n + 1) p (by rw [show ((n + 1 : Nat) : Int) = (n : Int) + 1 by omega]; exact h)
      simp only [List.length_cons]; omega
theorem us_get {us : List (Int × Addr)} (l : Int) : kget (usD us) (.inl l) = (us.find? fun p => decide (p.1 = l)).map fun p => D.ref p.2 := by
  induction us with
  | nil => rfl
  | cons z T ih =>
    unfold kget usD at ih ⊢
    rw [List.map_cons, List.find?_cons, List.find?_cons]
    by_cases c : z.1 = l
    · simp [c]
    · have c2 : ¬ ((Sum.inl z.1 : Key) = Sum.inl l) := fun q => c (Sum.inl.inj q)
      simp only [c, c2, decide_false]
      exact ih
theorem us_found {us : List (Int × Addr)} {l : Int} {p : Int × Addr} (h : us.find? (fun p => decide (p.1 = l)) = some p) : (l, p.2) ∈ us := by
  have a := List.mem_of_find?_eq_some h
  have b : p.1 = l := by simpa using List.find?_some h
  rw [← b]; exact a
theorem us_none {us : List (Int × Addr)} {l : Int} (h : us.find? (fun p => decide (p.1 = l)) = none) : l ∉ us.map (·.1) := by
  intro m
  obtain ⟨p, hp, e⟩ := List.mem_map.mp m
  have := List.find?_eq_none.mp h p hp
  simp [e] at this
theorem at_ints {rm : List Int} {i : Int} (h0 : 0 ≤ i) (h1 : i < rm.length) : atI (rm.map D.int) i = some (.int (rm.getD i.toNat 0)) := by
  obtain ⟨n, rfl⟩ : ∃ n : Nat, i = n := ⟨i.toNat, by omega⟩
  have hl : n < rm.length := by omega
  rw [atI_nat]
  simp [hl, List.getD_eq_getElem?_getD]
end K12

set_option Elab.async false
set_option linter.all false
set_option maxRecDepth 100000
set_option maxHeartbeats 400000
set_option pp.maxSteps 3000
namespace K12
open PySem PySem.Spec PyProof.Rows L2 TL
theorem pure_Engine_put_on : ∀ ds M x Q, ct_Engine_put_on ds M x Q → wpSs ir_Engine_put_on (FinOf x Q) (startE 5 ds) M := by
  rintro ds M x Q ⟨M0, e, rows, tr, q, l, d, rfl, ⟨⟨E, us, lv, rs, rfl, h, h2, h3, h4, h5, h6⟩, nab⟩, hb, ho, hl, hq⟩
  have ltr : tr.length + 1 ≤ 8 := by simpa using hb.ltr
  simp only [ir_Engine_put_on, startE, TL.wpSs, TL.wpS, wpE, wpEs, wpAnd, wpOr, wpKs, wpEo, wpCd, wpIt, putT, putTs, varK, Tg.slots, slotss, wipeE, List.set_cons_zero, List.set_cons_succ, List.map_cons, List.map_nil, List.length_cons, List.length_nil, List.replicate, List.cons_append, List.nil_append, List.getElem?_cons_zero, List.getElem?_cons_succ, Nat.reduceSub, Nat.reduceAdd, FinOf, biD, arg1, arg2, D.asI, D.asB, optI, binD, cmpK, sl1, sl2, true_and, and_true]
  have ab : (if l < 0 then -l else l) = absI l := rfl
  rw [ab]
  refine fe h (lk_own_on E) (setK_d (g4 h) rfl (by rw [sizeLine_eq]; simp [onD]; omega) ?_)
  rw [on_put ho]
  have hA := s4 h (v := tr ++ [l])
  refine ine hA ⟨lm_levels E, M0, E, _, _, _, _, _, _, _, _, _, rfl, hA, ?_⟩
  refine fe hA (lk_own_level E) (setK_d (g5 hA) rfl (by rw [sizeLine_eq]; omega) ?_)
  have hB := s5 hA (v := kput lv (.inl (absI l)) (.int 0))
  refine fe hB (lk_own_reason E) (setK_d (g6 hB) rfl (by rw [sizeLine_eq]; omega) ?_)
  have hC := s6 hB (v := kput rs (.inl (absI l)) d)
  refine fe hC (lk_own_trail E) (ty_l (g7 hC) ⟨rfl, app_ok (g7 hC) (by rw [sizeLine_eq]; simp; omega) ?_⟩)
  have hD := s7 hC (v := tr ++ [l])
  rw [show (tr.map D.int) ++ [D.int l] = (tr ++ [l]).map D.int by simp]
  generalize hM1 : mput _ E.a7 (.lst ((tr ++ [l]).map D.int)) = M1 at *
  refine fe hD (lk_own_uses E) (ty_d (g3 hD) ⟨rfl, ?_⟩)
  refine subI ⟨Nat.zero_le _, newLT (get2 (g3 hD) ?_)⟩
  rw [Int.zero_sub]
  rw [us_get]
  have src : ∃ (D0 : D) (g : Mm → Prop), (((us.find? fun p => decide (p.1 = -l)).map fun p => D.ref p.2).getD (D.lst [])) = D0 ∧ SeqAt M1 D0 ((usesF (-l) 0 rows).map prD) ∧ (∀ M2 rm qq, Own M0 M2 (engO E rows rm us (fun l => usesF l 0 rows) (tr ++ [l]) (kput lv (.inl (absI l)) (.int 0)) (kput rs (.inl (absI l)) d) (tr ++ [l]) qq) → grd D0 ((usesF (-l) 0 rows).map prD) M2) := by
    cases c : us.find? fun p => decide (p.1 = -l) with
    | none =>
      refine ⟨.lst [], fun _ => True, rfl, ?_, fun _ _ _ _ => trivial⟩
      rw [h3 (-l) (us_none c)]; rfl
    | some p =>
      have m := us_found c
      refine ⟨.ref p.2, fun _ => True, rfl, ?_, fun M2 rm qq h' => gu h' m⟩
      show seqOf M1 (.ref p.2) = _
      simp only [seqOf, lstOf, catOf, gu hD m]
  obtain ⟨D0, _, e0, sq, gd⟩ := src
  rw [e0]
  refine seq_it sq ?_
  have lq := hb.lq
  have len2 : (usesF (-l) 0 rows).length + q.length ≤ 2000 := by simp at lq; omega
  refine forGo_inv prD (fun (r : Terms) env M' => ∃ (z3 z4 : Option D) (rm qq : List Int), env = [some (.ref E.e), some (.int l), some d, z3, z4] ∧ Own M0 M' (engO E rows rm us (fun l => usesF l 0 rows) (tr ++ [l]) (kput lv (.inl (absI l)) (.int 0)) (kput rs (.inl (absI l)) d) (tr ++ [l]) qq) ∧
    subR rm r = rows.map (roomF (tr ++ [l])) ∧ rm.length = rows.length ∧ qq ++ r.map (·.1) = q ++ (usesF (-l) 0 rows).map (·.1) ∧ ∀ p ∈ r, 0 ≤ p.1 ∧ p.1 < rows.length) ?_ ?_ ?_ _ _ _ ⟨_, _, rows.map (roomF tr), q, rfl, hD, ?_, by simp, rfl, ?_⟩
  · rintro r env M' ⟨z3, z4, rm, qq, rfl, h', _⟩
    exact gd M' rm qq h'
  · rintro env M' ⟨z3, z4, rm, qq, rfl, h', e1, e2, e3, _⟩
    have e1 : rm = rows.map (roomF (tr ++ [l])) := e1
    have e3 : qq = q ++ (usesF (-l) 0 rows).map (·.1) := by simpa using e3
    subst e1 e3
    refine fin_same (hq M' ⟨⟨E, us, _, _, rfl, h', h2, h3, h4, Nat.le_trans (kput_le _ _ _) (by simp; omega), Nat.le_trans (kput_le _ _ _) (by simp; omega)⟩, ?_⟩)
    have := rch_abs (rows := [(([(1, l)] : Terms), roomF tr ([(1, l)], 0))]) (.step .refl ⟨_, List.mem_singleton.mpr rfl, 1, by simp, ?_⟩ ho) nab
    · exact this
    · unfold roomF; simp; try (split <;> simp_all <;> omega)
  · rintro ⟨i, m⟩ r env M' k ⟨z3, z4, rm, qq, rfl, h', e1, e2, e3, e4⟩ hk
    obtain ⟨i0, i1⟩ := e4 _ List.mem_cons_self
    simp only at i0 i1
    simp only [prD, startE, TL.wpSs, TL.wpS, wpE, wpEs, wpAnd, wpOr, wpKs, wpEo, wpCd, wpIt, putT, putTs, varK, Tg.slots, slotss, wipeE, List.set_cons_zero, List.set_cons_succ, List.map_cons, List.map_nil, List.length_cons, List.length_nil, List.replicate, List.cons_append, List.nil_append, List.getElem?_cons_zero, List.getElem?_cons_succ, Nat.reduceSub, Nat.reduceAdd, FinOf, biD, arg1, arg2, D.asI, D.asB, optI, binD, cmpK, sl1, sl2, true_and, and_true]
    have hi : i < rm.length := by omega
    refine fe h' (lk_own_room E) (ixL (g2 h') (at_ints i0 hi) (subI ?_))
    refine fe h' (lk_own_room E) (setK_l (n := i.toNat) (g2 h') (by unfold ixN; rw [if_pos i0, if_pos (by simpa using hi)]) ?_)
    have em : (rm.map D.int).set i.toNat (.int (rm.getD i.toNat 0 - m)) = (rm.set i.toNat (rm.getD i.toNat 0 - m)).map D.int := by rw [List.map_set]
    rw [em]
    have h2' := s2 h' (v := rm.set i.toNat (rm.getD i.toNat 0 - m))
    have lqq : qq.length < 2000 := by
      have := congrArg List.length e3
      simp at this; omega
    refine fe h2' (lk_own_queue E) (ty_l (g9 h2') ⟨rfl, app_ok (g9 h2') (by rw [sizeLine_eq]; simp; omega) ?_⟩)
    have h3' := s9 h2' (v := qq ++ [i])
    rw [show qq.map D.int ++ [D.int i] = (qq ++ [i]).map D.int by simp]
    exact hk _ _ ⟨_, _, _, _, rfl, h3', e1, by simpa using e2, by simpa using e3, fun p hp => e4 p (List.mem_cons_of_mem _ hp)⟩
  · have := uses_room ho hl rows [] 0 rfl
    simpa using this
  · intro p hp
    have := uses_in (-l) rows 0 p hp
    simpa using this
end K12

set_option Elab.async false
set_option linter.all false
set_option maxRecDepth 100000
set_option maxHeartbeats 800000
set_option pp.maxSteps 3000
namespace K12
open PySem PySem.Spec PyProof.Rows L2 TL
section
variable {M0 M : Mm} {objs : List (Addr × TL.PO)}
theorem Own.junk {p : Addr} {o : TL.PO} (h : Own M0 M objs) (n : M p = none) : Own M0 (mput M p o) objs := by
  have n0 : M0 p = none := none_sub h.sub n
  refine ⟨h.nd, fun x hx => ?_, h.fr, fun b u hb => ?_⟩
  · have ne : x.1 ≠ p := fun e => by
      have := h.at_ x hx
      rw [e, n] at this; cases this
    rw [mput_ne ne]; exact h.at_ x hx
  · have : b ≠ p := fun e => by rw [e, n0] at hb; cases hb
    rw [mput_ne this]; exact h.sub b u hb
end
section
variable {M0 M : Mm} {E : EA} {rows : List RowP} {room : List Int} {us : List (Int × Addr)} {uc : Int → Terms} {on : List Int} {lv rs : List (Key × D)} {tr q : List Int}
theorem usO_congr {us : List (Int × Addr)} {uc uc' : Int → Terms} (h : ∀ p ∈ us, uc p.1 = uc' p.1) : usO us uc = usO us uc' := by
  unfold usO
  exact List.map_congr_left fun p hp => by rw [h p hp]
theorem use_old (h : Own M0 M (engO E rows room us uc on lv rs tr q)) (nd : (us.map (·.1)).Nodup) {l : Int} {u : Addr} (m : (l, u) ∈ us) {uc' : Int → Terms} (e : ∀ l', l' ≠ l → uc' l' = uc l') :
    Own M0 (mput M u (.lst ((uc' l).map prD))) (engO E rows room us uc' on lv rs tr q) := by
  obtain ⟨A, B, rfl⟩ := List.append_of_mem m
  rw [List.map_append, List.map_cons, List.nodup_append, List.nodup_cons] at nd
  obtain ⟨_, ⟨nb, _⟩, nc⟩ := nd
  have ea : usO A uc = usO A uc' := usO_congr fun p hp => (e p.1 fun z => nc p.1 (List.mem_map.mpr ⟨p, hp, rfl⟩) l (List.mem_cons_self) z).symm
  have eb : usO B uc = usO B uc' := usO_congr fun p hp => (e p.1 fun z => nb (z ▸ List.mem_map.mpr ⟨p, hp, rfl⟩)).symm
  have e1 : ∀ f : Int → Terms, engO E rows room (A ++ (l, u) :: B) f on lv rs tr q = ((E.e, TL.PO.ins "Engine" (fldsE E)) :: (E.a1, .lst (rows.map rowD)) :: (E.a2, .lst (room.map .int)) :: (E.a3, .dct (usD (A ++ (l, u) :: B))) :: (E.a4, .dct (onD on)) ::
      (E.a5, .dct lv) :: (E.a6, .dct rs) :: (E.a7, .lst (tr.map .int)) :: (E.a8, .lst [.int 0]) :: (E.a9, .lst (q.map .int)) :: usO A f) ++ (u, .lst ((f l).map prD)) :: usO B f := fun f => by simp [engO, usO]
  rw [e1] at h ⊢
  rw [← ea, ← eb]
  exact h.set
theorem use_new (h : Own M0 M (engO E rows room us uc on lv rs tr q)) {p : Addr} (hp : M p = none) {l : Int} (hl : l ∉ us.map (·.1)) {uc' : Int → Terms} (e : ∀ l', l' ≠ l → uc' l' = uc l') :
    Own M0 (mput (mput (mput M p (.lst [])) E.a3 (.dct (usD (us ++ [(l, p)])))) p (.lst ((uc' l).map prD))) (engO E rows room (us ++ [(l, p)]) uc' on lv rs tr q) := by
  have h1 := h.snoc (o := .lst []) hp
  have e1 : engO E rows room us uc on lv rs tr q ++ [(p, TL.PO.lst [])] = [(E.e, TL.PO.ins "Engine" (fldsE E)), (E.a1, .lst (rows.map rowD)), (E.a2, .lst (room.map .int))] ++ (E.a3, .dct (usD us)) :: ((E.a4, .dct (onD on)) ::
      (E.a5, .dct lv) :: (E.a6, .dct rs) :: (E.a7, .lst (tr.map .int)) :: (E.a8, .lst [.int 0]) :: (E.a9, .lst (q.map .int)) :: (usO us uc ++ [(p, .lst [])])) := by simp [engO]
  rw [e1] at h1
  have h2 := h1.set (o' := .dct (usD (us ++ [(l, p)])))
  have e2 : [(E.e, TL.PO.ins "Engine" (fldsE E)), (E.a1, .lst (rows.map rowD)), (E.a2, .lst (room.map .int))] ++ (E.a3, .dct (usD (us ++ [(l, p)]))) :: ((E.a4, .dct (onD on)) ::
      (E.a5, .dct lv) :: (E.a6, .dct rs) :: (E.a7, .lst (tr.map .int)) :: (E.a8, .lst [.int 0]) :: (E.a9, .lst (q.map .int)) :: (usO us uc ++ [(p, TL.PO.lst [])])) =
      ((E.e, TL.PO.ins "Engine" (fldsE E)) :: (E.a1, .lst (rows.map rowD)) :: (E.a2, .lst (room.map .int)) :: (E.a3, .dct (usD (us ++ [(l, p)]))) :: (E.a4, .dct (onD on)) ::
      (E.a5, .dct lv) :: (E.a6, .dct rs) :: (E.a7, .lst (tr.map .int)) :: (E.a8, .lst [.int 0]) :: (E.a9, .lst (q.map .int)) :: usO us uc) ++ (p, .lst []) :: [] := by simp
  rw [e2] at h2
  have h3 := h2.set (o' := .lst ((uc' l).map prD))
  have eu : usO us uc = usO us uc' := usO_congr fun x hx => (e x.1 fun z => hl (z ▸ List.mem_map.mpr ⟨x, hx, rfl⟩)).symm
  have e3 : engO E rows room (us ++ [(l, p)]) uc' on lv rs tr q = ((E.e, TL.PO.ins "Engine" (fldsE E)) :: (E.a1, .lst (rows.map rowD)) :: (E.a2, .lst (room.map .int)) :: (E.a3, .dct (usD (us ++ [(l, p)]))) :: (E.a4, .dct (onD on)) ::
      (E.a5, .dct lv) :: (E.a6, .dct rs) :: (E.a7, .lst (tr.map .int)) :: (E.a8, .lst [.int 0]) :: (E.a9, .lst (q.map .int)) :: usO us uc) ++ (p, .lst ((uc' l).map prD)) :: [] := by
    rw [eu]; simp [engO, usO]
  rw [e3]; exact h3
end
theorem uses_snoc (l : Int) (r : RowP) : ∀ (rows : List RowP) (n : Int), usesF l n (rows ++ [r]) = usesF l n rows ++ (r.1.filter fun t => decide (t.2 = l)).map fun t => (n + rows.length, t.1)
  | [], n => by simp [usesF]
  | a :: rows, n => by
    rw [List.cons_append, usesF, usesF, uses_snoc l r rows (n + 1), List.append_assoc]
    congr 2
    refine List.map_congr_left fun t _ => ?_
    simp only [List.length_cons]
    congr 1
    omega
theorem filt_len (p : Int × Int → Bool) (ts : Terms) : (ts.filter p).length ≤ ts.length := List.length_filter_le _ _
theorem uses_len (l : Int) : ∀ (rows : List RowP) (n : Int), (∀ r ∈ rows, r.1.length ≤ 8) → (usesF l n rows).length ≤ 8 * rows.length
  | [], _, _ => by simp [usesF]
  | r :: rows, n, h => by
    have := uses_len l rows (n + 1) fun a ha => h a (List.mem_cons_of_mem _ ha)
    have a := h r List.mem_cons_self
    have b := filt_len (fun t => decide (t.2 = l)) r.1
    rw [usesF, List.length_append, List.length_map, List.length_cons]
    omega
def ucP (rows : List RowP) (pre : Terms) (l : Int) : Terms := usesF l 0 rows ++ (pre.filter fun t => decide (t.2 = l)).map fun t => ((rows.length : Int), t.1)
theorem ucP_step (rows : List RowP) (pre : Terms) (t : Int × Int) (l : Int) : ucP rows (pre ++ [t]) l = if t.2 = l then ucP rows pre l ++ [((rows.length : Int), t.1)] else ucP rows pre l := by
  unfold ucP
  rw [List.filter_append]
  by_cases c : t.2 = l
  · simp [c]
  · simp [c]
theorem uc_len (rows : List RowP) (pre : Terms) (l : Int) (hr : rows.length ≤ 8) (h : ∀ r ∈ rows, r.1.length ≤ 8) (hp : pre.length ≤ 8) : (ucP rows pre l).length ≤ 8 * 8 + 8 := by
  have := uses_len l rows 0 h
  have b := filt_len (fun t => decide (t.2 = l)) pre
  unfold ucP
  rw [List.length_append, List.length_map]
  omega
theorem setd_old {M : Mm} {p : Addr} {kvs : List (Key × D)} {i : Int} {z d : D} {fz : Bool} {Q : KD} (h : M p = some (.dct kvs)) (hl : kvs.length < sizeLine) (e : kget kvs (.inl i) = some d) (hQ : Q d M) : bmD .dict .setdefault fz (.ref p) [.int i, z] M Q := by
  simp only [bmD, mdct, h, TL.keyOf, someK, e]; exact ⟨hl, hQ⟩
theorem setd_new {M : Mm} {p : Addr} {kvs : List (Key × D)} {i : Int} {z : D} {fz : Bool} {Q : KD} (h : M p = some (.dct kvs)) (hl : kvs.length < sizeLine) (e : kget kvs (.inl i) = none) (hQ : Q z (mput M p (.dct (kput kvs (.inl i) z)))) : bmD .dict .setdefault fz (.ref p) [.int i, z] M Q := by
  simp only [bmD, mdct, h, TL.keyOf, someK, e]; exact ⟨hl, hQ⟩
theorem newLF {ds : List D} {M : Mm} {Q : KD} (h : ∀ p, M p = none → Q (.ref p) (mput M p (.lst ds))) : newL false ds M Q := by
  unfold newL; rw [if_neg Bool.false_ne_true]; exact h
theorem us_put {us : List (Int × Addr)} {l : Int} {p : Addr} (h : l ∉ us.map (·.1)) : kput (usD us) (.inl l) (.ref p) = usD (us ++ [(l, p)]) := by
  unfold kput
  have : ((usD us).any fun kv => decide (kv.1 = Sum.inl l)) = false := by
    rw [List.any_eq_false]
    intro x hx e
    obtain ⟨y, hy, rfl⟩ := List.mem_map.mp hx
    simp at e
    exact h (e ▸ List.mem_map.mpr ⟨y, hy, rfl⟩)
  rw [this]
  simp [usD]
theorem len_l {M : Mm} {p : Addr} {xs : List D} {Q : KD} (h : M p = some (.lst xs)) (hQ : Q (.int xs.length) M) : lenD (.ref p) M Q := by
  simp only [lenD, dctOf, seqOf, lstOf, catOf, h, someK]; exact hQ
theorem ints_ok {M : Mm} {ns : List Int} {k : List Int → Prop} (h : k ns) : oneInts (.lst (ns.map D.int)) M k := by
  simp only [oneInts, lstOf, catOf, someK, intsOf_map]; exact h
theorem pure_Engine_have : ∀ ds M x Q, ct_Engine_have ds M x Q → wpSs ir_Engine_have (FinOf x Q) (startE 5 ds) M := by
  rintro ds M x Q ⟨M0, e, rows, r, tr, q, rfl, ⟨⟨E, us, lv, rs, rfl, h, h2, h3, h4, h5, h6⟩, nab⟩, hb, hql, hq⟩
  have lrw : rows.length + 1 ≤ 8 := by simpa using hb.lrows
  have lr : r.1.length ≤ 8 := (hb.row r (by simp)).1
  simp only [ir_Engine_have, startE, TL.wpSs, TL.wpS, wpE, wpEs, wpAnd, wpOr, wpKs, wpEo, wpCd, wpIt, putT, putTs, varK, Tg.slots, slotss, wipeE, List.set_cons_zero, List.set_cons_succ, List.map_cons, List.map_nil, List.length_cons, List.length_nil, List.replicate, List.cons_append, List.nil_append, List.getElem?_cons_zero, List.getElem?_cons_succ, Nat.reduceSub, Nat.reduceAdd, FinOf, biD, arg1, arg2, D.asI, D.asB, optI, binD, cmpK, sl1, sl2, true_and, and_true]
  refine fe h (lk_own_rows E) (len_l (g1 h) ?_)
  rw [List.length_map]
  refine fe h (lk_own_rows E) (ty_l (g1 h) ⟨rfl, app_ok (g1 h) (by rw [sizeLine_eq]; simp; omega) ?_⟩)
  have hA := s1 h (v := rows ++ [r])
  rw [show rows.map rowD ++ [rowD r] = (rows ++ [r]).map rowD by simp]
  generalize hM1 : mput M E.a1 (.lst ((rows ++ [r]).map rowD)) = M1 at *
  refine fe hA (lk_own_room E) (ty_l (g2 hA) ⟨rfl, ?_⟩)
  refine ixT (xs := [termsD r.1, .int r.2]) rfl (seq_it (M := M1) (d := termsD r.1) (xs := r.1.map prD) rfl ⟨sl_of (by simp; omega), compGo_opt prD (fun t => if memB tr (-t.2) = true then none else some (D.int t.1)) trivial r.1 [] (fun t ht acc k hk => ?_) ?_⟩)
  · simp only [prD, startE, TL.wpSs, TL.wpS, wpE, wpEs, wpAnd, wpOr, wpKs, wpEo, wpCd, wpIt, putT, putTs, varK, Tg.slots, slotss, wipeE, List.set_cons_zero, List.set_cons_succ, List.map_cons, List.map_nil, List.length_cons, List.length_nil, List.replicate, List.cons_append, List.nil_append, List.getElem?_cons_zero, List.getElem?_cons_succ, Nat.reduceSub, Nat.reduceAdd, FinOf, biD, arg1, arg2, D.asI, D.asB, optI, binD, cmpK, sl1, sl2, true_and, and_true]
    refine ine hA ⟨lm_is_off E, M0, E, _, _, _, _, _, _, _, _, _, _, rfl, hA, nab, ?_⟩
    cases c : memB tr (-t.2) with
    | true =>
      rw [c] at hk
      simpa using hk
    | false =>
      rw [c] at hk
      simpa using hk
  · have ef : r.1.filterMap (fun t => if memB tr (-t.2) = true then none else some (D.int t.1)) = ((r.1.filter fun t => !memB tr (-t.2)).map (·.1)).map D.int := by
      generalize r.1 = ts
      induction ts with
      | nil => rfl
      | cons t ts ih =>
        cases c : memB tr (-t.2) with
        | true => simp [List.filterMap_cons, List.filter_cons, c, ih]
        | false => simp [List.filterMap_cons, List.filter_cons, c, ih]
    rw [List.nil_append, ef]
    refine newLT ?_
    refine ints_ok ?_
    refine ixT (xs := [termsD r.1, .int r.2]) rfl (subI (app_ok (g2 hA) (by rw [sizeLine_eq]; simp; omega) ?_))
    have hB := s2 hA (v := (rows ++ [r]).map (roomF tr))
    rw [show (rows.map (roomF tr)).map D.int ++ [D.int (((r.1.filter fun t => !memB tr (-t.2)).map (·.1)).sum - r.2)] = ((rows ++ [r]).map (roomF tr)).map D.int by simp [roomF]]
    generalize hM2 : mput M1 E.a2 (.lst (((rows ++ [r]).map (roomF tr)).map D.int)) = M2 at *
    refine ixT (xs := [termsD r.1, .int r.2]) rfl (seq_it (M := M2) (d := termsD r.1) (xs := r.1.map prD) rfl ?_)
    have ex0 : ∀ l, ucP rows [] l = usesF l 0 rows := fun l => by simp [ucP]
    refine forGo_inv prD (fun (rest : Terms) env M' => ∃ (z3 z4 : Option D) (us' : List (Int × Addr)) (pre : Terms), env = [some (.ref E.e), some (rowD r), some (.int (rows.length : Int)), z3, z4] ∧ Own M0 M' (engO E (rows ++ [r]) ((rows ++ [r]).map (roomF tr)) us' (ucP rows pre) tr lv rs tr q) ∧
      (us'.map (·.1)).Nodup ∧ (∀ l, l ∉ us'.map (·.1) → ucP rows pre l = []) ∧ us'.length ≤ 8 * rows.length + pre.length ∧ pre ++ rest = r.1) (fun _ _ _ _ => trivial) ?_ ?_ _ _ _ ⟨_, _, us, [], rfl, ?_, h2, fun l hl => by rw [ex0]; exact h3 l hl, by simpa using h4, rfl⟩
    · rintro env M' ⟨z3, z4, us', pre, rfl, h', n1, n2, n3, n4⟩
      have n4 : pre = r.1 := by simpa using n4
      subst n4
      simp only [startE, TL.wpSs, TL.wpS, wpE, wpEs, wpAnd, wpOr, wpKs, wpEo, wpCd, wpIt, putT, putTs, varK, Tg.slots, slotss, wipeE, List.set_cons_zero, List.set_cons_succ, List.map_cons, List.map_nil, List.length_cons, List.length_nil, List.replicate, List.cons_append, List.nil_append, List.getElem?_cons_zero, List.getElem?_cons_succ, Nat.reduceSub, Nat.reduceAdd, FinOf, biD, arg1, arg2, D.asI, D.asB, optI, binD, cmpK, sl1, sl2, true_and, and_true]
      refine fe h' (lk_own_queue E) (ty_l (g9 h') ⟨rfl, app_ok (g9 h') (by rw [sizeLine_eq]; simp; omega) ?_⟩)
      have hC := s9 h' (v := q ++ [(rows.length : Int)])
      rw [show q.map D.int ++ [D.int (rows.length : Int)] = (q ++ [(rows.length : Int)]).map D.int by simp]
      have eu : ucP rows r.1 = fun l => usesF l 0 (rows ++ [r]) := by
        funext l
        rw [uses_snoc]
        unfold ucP
        simp
      rw [eu] at hC n2
      exact fin_same (hq _ ⟨⟨E, us', lv, rs, rfl, hC, n1, n2, by simp; omega, h5, h6⟩, nab⟩)
    · rintro t rest env M' k ⟨z3, z4, us', pre, rfl, h', n1, n2, n3, n4⟩ hk
      have lp : pre.length + 1 ≤ 8 := by
        have := congrArg List.length n4
        simp at this; omega
      have lus : us'.length ≤ 72 := by omega
      simp only [prD, startE, TL.wpSs, TL.wpS, wpE, wpEs, wpAnd, wpOr, wpKs, wpEo, wpCd, wpIt, putT, putTs, varK, Tg.slots, slotss, wipeE, List.set_cons_zero, List.set_cons_succ, List.map_cons, List.map_nil, List.length_cons, List.length_nil, List.replicate, List.cons_append, List.nil_append, List.getElem?_cons_zero, List.getElem?_cons_succ, Nat.reduceSub, Nat.reduceAdd, FinOf, biD, arg1, arg2, D.asI, D.asB, optI, binD, cmpK, sl1, sl2, true_and, and_true]
      refine fe h' (lk_own_uses E) (ty_d (g3 h') ⟨rfl, Nat.zero_le _, newLF fun p hp => ?_⟩)
      have hJ := h'.junk (o := .lst []) hp
      have sl : (usD us').length < sizeLine := by rw [sizeLine_eq]; simp [usD]; omega
      have step : ∀ l', l' ≠ t.2 → ucP rows (pre ++ [t]) l' = ucP rows pre l' := fun l' hl' => by rw [ucP_step, if_neg (fun z => hl' z.symm)]
      have here : ucP rows (pre ++ [t]) t.2 = ucP rows pre t.2 ++ [((rows.length : Int), t.1)] := by rw [ucP_step, if_pos rfl]
      have n4' : pre ++ [t] ++ rest = r.1 := by simpa using n4
      have nx := fun (us2 : List (Int × Addr)) (M2 : Mm) h a b c => hk [some (.ref E.e), some (rowD r), some (.int (rows.length : Int)), some (.int t.1), some (.int t.2)] M2 ⟨_, _, us2, pre ++ [t], rfl, h, a, b, c, n4'⟩
      cases c : us'.find? fun x => decide (x.1 = t.2) with
      | some x =>
        have m := us_found c
        have eg : kget (usD us') (.inl t.2) = some (.ref x.2) := by rw [us_get, c]; rfl
        refine setd_old (g3 hJ) sl eg (ty_l (gu hJ m) ⟨rfl, app_ok (gu hJ m) ?_ ?_⟩)
        · have : (ucP rows pre t.2).length ≤ 8 * 8 + 8 := uc_len rows pre t.2 (by omega) (fun a ha => (hb.row a (by simp [ha])).1) (by omega)
          rw [sizeLine_eq]; simp; omega
        · have := use_old hJ n1 m step
          rw [here, List.map_append] at this
          refine nx us' _ this n1 (fun l hl => ?_) (by simp; omega)
          have : l ≠ t.2 := fun z => hl (z ▸ List.mem_map.mpr ⟨_, m, rfl⟩)
          rw [step l this]; exact n2 l hl
      | none =>
        have no := us_none c
        have eg : kget (usD us') (.inl t.2) = none := by rw [us_get, c]; rfl
        refine setd_new (g3 hJ) sl eg ?_
        rw [us_put no]
        have gp : mput (mput M' p (.lst [])) E.a3 (.dct (usD (us' ++ [(t.2, p)]))) p = some (.lst []) := by
          have : p ≠ E.a3 := fun z => by rw [z, g3 h'] at hp; cases hp
          rw [mput_ne this, mput_same]
        refine ty_l gp ⟨rfl, app_ok gp (by rw [sizeLine_eq]; simp) ?_⟩
        have := use_new h' hp no step
        rw [here, n2 _ no] at this
        refine nx (us' ++ [(t.2, p)]) _ this ?_ (fun l hl => ?_) (by simp; omega)
        · rw [List.map_append, List.nodup_append]
          refine ⟨n1, by simp, fun a ha b hb e => ?_⟩
          simp at hb
          exact no (by rw [← hb, ← e]; exact ha)
        · rw [List.map_append, List.mem_append, not_or] at hl
          have : l ≠ t.2 := fun z => hl.2 (by simp [z])
          rw [step l this]; exact n2 l hl.1
    · have : (fun l => usesF l 0 rows) = ucP rows [] := by funext l; exact (ex0 l).symm
      rw [← this]; exact hB
end K12

set_option Elab.async false
set_option linter.all false
set_option maxRecDepth 100000
set_option maxHeartbeats 800000
set_option pp.maxSteps 3000
namespace K12
open PySem PySem.Spec PyProof.Rows L2 TL
theorem pf1 (d : D) : TL.putF' ("own_rows" : Str) d ([] : List (Str × D)) = ([("own_rows", d)] : List (Str × D)) := by
  simp only [TL.putF']
theorem pf2 (d0 d : D) : TL.putF' ("own_room" : Str) d ([("own_rows", d0)] : List (Str × D)) = ([("own_rows", d0), ("own_room", d)] : List (Str × D)) := by
  simp only [TL.putF', if_neg (show ¬ (("own_rows" : Str) = ("own_room" : Str)) from by decide +kernel)]
theorem pf3 (d0 d1 d : D) : TL.putF' ("own_uses" : Str) d ([("own_rows", d0), ("own_room", d1)] : List (Str × D)) = ([("own_rows", d0), ("own_room", d1), ("own_uses", d)] : List (Str × D)) := by
  simp only [TL.putF', if_neg (show ¬ (("own_rows" : Str) = ("own_uses" : Str)) from by decide +kernel), if_neg (show ¬ (("own_room" : Str) = ("own_uses" : Str)) from by decide +kernel)]
theorem pf4 (d0 d1 d2 d : D) : TL.putF' ("own_on" : Str) d ([("own_rows", d0), ("own_room", d1), ("own_uses", d2)] : List (Str × D)) = ([("own_rows", d0), ("own_room", d1), ("own_uses", d2), ("own_on", d)] : List (Str × D)) := by
  simp only [TL.putF', if_neg (show ¬ (("own_rows" : Str) = ("own_on" : Str)) from by decide +kernel), if_neg (show ¬ (("own_room" : Str) = ("own_on" : Str)) from by decide +kernel), if_neg (show ¬ (("own_uses" : Str) = ("own_on" : Str)) from by decide +kernel)]
theorem pf5 (d0 d1 d2 d3 d : D) : TL.putF' ("own_level" : Str) d ([("own_rows", d0), ("own_room", d1), ("own_uses", d2), ("own_on", d3)] : List (Str × D)) = ([("own_rows", d0), ("own_room", d1), ("own_uses", d2), ("own_on", d3), ("own_level", d)] : List (Str × D)) := by
  simp only [TL.putF', if_neg (show ¬ (("own_rows" : Str) = ("own_level" : Str)) from by decide +kernel), if_neg (show ¬ (("own_room" : Str) = ("own_level" : Str)) from by decide +kernel), if_neg (show ¬ (("own_uses" : Str) = ("own_level" : Str)) from by decide +kernel), if_neg (show ¬ (("own_on" : Str) = ("own_level" : Str)) from by decide +kernel)]
theorem pf6 (d0 d1 d2 d3 d4 d : D) : TL.putF' ("own_reason" : Str) d ([("own_rows", d0), ("own_room", d1), ("own_uses", d2), ("own_on", d3), ("own_level", d4)] : List (Str × D)) = ([("own_rows", d0), ("own_room", d1), ("own_uses", d2), ("own_on", d3), ("own_level", d4), ("own_reason", d)] : List (Str × D)) := by
  simp only [TL.putF', if_neg (show ¬ (("own_rows" : Str) = ("own_reason" : Str)) from by decide +kernel), if_neg (show ¬ (("own_room" : Str) = ("own_reason" : Str)) from by decide +kernel), if_neg (show ¬ (("own_uses" : Str) = ("own_reason" : Str)) from by decide +kernel), if_neg (show ¬ (("own_on" : Str) = ("own_reason" : Str)) from by decide +kernel), if_neg (show ¬ (("own_level" : Str) = ("own_reason" : Str)) from by decide +kernel)]
theorem pf7 (d0 d1 d2 d3 d4 d5 d : D) : TL.putF' ("own_trail" : Str) d ([("own_rows", d0), ("own_room", d1), ("own_uses", d2), ("own_on", d3), ("own_level", d4), ("own_reason", d5)] : List (Str × D)) = ([("own_rows", d0), ("own_room", d1), ("own_uses", d2), ("own_on", d3), ("own_level", d4), ("own_reason", d5), ("own_trail", d)] : List (Str × D)) := by
  simp only [TL.putF', if_neg (show ¬ (("own_rows" : Str) = ("own_trail" : Str)) from by decide +kernel), if_neg (show ¬ (("own_room" : Str) = ("own_trail" : Str)) from by decide +kernel), if_neg (show ¬ (("own_uses" : Str) = ("own_trail" : Str)) from by decide +kernel), if_neg (show ¬ (("own_on" : Str) = ("own_trail" : Str)) from by decide +kernel), if_neg (show ¬ (("own_level" : Str) = ("own_trail" : Str)) from by decide +kernel), if_neg (show ¬ (("own_reason" : Str) = ("own_trail" : Str)) from by decide +kernel)]
theorem pf8 (d0 d1 d2 d3 d4 d5 d6 d : D) : TL.putF' ("own_starts" : Str) d ([("own_rows", d0), ("own_room", d1), ("own_uses", d2), ("own_on", d3), ("own_level", d4), ("own_reason", d5), ("own_trail", d6)] : List (Str × D)) = ([("own_rows", d0), ("own_room", d1), ("own_uses", d2), ("own_on", d3), ("own_level", d4), ("own_reason", d5), ("own_trail", d6), ("own_starts", d)] : List (Str × D)) := by
  simp only [TL.putF', if_neg (show ¬ (("own_rows" : Str) = ("own_starts" : Str)) from by decide +kernel), if_neg (show ¬ (("own_room" : Str) = ("own_starts" : Str)) from by decide +kernel), if_neg (show ¬ (("own_uses" : Str) = ("own_starts" : Str)) from by decide +kernel), if_neg (show ¬ (("own_on" : Str) = ("own_starts" : Str)) from by decide +kernel), if_neg (show ¬ (("own_level" : Str) = ("own_starts" : Str)) from by decide +kernel), if_neg (show ¬ (("own_reason" : Str) = ("own_starts" : Str)) from by decide +kernel), if_neg (show ¬ (("own_trail" : Str) = ("own_starts" : Str)) from by decide +kernel)]
theorem pf9 (d0 d1 d2 d3 d4 d5 d6 d7 d : D) : TL.putF' ("own_queue" : Str) d ([("own_rows", d0), ("own_room", d1), ("own_uses", d2), ("own_on", d3), ("own_level", d4), ("own_reason", d5), ("own_trail", d6), ("own_starts", d7)] : List (Str × D)) = ([("own_rows", d0), ("own_room", d1), ("own_uses", d2), ("own_on", d3), ("own_level", d4), ("own_reason", d5), ("own_trail", d6), ("own_starts", d7), ("own_queue", d)] : List (Str × D)) := by
  simp only [TL.putF', if_neg (show ¬ (("own_rows" : Str) = ("own_queue" : Str)) from by decide +kernel), if_neg (show ¬ (("own_room" : Str) = ("own_queue" : Str)) from by decide +kernel), if_neg (show ¬ (("own_uses" : Str) = ("own_queue" : Str)) from by decide +kernel), if_neg (show ¬ (("own_on" : Str) = ("own_queue" : Str)) from by decide +kernel), if_neg (show ¬ (("own_level" : Str) = ("own_queue" : Str)) from by decide +kernel), if_neg (show ¬ (("own_reason" : Str) = ("own_queue" : Str)) from by decide +kernel), if_neg (show ¬ (("own_trail" : Str) = ("own_queue" : Str)) from by decide +kernel), if_neg (show ¬ (("own_starts" : Str) = ("own_queue" : Str)) from by decide +kernel)]

theorem init_step {M0 M : Mm} {e p : Addr} {fs : List (Str × D)} {objs : List (Addr × TL.PO)} {f : Str} {d : D} {o : TL.PO} {k : Mm → Prop} (h : Own M0 M ((e, .ins "Engine" fs) :: objs)) (hf : fs.length < 1000) (hp : M p = none)
    (hk : ∀ M', Own M0 M' ((e, .ins "Engine" (TL.putF' f d fs)) :: (objs ++ [(p, o)])) → k M') : sfK (mput M p o) (.ref e) "Engine" f d k := by
  have h1 := h.snoc (o := o) hp
  have he : mput M p o e = some (.ins "Engine" fs) := h1.at_ (e, _) (by simp)
  show insK _ _ _ _
  show (match mput M p o e with | some (.ins c fs) => c = ("Engine" : Str) ∧ _ | _ => False)
  rw [he]
  exact ⟨rfl, hf, hk _ (Own.set (xs := []) h1)⟩
theorem pure_Engine___init__ : ∀ ds M x Q, ct_Engine___init__ ds M x Q → wpSs ir_Engine___init__ (FinOf x Q) (startE 3 ds) M := by
  rintro ds M x Q ⟨M0, e, rows, rfl, he, rfl, hb, hq⟩
  simp only [ir_Engine___init__, startE, TL.wpSs, TL.wpS, wpE, wpEs, wpAnd, wpOr, wpKs, wpEo, wpCd, wpIt, putT, putTs, varK, Tg.slots, slotss, wipeE, List.set_cons_zero, List.set_cons_succ, List.map_cons, List.map_nil, List.length_cons, List.length_nil, List.replicate, List.cons_append, List.nil_append, List.getElem?_cons_zero, List.getElem?_cons_succ, Nat.reduceSub, Nat.reduceAdd, FinOf, biD, arg1, arg2, D.asI, D.asB, optI, binD, cmpK, sl1, sl2, true_and, and_true]
  have h0 : Own M0 (mput M0 e (.ins "Engine" [])) ((e, .ins "Engine" []) :: []) := Own.nil.snoc (o := .ins "Engine" []) he
  refine ⟨Nat.zero_le _, newLF fun p1 q1 => init_step h0 (by simp) q1 fun M1 h1 => ?_⟩
  rw [pf1] at h1
  refine ⟨Nat.zero_le _, newLF fun p2 q2 => init_step h1 (by simp) q2 fun M2 h2 => ?_⟩
  rw [pf2] at h2
  intro p3 q3
  refine init_step h2 (by simp) q3 fun M3 h3 => ?_
  rw [pf3] at h3
  intro p4 q4
  refine init_step h3 (by simp) q4 fun M4 h4 => ?_
  rw [pf4] at h4
  intro p5 q5
  refine init_step h4 (by simp) q5 fun M5 h5 => ?_
  rw [pf5] at h5
  intro p6 q6
  refine init_step h5 (by simp) q6 fun M6 h6 => ?_
  rw [pf6] at h6
  refine ⟨Nat.zero_le _, newLF fun p7 q7 => init_step h6 (by simp) q7 fun M7 h7 => ?_⟩
  rw [pf7] at h7
  refine (newLF fun p8 q8 => init_step h7 (by simp) q8 fun M8 h8 => ?_)
  rw [pf8] at h8
  refine ⟨Nat.zero_le _, newLF fun p9 q9 => init_step h8 (by simp) q9 fun M9 h9 => ?_⟩
  rw [pf9] at h9
  have hE : EngAt M0 M9 e [] [] [] := ⟨⟨⟨e, p1, p2, p3, p4, p5, p6, p7, p8, p9⟩, [], [], [], rfl, h9, by simp, fun l _ => rfl, by simp, by simp, by simp⟩, List.nodup_nil⟩
  refine seq_it (M := M9) (d := .tup (rows.map rowD)) (xs := rows.map rowD) rfl ?_
  refine forGo_inv rowD (fun (rest : List RowP) env M' => ∃ (z2 : Option D) (done : List RowP), env = [some (.ref e), some (.tup (rows.map rowD)), z2] ∧ EngAt M0 M' e done [] ((List.range done.length).map fun i : Nat => (i : Int)) ∧ done ++ rest = rows) (fun _ _ _ _ => trivial) ?_ ?_ _ _ _ ⟨_, [], rfl, hE, rfl⟩
  · rintro env M' ⟨z2, done, rfl, h', e1⟩
    have e1 : done = rows := by simpa using e1
    subst e1
    exact fin_same (hq M' h')
  · rintro r rest env M' k ⟨z2, done, rfl, h', e1⟩ hk
    simp only [startE, TL.wpSs, TL.wpS, wpE, wpEs, wpAnd, wpOr, wpKs, wpEo, wpCd, wpIt, putT, putTs, varK, Tg.slots, slotss, wipeE, List.set_cons_zero, List.set_cons_succ, List.map_cons, List.map_nil, List.length_cons, List.length_nil, List.replicate, List.cons_append, List.nil_append, List.getElem?_cons_zero, List.getElem?_cons_succ, Nat.reduceSub, Nat.reduceAdd, FinOf, biD, arg1, arg2, D.asI, D.asB, optI, binD, cmpK, sl1, sl2, true_and, and_true]
    have hn : done.length + 1 ≤ 8 := by
      have := congrArg List.length e1
      have := hb.lrows
      simp at *; omega
    obtain ⟨⟨E, us, lv, rs, ee, hO, _⟩, _⟩ := id h'
    subst ee
    refine ine hO ⟨lm_have E, M0, E.e, done, r, [], _, rfl, h', ⟨by simpa using hn, fun a ha => hb.row a (by rw [← e1]; simp at ha ⊢; rcases ha with ha | ha <;> simp [ha]), by simp, by simp; omega⟩, by simp; omega, fun M2 h2 => ?_⟩
    refine hk _ _ ⟨_, done ++ [r], rfl, ?_, by simpa using e1⟩
    rw [List.length_append, List.length_singleton, List.range_succ, List.map_append]
    exact h2
end K12

set_option Elab.async false
set_option linter.all false
set_option maxRecDepth 100000
set_option maxHeartbeats 1600000
set_option pp.maxSteps 3000
namespace K12
open PySem PySem.Spec PyProof.Rows L2 TL
theorem nodup_le : ∀ (n : Nat) (l : List Nat), l.Nodup → (∀ x ∈ l, x < n) → l.length ≤ n
  | 0, [], _, _ => Nat.le_refl _
  | 0, x :: l, _, h => absurd (h x List.mem_cons_self) (Nat.not_lt_zero _)
  | n + 1, l, nd, h => by
    have := nodup_le n (l.erase n) (nd.erase n) fun x hx => by
      have h1 := h x (List.mem_of_mem_erase hx)
      have h2 : x ≠ n := fun e => by
        subst e
        exact (List.Nodup.mem_erase_iff nd).mp hx |>.1 rfl
      omega
    have := List.length_erase (a := n) (l := l)
    split at this <;> omega
theorem lits_len {many : Int} {T : List Int} (h : LitsOk many T) (hm : many ≤ 8) : T.length ≤ 8 := by
  obtain ⟨nd, hl⟩ := h
  have n2 : ((T.map absI).map Int.toNat).Nodup := by
    have : ∀ L : List Int, L.Nodup → (∀ x ∈ L, 0 ≤ x) → (L.map Int.toNat).Nodup := by
      intro L
      induction L with
      | nil => intro _ _; exact List.nodup_nil
      | cons z L ih =>
        intro n p
        rw [List.nodup_cons] at n
        rw [List.map_cons, List.nodup_cons]
        refine ⟨fun hm => ?_, ih n.2 fun x hx => p x (List.mem_cons_of_mem _ hx)⟩
        obtain ⟨y, hy, e⟩ := List.mem_map.mp hm
        have := p y (List.mem_cons_of_mem _ hy)
        have := p z List.mem_cons_self
        have : y = z := by omega
        exact n.1 (this ▸ hy)
    refine this _ nd fun x hx => ?_
    obtain ⟨l, _, rfl⟩ := List.mem_map.mp hx
    unfold absI; split <;> omega
  have := nodup_le 9 _ n2 fun x hx => by
    obtain ⟨y, hy, rfl⟩ := List.mem_map.mp hx
    obtain ⟨l, hl', rfl⟩ := List.mem_map.mp hy
    have := (hl l hl').2
    unfold absI; split <;> omega
  -- none is nought
  have n3 : (0 :: (T.map absI).map Int.toNat).Nodup := by
    rw [List.nodup_cons]
    refine ⟨fun hm => ?_, n2⟩
    obtain ⟨y, hy, e⟩ := List.mem_map.mp hm
    obtain ⟨l, hl', rfl⟩ := List.mem_map.mp hy
    have := (hl l hl').1
    unfold absI at e; split at e <;> omega
  have := nodup_le 9 _ n3 fun x hx => by
    rcases List.mem_cons.mp hx with rfl | hx
    · omega
    · obtain ⟨y, hy, rfl⟩ := List.mem_map.mp hx
      obtain ⟨l, hl', rfl⟩ := List.mem_map.mp hy
      have := (hl l hl').2
      unfold absI; split <;> omega
  simp at this
  omega
theorem terms_inj : ∀ {ts : Terms} {a : Int} {t u : Int × Int}, TermsOk a ts → t ∈ ts → u ∈ ts → t.2.natAbs = u.2.natAbs → t = u
  | v :: ts, a, t, u, ⟨h1, h2, h3, h4⟩, ht, hu, e => by
    have gt : ∀ {ts : Terms} {a : Int} {w : Int × Int}, TermsOk a ts → w ∈ ts → a < (w.2.natAbs : Int) := by
      intro ts
      induction ts with
      | nil => intro a w _ h; cases h
      | cons z ts ih =>
        intro a w ⟨_, _, g3, g4⟩ h
        rcases List.mem_cons.mp h with rfl | h
        · exact g3
        · have := ih g4 h; omega
    rcases List.mem_cons.mp ht with rfl | ht' <;> rcases List.mem_cons.mp hu with rfl | hu'
    · rfl
    · have := gt h4 hu'; omega
    · have := gt h4 ht'; omega
    · exact terms_inj h4 ht' hu' e
theorem no_neg {ts : Terms} {a m m' l : Int} (h : TermsOk a ts) (h1 : (m, l) ∈ ts) (h2 : (m', -l) ∈ ts) : False := by
  have e := terms_inj h h1 h2 (by simp)
  have : l = -l := congrArg Prod.snd e
  have := (terms_mem h h1).2.1
  simp only at this
  omega
theorem uses_at {l : Int} : ∀ {rows : List RowP} {n : Int} {j : Nat} {r : RowP} {t : Int × Int}, rows[j]? = some r → t ∈ r.1 → t.2 = l → (n + j : Int) ∈ (usesF l n rows).map (·.1)
  | a :: rows, n, 0, r, t, h, ht, e => by
    simp at h; subst h
    rw [usesF, List.map_append]
    refine List.mem_append_left _ (List.mem_map.mpr ⟨(n, t.1), List.mem_map.mpr ⟨t, List.mem_filter.mpr ⟨ht, by simp [e]⟩, rfl⟩, by simp⟩)
  | a :: rows, n, j + 1, r, t, h, ht, e => by
    rw [usesF, List.map_append]
    refine List.mem_append_right _ ?_
    have := uses_at (n := n + 1) (j := j) (by simpa using h) ht e
    have e2 : (n + (j + 1 : Nat) : Int) = n + 1 + j := by omega
    rw [e2]; exact this
theorem room_same {T : List Int} {l : Int} (o : openB T l = true) (hl : l ≠ 0) {r : RowP} (h : ∀ t ∈ r.1, t.2 ≠ -l) : roomF (T ++ [l]) r = roomF T r := by
  rw [room_put o hl]
  have : r.1.filter (fun t => decide (t.2 = -l)) = [] := by
    rw [List.filter_eq_nil_iff]
    intro t ht; simp [h t ht]
  rw [this]; simp
theorem open_app {T : List Int} {l z : Int} (h : openB T z = false) : openB (T ++ [l]) z = false := by
  rw [openB_false] at h ⊢
  rcases h with h | h
  · exact .inl (List.mem_append_left _ h)
  · exact .inr (List.mem_append_left _ h)
theorem open_self {T : List Int} {l : Int} : openB (T ++ [l]) l = false := openB_false.mpr (.inl (by simp))
/-- the others stay settled -/
def SettX (rows : List RowP) (tr q : List Int) (i : Int) : Prop := ∀ (j : Nat) (r : RowP), rows[j]? = some r → (j : Int) ≠ i → (j : Int) ∉ q → 0 ≤ roomF tr r ∧ ∀ t ∈ r.1, roomF tr r < t.1 → openB tr t.2 = false
theorem settX_put {rows : List RowP} {A q : List Int} {i l : Int} (o : openB A l = true) (hl : l ≠ 0) (h : SettX rows A q i) : SettX rows (A ++ [l]) (q ++ (usesF (-l) 0 rows).map (·.1)) i := fun j r hj hi hq => by
  rw [List.mem_append, not_or] at hq
  have no : ∀ t ∈ r.1, t.2 ≠ -l := fun t ht e => hq.2 (by have := uses_at (n := 0) hj ht e; simpa using this)
  obtain ⟨a, b⟩ := h j r hj hi hq.1
  rw [room_same o hl no]
  exact ⟨a, fun t ht hlt => open_app (b t ht hlt)⟩
theorem cmp_q {M : Mm} {p : Addr} {q : List Int} {k : Bool → Prop} (h : M p = some (.lst (q.map D.int))) (hl : q.length ≤ 1000) (hk : k (decide (q = []))) : eqK M (.ref p) (.lst []) k := by
  have pl : plains (q.map D.int) = true := plains_map (fun _ => rfl) q
  have dp : deeps (q.map D.int) ≤ 0 := deeps_map (fun _ => by simp [D.deep]) q
  have n1 : now M (.ref p) = .lst (q.map D.int) := by simp [now, h]
  have n2 : now M (.lst []) = .lst [] := rfl
  show eqP (now M (.ref p)) (now M (.lst [])) k
  rw [n1, n2]
  refine ⟨?_, rfl, ?_⟩
  · show (plains (q.map D.int) && decide (deeps (q.map D.int) + 1 ≤ 60)) = true
    rw [pl, Bool.true_and]; exact decide_eq_true (by omega)
  · have : PyData.eqv (D.lst (q.map D.int)).py (D.lst []).py = decide (q = []) := by
      cases q with
      | nil => rfl
      | cons z q => simp [D.py, pys, PyData.eqv, PyData.eqvAll]
    rw [this]; exact hk
theorem pop0 {M : Mm} {p : Addr} {i : Int} {q : List Int} {fz : Bool} {Q : KD} (h : M p = some (.lst ((i :: q).map D.int))) (hQ : Q (.int i) (mput M p (.lst (q.map D.int)))) : bmD .list .pop fz (.ref p) [.int 0] M Q := by
  simp only [bmD, mlst, h, D.asI]
  have e : ixN ((i :: q).map D.int).length 0 = some 0 := by
    unfold ixN
    rw [if_pos (Int.le_refl _), if_pos (by simp)]; rfl
  rw [e]
  exact hQ
end K12

set_option Elab.async false
set_option linter.all false
set_option maxRecDepth 100000
set_option maxHeartbeats 1600000
set_option pp.maxSteps 3000
namespace K12
open PySem PySem.Spec PyProof.Rows L2 TL
def mOf (A q : List Int) : Nat := q.length + 65 * (8 - A.length)
theorem pure_Engine_force : ∀ ds M x Q, ct_Engine_force ds M x Q → wpSs ir_Engine_force (FinOf x Q) (startE 4 ds) M := by
  rintro ds M x Q ⟨M0, e, rows, tr, q, many, rfl, hE, hb, hm, hrow, hlit, hq60, hqin, hsett, hok, hbad⟩
  have hl : ∀ r ∈ rows, ∀ t ∈ r.1, t.2 ≠ 0 ∧ (t.2.natAbs : Int) ≤ many := fun r hr t ht => ⟨(terms_mem (hrow r hr).1 ht).2.1, (hrow r hr).2 t ht⟩
  have litA : ∀ {A}, Rch rows tr A → LitsOk many A := fun hA => ⟨rch_abs hA hlit.1, rch_lits hl hlit.2 hA⟩
  have lenA : ∀ {A}, Rch rows tr A → A.length ≤ 8 := fun hA => lits_len (litA hA) hm
  simp only [ir_Engine_force, startE, TL.wpSs, TL.wpS, wpE, wpEs, wpAnd, wpOr, wpKs, wpEo, wpCd, wpIt, putT, putTs, varK, Tg.slots, slotss, wipeE, List.set_cons_zero, List.set_cons_succ, List.map_cons, List.map_nil, List.length_cons, List.length_nil, List.replicate, List.cons_append, List.nil_append, List.getElem?_cons_zero, List.getElem?_cons_succ, Nat.reduceSub, Nat.reduceAdd, FinOf, biD, arg1, arg2, D.asI, D.asB, optI, binD, cmpK, sl1, sl2, true_and, and_true]
  refine ⟨fun m env M' => ∃ (z1 z2 z3 : Option D) (A q' : List Int), env = [some (.ref e), z1, z2, z3] ∧ EngAt M0 M' e rows A q' ∧ Rch rows tr A ∧ (∀ i ∈ q', 0 ≤ i ∧ i < rows.length) ∧ Sett rows A q' ∧ m = mOf A q' ∧ m ≤ 920, ⟨_, _, _, _, tr, q, rfl, hE, .refl, hqin, hsett, rfl, by unfold mOf; omega⟩, ?_⟩
  rintro m env M1 ⟨z1, z2, z3, A, q', rfl, hE1, hA, hin, hs, rfl, hm920⟩
  have hq' : q'.length ≤ 920 := by unfold mOf at hm920; omega
  obtain ⟨⟨E, us, lv, rs, ee, h, h2, h3, h4, h5, h6⟩, nab⟩ := hE1
  subst ee
  simp only [startE, TL.wpSs, TL.wpS, wpE, wpEs, wpAnd, wpOr, wpKs, wpEo, wpCd, wpIt, putT, putTs, varK, Tg.slots, slotss, wipeE, List.set_cons_zero, List.set_cons_succ, List.map_cons, List.map_nil, List.length_cons, List.length_nil, List.replicate, List.cons_append, List.nil_append, List.getElem?_cons_zero, List.getElem?_cons_succ, Nat.reduceSub, Nat.reduceAdd, FinOf, biD, arg1, arg2, D.asI, D.asB, optI, binD, cmpK, sl1, sl2, true_and, and_true]
  refine fe h (lk_own_queue E) ⟨Nat.zero_le _, newLT (cmp_q (g9 h) (by omega) ?_)⟩
  cases q' with
  | nil =>
    simp only [decide_true, Bool.not_true, Bool.false_eq_true, if_false]
    refine fin_same (hok A M1 hA (fun r hr => ?_) ⟨⟨E, us, lv, rs, rfl, h, h2, h3, h4, h5, h6⟩, nab⟩)
    obtain ⟨j, hj⟩ := List.mem_iff_getElem?.mp hr
    exact hs j r hj (by simp)
  | cons i q2 =>
    obtain ⟨i0, i1⟩ := hin i List.mem_cons_self
    simp only [reduceCtorEq, decide_false, Bool.not_false, if_true]
    refine fe h (lk_own_queue E) (ty_l (g9 h) ⟨rfl, pop0 (g9 h) ?_⟩)
    have hB := s9 h (v := q2)
    generalize hM2 : mput M1 E.a9 (.lst (q2.map D.int)) = M2 at *
    obtain ⟨r, hr⟩ : ∃ r, rows[i.toNat]? = some r := ⟨rows[i.toNat]'(by omega), List.getElem?_eq_getElem (by omega)⟩
    have rin : r ∈ rows := List.mem_of_getElem? hr
    have ei : ((i.toNat : Nat) : Int) = i := by omega
    have atR : ∀ A, atI ((rows.map (roomF A)).map D.int) i = some (.int (roomF A r)) := fun A => by
      rw [← ei, atI_nat]; simp [hr]
    have atW : atI (rows.map rowD) i = some (rowD r) := by rw [← ei, atI_nat]; simp [hr]
    refine fe hB (lk_own_room E) (ixL (g2 hB) (atR A) ?_)
    show if (decide (roomF A r < 0)) = true then _ else _
    by_cases neg : roomF A r < 0
    · rw [if_pos (by simpa using neg)]
      refine ⟨Nat.zero_le _, newLF fun p hp => ?_⟩
      have hJ := hB.junk (o := .lst []) hp
      show insK _ _ _ _
      refine ine hJ ⟨by simp [fldsE], ?_⟩
      refine fin_same (hbad A _ i hA ⟨r, rin, neg⟩ fun b u hb => ?_)
      have : b ≠ E.e := fun z => by
        have f : M0 E.e = none := hB.fr (E.e, .ins "Engine" (fldsE E)) (by simp [engO])
        rw [z, f] at hb; cases hb
      rw [mput_ne this]
      exact hJ.sub b u hb
    · rw [if_neg (by simpa using neg)]
      have hs2 : SettX rows A q2 i := fun j r' hj hji hjq => hs j r' hj (by simp [hji, hjq])
      refine fe hB (lk_own_rows E) (ixL (g1 hB) atW (ixT (xs := [termsD r.1, .int r.2]) rfl ?_))
      refine seq_it (M := M2) (d := termsD r.1) (xs := r.1.map prD) rfl ?_
      refine forGo_inv prD (fun (rest : Terms) env M' => ∃ (z2 z3 : Option D) (A' q3 : List Int) (pre : Terms), env = [some (.ref E.e), some (.int i), z2, z3] ∧ EngAt M0 M' E.e rows A' q3 ∧ Rch rows tr A' ∧ (∀ i ∈ q3, 0 ≤ i ∧ i < rows.length) ∧ SettX rows A' q3 i ∧ 0 ≤ roomF A' r ∧ mOf A' q3 + 1 ≤ mOf A (i :: q2) ∧
        pre ++ rest = r.1 ∧ ∀ t ∈ pre, roomF A' r < t.1 → openB A' t.2 = false) (fun _ _ _ _ => trivial) ?_ ?_ _ _ _ ⟨_, _, A, q2, [], rfl, ⟨⟨E, us, lv, rs, rfl, hB, h2, h3, h4, h5, h6⟩, nab⟩, hA, fun j hj => hin j (List.mem_cons_of_mem _ hj), hs2, by omega, by unfold mOf; simp; omega, rfl, by simp⟩
      · rintro env M' ⟨z2, z3, A', q3, pre, rfl, hE3, hA3, hin3, hs3, hr3, hm3, ep, hp⟩
        have ep : pre = r.1 := by simpa using ep
        subst ep
        refine ⟨mOf A' q3, by omega, _, _, _, A', q3, rfl, hE3, hA3, hin3, fun j r' hj hjq => ?_, rfl, by omega⟩
        by_cases c : (j : Int) = i
        · have : j = i.toNat := by omega
          subst this
          rw [hr] at hj; cases hj
          exact ⟨hr3, hp⟩
        · exact hs3 j r' hj c hjq
      · rintro t rest env M' k ⟨z2, z3, A', q3, pre, rfl, hE3, hA3, hin3, hs3, hr3, hm3, ep, hp⟩ hk
        obtain ⟨⟨E', us', lv', rs', ee, h', k2, k3, k4, k5, k6⟩, nab'⟩ := id hE3
        have tin : t ∈ r.1 := by rw [← ep]; simp
        have ep' : pre ++ [t] ++ rest = r.1 := by simpa using ep
        simp only [prD, startE, TL.wpSs, TL.wpS, wpE, wpEs, wpAnd, wpOr, wpKs, wpEo, wpCd, wpIt, putT, putTs, varK, Tg.slots, slotss, wipeE, List.set_cons_zero, List.set_cons_succ, List.map_cons, List.map_nil, List.length_cons, List.length_nil, List.replicate, List.cons_append, List.nil_append, List.getElem?_cons_zero, List.getElem?_cons_succ, Nat.reduceSub, Nat.reduceAdd, FinOf, biD, arg1, arg2, D.asI, D.asB, optI, binD, cmpK, sl1, sl2, true_and, and_true]
        rw [ee]
        refine fe h' (lk_own_room E') (ixL (g2 h') (atR A') ?_)
        show if (decide (roomF A' r < t.1)) = true then _ else _
        by_cases big : roomF A' r < t.1
        · rw [if_pos (by simpa using big)]
          refine ine h' ⟨lm_is_open E', M0, E', _, _, _, _, _, _, _, _, _, t.2, rfl, h', ?_⟩
          cases op : openB A' t.2 with
          | true =>
            simp only [if_true]
            have t0 := (hl r rin t tin).1
            have hA4 : Rch rows tr (A' ++ [t.2]) := .step hA3 ⟨r, rin, t.1, tin, big⟩ op
            have l4 := lenA hA4
            have lu := uses_len (-t.2) rows 0 fun a ha => (hb.row a ha).1
            have lr8 := hb.lrows
            have lq3 : q3.length ≤ 920 := by unfold mOf at hm3 hm920; omega
            rw [List.length_append, List.length_singleton] at l4
            have mm : mOf (A' ++ [t.2]) (q3 ++ (usesF (-t.2) 0 rows).map (·.1)) ≤ mOf A' q3 := by
              unfold mOf
              simp only [List.length_append, List.length_map, List.length_singleton]
              omega
            refine ine h' ⟨lm_put_on E', M0, E'.e, rows, A', q3, t.2, _, rfl, by rw [← ee]; exact hE3, ⟨hb.lrows, hb.row, by simp; omega, ?_⟩, op, t0, fun M4 h4' => ?_⟩
            · unfold mOf at mm hm3 hm920; omega
            have nn : ∀ u ∈ r.1, u.2 ≠ -t.2 := fun u hu z => no_neg (hrow r rin).1 (m := t.1) (m' := u.1) (l := t.2) tin (by rw [← z]; exact hu)
            have sm := room_same op t0 nn
            rw [← ee] at h4'
            rw [← ee]
            refine hk _ M4 ⟨_, _, _, _, pre ++ [t], rfl, h4', hA4, fun j hj => ?_, settX_put op t0 hs3, by rw [sm]; exact hr3, by omega, ep', fun u hu hlt => ?_⟩
            · rcases List.mem_append.mp hj with hj | hj
              · exact hin3 j hj
              · obtain ⟨p, hp', rfl⟩ := List.mem_map.mp hj
                have := uses_in (-t.2) rows 0 p (by simpa using hp')
                simpa using this
            · rw [sm] at hlt
              rcases List.mem_append.mp hu with hu | hu
              · exact open_app (hp u hu hlt)
              · simp at hu; subst hu; exact open_self
          | false =>
            simp only [Bool.false_eq_true, if_false]
            rw [← ee]
            refine hk _ M' ⟨_, _, A', q3, pre ++ [t], rfl, hE3, hA3, hin3, hs3, hr3, hm3, ep', fun u hu hlt => ?_⟩
            rcases List.mem_append.mp hu with hu | hu
            · exact hp u hu hlt
            · simp at hu; subst hu; exact op
        · rw [if_neg (by simpa using big)]
          rw [← ee]
          refine hk _ M' ⟨_, _, A', q3, pre ++ [t], rfl, hE3, hA3, hin3, hs3, hr3, hm3, ep', fun u hu hlt => ?_⟩
          rcases List.mem_append.mp hu with hu | hu
          · exact hp u hu hlt
          · simp at hu; subst hu; exact absurd hlt big
end K12

set_option Elab.async false
set_option linter.all false
set_option maxRecDepth 100000
set_option maxHeartbeats 1600000
set_option pp.maxSteps 3000
namespace K12
open PySem PySem.Spec PyProof.Rows L2 TL
theorem ins_rows {M : Mm} {q : Addr} {m : Int} {rows : List RowP} {kk : Addr → List (Str × D) → Prop} (e : M q = some (rowsI m rows)) (h : kk q [("own_switches", .int m), ("own_rows", .tup (rows.map rowD))]) : insK M (.ref q) "Rows" kk := by
  show (match M q with | some (.ins c fs) => c = ("Rows" : Str) ∧ kk q fs | _ => False)
  rw [e]; exact ⟨rfl, h⟩
theorem pure_are_literals : ∀ ds M x Q, ct_are_literals ds M x Q → wpSs ir_are_literals (FinOf x Q) (startE 5 ds) M := by
  rintro ds M x Q ⟨p, many, rows, T, rfl, hM, ⟨nT, hl⟩, t8, m8, hq⟩
  simp [ir_are_literals, startE, fullD, i3, itK, seqOf, lstOf, catOf, grd]
  refine ⟨sl_of (by omega), compGo_map D.int (fun _ => D.bl true) trivial T (fun a ha acc k hk => ?_) ?_⟩
  · have := hl a ha
    exact ⟨a, rfl, ⟨this.1, by omega⟩, hk⟩
  · simp [bools_true]
    refine ⟨sl_of (by omega), compGo_map D.int (fun l => D.int (absI l)) trivial T (fun a ha acc k hk => by simpa [absI] using hk) ?_⟩
    have e : T.map (fun l => D.int (absI l)) = (T.map absI).map D.int := by simp
    rw [e]
    simp only [intsOf_map]
    refine ⟨nT, by simp; omega, ?_⟩
    simp [dctOf, seqOf, lstOf, catOf, eqK]
    refine ⟨sl_of (by omega), ?_⟩
    have e2 : T.map (D.int ∘ absI) = (T.map absI).map D.int := by simp
    rw [e2]
    refine compGo_map D.int (fun _ => D.bl true) trivial (T.map absI) (fun a ha acc k hk => ?_) ?_
    · refine ins_rows hM ⟨p, many, rows, rfl, hM, ?_⟩
      obtain ⟨l, hl', rfl⟩ := List.mem_map.mp ha
      have := (hl l hl').2
      have e3 : decide (absI l ≤ many) = true := decide_eq_true (by unfold absI; split <;> omega)
      simp only [e3]
      exact hk
    · simp [Function.comp_def, bools_true]
      exact fin_same hq
theorem pure_check_literals : ∀ ds M x Q, ct_check_literals ds M x Q → wpSs ir_check_literals (FinOf x Q) (startE 2 ds) M := by
  rintro ds M x Q ⟨p, many, rows, T, rfl, hM, hT, t8, m8, hq⟩
  simp [ir_check_literals, startE]
  refine ⟨p, many, rows, rfl, hM, p, many, rows, T, rfl, hM, hT, t8, m8, ?_⟩
  simp
  exact fin_same hq
theorem pure_forced : ∀ ds M x Q, ct_forced ds M x Q → wpSs ir_forced (FinOf x Q) (startE 2 ds) M := by
  rintro ds M x Q ⟨p, many, rows, T, rfl, hM, ha, hq⟩
  obtain ⟨m6, r5, hr, hT, t6⟩ := id ha
  simp [ir_forced, startE]
  exact ⟨p, many, rows, T, rfl, hM, hT, by omega, by omega, p, many, rows, T, rfl, hM, ha, fun res h => fin_same (hq res h)⟩
theorem flat_ints (ns : List Int) : (ns.map D.int).all D.flat = true := by rw [List.all_map]; exact List.all_eq_true.mpr fun _ _ => rfl
theorem any_ints (z : Int) (ns : List Int) : ((ns.map D.int).any fun y => flatEq y (.int z)) = memB ns z := by
  rw [List.any_map]; unfold memB
  congr 1
/-- x in a tuple of ints -/
theorem in_tup {M : Mm} {z : Int} {ns : List Int} {k : Bool → Prop} (h : k (memB ns z)) : inK M (.int z) (.tup (ns.map D.int)) k := by
  show D.flat (.int z) = true ∧ (ns.map D.int).all D.flat = true ∧ k ((ns.map D.int).any fun y => flatEq y (.int z))
  rw [any_ints]
  exact ⟨rfl, flat_ints ns, h⟩
theorem in_lst {M : Mm} {z : Int} {p : Addr} {ns : List Int} {k : Bool → Prop} (e : M p = some (.lst (ns.map D.int))) (h : k (memB ns z)) : inK M (.int z) (.ref p) k := by
  simp only [inK, dctOf, e, seqOf, lstOf, catOf]
  refine ⟨rfl, flat_ints ns, ?_⟩
  rw [any_ints]; exact h
theorem pure_forced_more : ∀ ds M x Q, ct_forced_more ds M x Q → wpSs ir_forced_more (FinOf x Q) (startE 4 ds) M := by
  rintro ds M x Q ⟨p, many, rows, T, rfl, hM, ha, hq⟩
  obtain ⟨m6, r5, hr, hT, t6⟩ := id ha
  simp only [ir_forced_more, startE, TL.wpSs, TL.wpS, wpE, wpEs, wpAnd, wpOr, wpKs, wpEo, wpCd, wpIt, putT, putTs, varK, Tg.slots, slotss, wipeE, List.set_cons_zero, List.set_cons_succ, List.map_cons, List.map_nil, List.length_cons, List.length_nil, List.replicate, List.cons_append, List.nil_append, List.getElem?_cons_zero, List.getElem?_cons_succ, Nat.reduceSub, Nat.reduceAdd, FinOf, biD, arg1, arg2, D.asI, D.asB, optI, binD, cmpK, sl1, sl2, true_and, and_true]
  refine ⟨p, many, rows, T, rfl, hM, hT, by omega, by omega, p, many, rows, T, rfl, hM, ha, fun res h => ?_⟩
  cases res with
  | none =>
    simp only [optD, if_true]
    exact fin_same (hq none h)
  | some A =>
    simp only [optD, fullD, Bool.false_eq_true, if_false]
    have lA : A.length ≤ 8 := by
      rcases h with ⟨e, _⟩ | ⟨B, h1, _, e⟩
      · cases e
      · cases e
        have := lits_len (many := many) ⟨rch_abs h1 hT.1, rch_lits (fun r hr' t ht => ⟨(terms_mem (hr r hr').1.1 ht).2.1, (hr r hr').1.2 t ht⟩) hT.2 h1⟩ (by omega)
        rw [(sortA_perm B).length_eq]; exact this
    refine seq_it (M := M) (d := fullD A) (xs := A.map D.int) rfl ⟨sl_of (by simp; omega), ?_⟩
    refine compGo_opt D.int (fun z => if memB T z = true then none else some (D.int z)) trivial A [] (fun z hz acc k hk => ?_) ?_
    · refine in_tup ?_
      cases c : memB T z with
      | true => rw [c] at hk; simpa using hk
      | false => rw [c] at hk; simpa using hk
    · have e : A.filterMap (fun z => if memB T z = true then none else some (D.int z)) = (A.filter fun z => !memB T z).map D.int := by
        clear h lA
        induction A with
        | nil => rfl
        | cons z A ih =>
          cases c : memB T z with
          | true => simp [List.filterMap_cons, List.filter_cons, c, ih]
          | false => simp [List.filterMap_cons, List.filter_cons, c, ih]
      rw [List.nil_append, e]
      refine newLT ?_
      exact fin_same (hq (some A) h)
theorem sett_x {rows : List RowP} {A q : List Int} : Sett rows A q ↔ SettX rows A q (-1) := ⟨fun h j r hj _ hq => h j r hj hq, fun h j r hj hq => h j r hj (by omega) hq⟩
theorem pure_forced_by : ∀ ds M x Q, ct_forced_by ds M x Q → wpSs ir_forced_by (FinOf x Q) (startE 4 ds) M := by
  rintro ds M x Q ⟨p, many, rows, T, rfl, hM, ⟨m6, r5, hr, hT, t6⟩, hq⟩
  have hB : ∀ tr q : List Int, tr.length ≤ 8 → q.length ≤ 2000 → EngB rows tr q := fun tr q a b => ⟨by omega, fun r hr' => ⟨by have := (hr r hr').2; omega, (hr r hr').1.1, fun t ht => Int.le_trans ((hr r hr').1.2 t ht) (by omega)⟩, a, b⟩
  simp only [ir_forced_by, startE, TL.wpSs, TL.wpS, wpE, wpEs, wpAnd, wpOr, wpKs, wpEo, wpCd, wpIt, putT, putTs, varK, Tg.slots, slotss, wipeE, List.set_cons_zero, List.set_cons_succ, List.map_cons, List.map_nil, List.length_cons, List.length_nil, List.replicate, List.cons_append, List.nil_append, List.getElem?_cons_zero, List.getElem?_cons_succ, Nat.reduceSub, Nat.reduceAdd, FinOf, biD, arg1, arg2, D.asI, D.asB, optI, binD, cmpK, sl1, sl2, true_and, and_true]
  refine ins_rows hM ⟨p, many, rows, rfl, hM, fun e he => ⟨M, e, rows, rfl, he, rfl, hB [] [] (by simp) (by simp), fun M1 hE => ⟨rfl, ?_⟩⟩⟩
  refine seq_it (M := M1) (d := fullD T) (xs := T.map D.int) rfl ?_
  refine forGo_inv D.int (fun (rest : List Int) env M' => ∃ (z3 : Option D) (done q' : List Int), env = [some (.ref p), some (fullD T), some (.ref e), z3] ∧ EngAt M M' e rows done q' ∧ done ++ rest = T ∧ Sett rows done q' ∧ (∀ i ∈ q', 0 ≤ i ∧ i < rows.length) ∧ q'.length ≤ 8 + 40 * done.length) (fun _ _ _ _ => trivial) ?_ ?_ _ _ _ ⟨_, [], _, rfl, hE, rfl, ?_, ?_, by simp; omega⟩
  · rintro env M' ⟨z3, done, q', rfl, hE', e1, hs, hin, lq⟩
    have e1 : done = T := by simpa using e1
    subst e1
    obtain ⟨⟨E, us, lv, rs, ee, hO, _⟩, _⟩ := id hE'
    subst ee
    simp only [startE, TL.wpSs, TL.wpS, wpE, wpEs, wpAnd, wpOr, wpKs, wpEo, wpCd, wpIt, putT, putTs, varK, Tg.slots, slotss, wipeE, List.set_cons_zero, List.set_cons_succ, List.map_cons, List.map_nil, List.length_cons, List.length_nil, List.replicate, List.cons_append, List.nil_append, List.getElem?_cons_zero, List.getElem?_cons_succ, Nat.reduceSub, Nat.reduceAdd, FinOf, biD, arg1, arg2, D.asI, D.asB, optI, binD, cmpK, sl1, sl2, true_and, and_true]
    refine ine hO ⟨lm_force E, M, E.e, rows, done, q', many, rfl, hE', hB _ _ (by omega) (by omega), by omega, fun r hr' => (hr r hr').1, hT, by omega, hin, hs, fun A M2 hA hC hE2 => ?_, fun A M2 i hA hC hsub => ?_⟩
    · simp only [Bool.false_eq_true, if_false]
      obtain ⟨⟨E2, us2, lv2, rs2, ee, hO2, _⟩, _⟩ := id hE2
      rw [ee]
      refine ine hO2 ⟨lm_trail E2, M, E2, _, _, _, _, _, _, _, _, _, rfl, hO2, ints_ok (newLT ?_)⟩
      exact fin_sub hO2.sub (hq (some (sortA A)) (.inr ⟨A, hA, hC, rfl⟩))
    · simp only [if_true]
      exact fin_sub hsub (hq none (.inl ⟨rfl, A, hA, hC⟩))
  · rintro l rest env M' k ⟨z3, done, q', rfl, hE', e1, hs, hin, lq⟩ hk
    obtain ⟨⟨E, us, lv, rs, ee, hO, _⟩, nab⟩ := id hE'
    have lT : l ∈ T := by rw [← e1]; simp
    have ld : done.length + 1 ≤ 6 := by
      have := congrArg List.length e1
      simp at this; omega
    have nT := hT.1
    unfold AbsN at nT
    rw [← e1, List.map_append, List.map_cons, List.nodup_append] at nT
    have no : ∀ z ∈ done, absI z ≠ absI l := fun z hz => nT.2.2 _ (List.mem_map.mpr ⟨z, hz, rfl⟩) _ List.mem_cons_self
    have op : openB done l = true := openB_true.mpr ⟨fun h => no l h rfl, fun h => no (-l) h (by unfold absI; split <;> split <;> omega)⟩
    have off : memB done (-l) = false := memB_false.mpr (openB_true.mp op).2
    simp only [startE, TL.wpSs, TL.wpS, wpE, wpEs, wpAnd, wpOr, wpKs, wpEo, wpCd, wpIt, putT, putTs, varK, Tg.slots, slotss, wipeE, List.set_cons_zero, List.set_cons_succ, List.map_cons, List.map_nil, List.length_cons, List.length_nil, List.replicate, List.cons_append, List.nil_append, List.getElem?_cons_zero, List.getElem?_cons_succ, Nat.reduceSub, Nat.reduceAdd, FinOf, biD, arg1, arg2, D.asI, D.asB, optI, binD, cmpK, sl1, sl2, true_and, and_true]
    rw [ee]
    refine ine hO ⟨lm_is_off E, M, E, _, _, _, _, _, _, _, _, _, l, rfl, hO, nab, ?_⟩
    rw [off]
    simp only [Bool.false_eq_true, if_false]
    refine ine hO ⟨lm_is_open E, M, E, _, _, _, _, _, _, _, _, _, l, rfl, hO, ?_⟩
    rw [op]
    simp only [if_true]
    have lu := uses_len (-l) rows 0 fun a ha => by have := (hr a ha).2; omega
    refine ine hO ⟨lm_put_on E, M, E.e, rows, done, q', l, _, rfl, by rw [← ee]; exact hE', hB _ _ (by simp; omega) (by simp; omega), op, (hT.2 l lT).1, fun M4 h4 => ?_⟩
    rw [← ee] at h4
    rw [← ee]
    refine hk _ M4 ⟨_, done ++ [l], _, rfl, h4, by simpa using e1, sett_x.mpr (settX_put op (hT.2 l lT).1 (sett_x.mp hs)), fun j hj => ?_, by simp; omega⟩
    rcases List.mem_append.mp hj with hj | hj
    · exact hin j hj
    · obtain ⟨p, hp', rfl⟩ := List.mem_map.mp hj
      have := uses_in (-l) rows 0 p (by simpa using hp')
      simpa using this
  · intro j r hj hq'
    have : j < rows.length := (List.getElem?_eq_some_iff.mp hj).1
    exact absurd (List.mem_map.mpr ⟨j, List.mem_range.mpr this, rfl⟩) hq'
  · intro i hi
    obtain ⟨j, hj, rfl⟩ := List.mem_map.mp hi
    have := List.mem_range.mp hj
    omega
end K12

set_option Elab.async false
set_option linter.all false
set_option maxRecDepth 100000
set_option maxHeartbeats 1600000
set_option pp.maxSteps 3000
namespace K12
open PySem PySem.Spec PyProof.Rows L2 TL
theorem some_ok {α : Type} {o : Option α} {x : α} {F : α → Prop} (e : o = some x) (h : F x) : someK o F := by subst e; exact h
theorem revL_ok {M : Mm} {xs : List D} {Q : KD} (h : Q (.lst xs.reverse) M) : revK true M (.lst xs) Q := newLT h
theorem revT_ok {M : Mm} {xs : List D} {Q : KD} {fz : Bool} (h : Q (.tup xs.reverse) M) : revK fz M (.tup xs) Q := h
theorem pure__law_forced : ∀ ds M x Q, ct__law_forced ds M x Q → wpSs ir__law_forced (FinOf x Q) (startE 9 ds) M := by
  rintro ds M x Q ⟨many, rows, T, rfl, ⟨m6, r5, hr, hT, t6⟩, hq⟩
  have hl : ∀ r ∈ rows, ∀ t ∈ r.1, t.2 ≠ 0 ∧ (t.2.natAbs : Int) ≤ many := fun r hr' t ht => ⟨(terms_mem (hr r hr').1.1 ht).2.1, (hr r hr').1.2 t ht⟩
  have lenA : ∀ {A}, Rch rows T A → A.length ≤ 8 := fun hA => lits_len ⟨rch_abs hA hT.1, rch_lits hl hT.2 hA⟩ (by omega)
  simp only [ir__law_forced, startE, TL.wpSs, TL.wpS, wpE, wpEs, wpAnd, wpOr, wpKs, wpEo, wpCd, wpIt, putT, putTs, varK, Tg.slots, slotss, wipeE, List.set_cons_zero, List.set_cons_succ, List.map_cons, List.map_nil, List.length_cons, List.length_nil, List.replicate, List.cons_append, List.nil_append, List.getElem?_cons_zero, List.getElem?_cons_succ, Nat.reduceSub, Nat.reduceAdd, FinOf, biD, arg1, arg2, D.asI, D.asB, optI, binD, cmpK, sl1, sl2, true_and, and_true]
  refine some_ok (x := T.map D.int) rfl (newLF fun w hw => ?_)
  refine ⟨fun m env M' => ∃ (z4 z5 z6 z7 z8 : Option D) (A : List Int) (b : Bool), env = [some (.lst (rows.map rowD)), some (fullD T), some (.ref w), some (.bl b), z4, z5, z6, z7, z8] ∧ M' w = some (.lst (A.map D.int)) ∧ TL.sub M M' ∧ Rch rows T A ∧ (b = false → Clo rows A) ∧ m = 2 * (8 - A.length) + (if b then 1 else 0),
    ⟨_, _, _, _, _, _, T, true, rfl, mput_same, sub_put sub_refl hw, .refl, fun e => (by cases e), rfl⟩, ?_⟩
  rintro m env M1 ⟨z4, z5, z6, z7, z8, A, b, rfl, hMw, hsub, hA, hb, rfl⟩
  simp only [startE, TL.wpSs, TL.wpS, wpE, wpEs, wpAnd, wpOr, wpKs, wpEo, wpCd, wpIt, putT, putTs, varK, Tg.slots, slotss, wipeE, List.set_cons_zero, List.set_cons_succ, List.map_cons, List.map_nil, List.length_cons, List.length_nil, List.replicate, List.cons_append, List.nil_append, List.getElem?_cons_zero, List.getElem?_cons_succ, Nat.reduceSub, Nat.reduceAdd, FinOf, biD, arg1, arg2, D.asI, D.asB, optI, binD, cmpK, sl1, sl2, true_and, and_true]
  cases b with
  | false =>
    simp only [Bool.false_eq_true, if_false]
    refine some_ok (x := A.map D.int) (by simp only [lstOf, catOf, hMw]) (some_ok (x := A) (intsOf_map A) (newLT ?_))
    exact fin_sub hsub (hq (some (sortA A)) (.inr ⟨A, hA, hb rfl, rfl⟩))
  | true =>
    simp only [if_true]
    have lA := lenA hA
    refine revL_ok ?_
    rw [← List.map_reverse]
    refine (seq_it (M := M1) (d := .lst (rows.reverse.map rowD)) (xs := rows.reverse.map rowD) rfl ?_)
    refine forGo_inv rowD (fun (rest : List RowP) env M' => ∃ (z4 z5 z6 z7 z8 : Option D) (A' : List Int) (b' : Bool) (done : List RowP), env = [some (.lst (rows.map rowD)), some (fullD T), some (.ref w), some (.bl b'), z4, z5, z6, z7, z8] ∧ M' w = some (.lst (A'.map D.int)) ∧ TL.sub M M' ∧ Rch rows T A' ∧
      done ++ rest = rows.reverse ∧ (b' = false → A' = A ∧ ∀ r ∈ done, 0 ≤ roomF A r ∧ ∀ t ∈ r.1, roomF A r < t.1 → openB A t.2 = false) ∧ (b' = true → A.length < A'.length)) (fun _ _ _ _ => trivial) ?_ ?_ _ _ _ ⟨_, _, _, _, _, A, false, [], rfl, hMw, hsub, hA, rfl, fun _ => ⟨rfl, by simp⟩, fun e => by cases e⟩
    · rintro env M' ⟨z4, z5, z6, z7, z8, A', b', done, rfl, h1, h2, h3, h4, h5, h6⟩
      have h4 : done = rows.reverse := by simpa using h4
      subst h4
      have lA' := lenA h3
      cases b' with
      | false =>
        obtain ⟨rfl, hc⟩ := h5 rfl
        refine ⟨_, ?_, _, _, _, _, _, A', false, rfl, h1, h2, h3, fun _ r hr' => hc r (List.mem_reverse.mpr hr'), rfl⟩
        simp
      | true =>
        have := h6 rfl
        refine ⟨_, ?_, _, _, _, _, _, A', true, rfl, h1, h2, h3, fun e => (by cases e), rfl⟩
        simp; omega
    · rintro r rest env M' k ⟨z4, z5, z6, z7, z8, A', b', done, rfl, h1, h2, h3, h4, h5, h6⟩ hk
      have rin : r ∈ rows := List.mem_reverse.mp (by rw [← h4]; simp)
      have lr := (hr r rin).2
      simp only [rowD, startE, TL.wpSs, TL.wpS, wpE, wpEs, wpAnd, wpOr, wpKs, wpEo, wpCd, wpIt, putT, putTs, varK, Tg.slots, slotss, wipeE, List.set_cons_zero, List.set_cons_succ, List.map_cons, List.map_nil, List.length_cons, List.length_nil, List.replicate, List.cons_append, List.nil_append, List.getElem?_cons_zero, List.getElem?_cons_succ, Nat.reduceSub, Nat.reduceAdd, FinOf, biD, arg1, arg2, D.asI, D.asB, optI, binD, cmpK, sl1, sl2, true_and, and_true]
      refine seq_it (M := M') (d := termsD r.1) (xs := r.1.map prD) rfl ⟨sl_of (by simp; omega), compGo_opt prD (fun t => if memB A' (-t.2) = true then none else some (D.int t.1)) trivial r.1 [] (fun t ht acc k hk => ?_) ?_⟩
      · simp only [prD, startE, TL.wpSs, TL.wpS, wpE, wpEs, wpAnd, wpOr, wpKs, wpEo, wpCd, wpIt, putT, putTs, varK, Tg.slots, slotss, wipeE, List.set_cons_zero, List.set_cons_succ, List.map_cons, List.map_nil, List.length_cons, List.length_nil, List.replicate, List.cons_append, List.nil_append, List.getElem?_cons_zero, List.getElem?_cons_succ, Nat.reduceSub, Nat.reduceAdd, FinOf, biD, arg1, arg2, D.asI, D.asB, optI, binD, cmpK, sl1, sl2, true_and, and_true]
        refine in_lst h1 ?_
        cases c : memB A' (-t.2) with
        | true => rw [c] at hk; simpa using hk
        | false => rw [c] at hk; simpa using hk
      have ef : r.1.filterMap (fun t => if memB A' (-t.2) = true then none else some (D.int t.1)) = ((r.1.filter fun t => !memB A' (-t.2)).map (·.1)).map D.int := by
        generalize r.1 = ts
        induction ts with
        | nil => rfl
        | cons t ts ih =>
          cases c : memB A' (-t.2) with
          | true => simp [List.filterMap_cons, List.filter_cons, c, ih]
          | false => simp [List.filterMap_cons, List.filter_cons, c, ih]
      rw [List.nil_append, ef]
      refine newLT (ints_ok (subI ?_))
      have er : ((r.1.filter fun t => !memB A' (-t.2)).map (·.1)).sum - r.2 = roomF A' r := rfl
      rw [er]
      by_cases neg : roomF A' r < 0
      · simp only [neg, decide_true, if_true]
        exact fin_sub h2 (hq none (.inl ⟨rfl, A', h3, r, rin, neg⟩))
      · simp only [neg, decide_false, Bool.false_eq_true, if_false]
        refine revT_ok ?_
        rw [← List.map_reverse]
        refine seq_it (M := M') (d := .tup (r.1.reverse.map prD)) (xs := r.1.reverse.map prD) rfl ?_
        refine forGo_inv prD (fun (rest2 : Terms) env M2 => ∃ (z7 z8 : Option D) (A2 : List Int) (b2 : Bool) (pre : Terms), env = [some (.lst (rows.map rowD)), some (fullD T), some (.ref w), some (.bl b2), some (termsD r.1), some (.int r.2), some (.int (roomF A' r)), z7, z8] ∧ M2 w = some (.lst (A2.map D.int)) ∧ TL.sub M M2 ∧ Rch rows T A2 ∧
          pre ++ rest2 = r.1.reverse ∧ roomF A2 r = roomF A' r ∧ (b2 = false → b' = false ∧ A2 = A' ∧ ∀ t ∈ pre, roomF A' r < t.1 → openB A2 t.2 = false) ∧ (b2 = true → A.length < A2.length)) (fun _ _ _ _ => trivial) ?_ ?_ _ _ _ ⟨_, _, A', b', [], rfl, h1, h2, h3, rfl, rfl, fun e => ⟨e, rfl, by simp⟩, h6⟩
        · rintro env M2 ⟨z7, z8, A2, b2, pre, rfl, g1, g2, g3, g4, g5, g6, g7⟩
          have g4 : pre = r.1.reverse := by simpa using g4
          subst g4
          refine hk _ M2 ⟨_, _, _, _, _, A2, b2, done ++ [r], rfl, g1, g2, g3, by simpa using h4, fun e => ?_, g7⟩
          obtain ⟨e1, rfl, e3⟩ := g6 e
          obtain ⟨rfl, e4⟩ := h5 e1
          refine ⟨rfl, fun r' hr' => ?_⟩
          rcases List.mem_append.mp hr' with hr' | hr'
          · exact e4 r' hr'
          · simp at hr'; subst hr'
            exact ⟨by omega, fun t ht => e3 t (List.mem_reverse.mpr ht)⟩
        · rintro t rest2 env M2 k2 ⟨z7, z8, A2, b2, pre, rfl, g1, g2, g3, g4, g5, g6, g7⟩ hk2
          have tin : t ∈ r.1 := List.mem_reverse.mp (by rw [← g4]; simp)
          have g4' : pre ++ [t] ++ rest2 = r.1.reverse := by simpa using g4
          have stay : (roomF A' r < t.1 → openB A2 t.2 = false) → k2 [some (.lst (rows.map rowD)), some (fullD T), some (.ref w), some (.bl b2), some (termsD r.1), some (.int r.2), some (.int (roomF A' r)), some (.int t.1), some (.int t.2)] M2 := fun hc => by
            refine hk2 _ M2 ⟨_, _, A2, b2, pre ++ [t], rfl, g1, g2, g3, g4', g5, fun e => ?_, g7⟩
            obtain ⟨e1, e2, e3⟩ := g6 e
            refine ⟨e1, e2, fun u hu hlt => ?_⟩
            rcases List.mem_append.mp hu with hu | hu
            · exact e3 u hu hlt
            · simp at hu; subst hu; exact hc hlt
          simp only [prD, startE, TL.wpSs, TL.wpS, wpE, wpEs, wpAnd, wpOr, wpKs, wpEo, wpCd, wpIt, putT, putTs, varK, Tg.slots, slotss, wipeE, List.set_cons_zero, List.set_cons_succ, List.map_cons, List.map_nil, List.length_cons, List.length_nil, List.replicate, List.cons_append, List.nil_append, List.getElem?_cons_zero, List.getElem?_cons_succ, Nat.reduceSub, Nat.reduceAdd, FinOf, biD, arg1, arg2, D.asI, D.asB, optI, binD, cmpK, sl1, sl2, true_and, and_true]
          by_cases big : roomF A' r < t.1
          · simp only [big, decide_true, if_true]
            refine in_lst g1 ?_
            cases c1 : memB A2 t.2 with
            | true =>
              simp only [Bool.not_true, Bool.false_eq_true, if_false]
              exact stay fun _ => openB_false.mpr (.inl (memB_iff.mp c1))
            | false =>
              simp only [Bool.not_false, if_true]
              refine in_lst g1 ?_
              cases c2 : memB A2 (-t.2) with
              | true =>
                simp only [Bool.not_true, Bool.false_eq_true, if_false]
                exact stay fun _ => openB_false.mpr (.inr (memB_iff.mp c2))
              | false =>
                simp only [Bool.not_false, if_true]
                have op : openB A2 t.2 = true := openB_true.mpr ⟨memB_false.mp c1, memB_false.mp c2⟩
                have hA4 : Rch rows T (A2 ++ [t.2]) := .step g3 ⟨r, rin, t.1, tin, by omega⟩ op
                have nn : ∀ u ∈ r.1, u.2 ≠ -t.2 := fun u hu z => no_neg (hr r rin).1.1 (m := t.1) (m' := u.1) (l := t.2) tin (by rw [← z]; exact hu)
                have sm := room_same op (hl r rin t tin).1 nn
                have l2 := lenA g3
                refine ty_l g1 ⟨rfl, app_ok g1 (by rw [sizeLine_eq]; simp; omega) ?_⟩
                have em : A2.map D.int ++ [D.int t.2] = (A2 ++ [t.2]).map D.int := by simp
                rw [em]
                have wn : TL.sub M (mput M2 w (.lst ((A2 ++ [t.2]).map D.int))) := sub_put g2 hw
                have la : A.length ≤ A2.length := by
                  cases b2 with
                  | true => have := g7 rfl; omega
                  | false =>
                    obtain ⟨e1, e2, _⟩ := g6 rfl
                    obtain ⟨e3, _⟩ := h5 e1
                    rw [e2, e3]; exact Nat.le_refl _
                exact hk2 _ _ ⟨_, _, A2 ++ [t.2], true, pre ++ [t], rfl, mput_same, wn, hA4, g4', by rw [sm, g5], fun e => (by cases e), fun _ => by simp; omega⟩
          · simp only [big, decide_false, Bool.false_eq_true, if_false]
            exact stay fun h => absurd h big
end K12

set_option Elab.async false
set_option linter.all false
set_option maxRecDepth 100000
set_option maxHeartbeats 1600000
set_option pp.maxSteps 4000
namespace K12
open PySem PySem.Spec PyProof.Rows L2 TL
theorem addI {fz : Bool} {i j : Int} {M : Mm} {Q : KD} (h : Q (.int (i + j)) M) : binD .Add fz (.int i) (.int j) M Q := h
theorem mulI {fz : Bool} {i j : Int} {M : Mm} {Q : KD} (w : CMulW i j) (h : Q (.int (i * j)) M) : binD .Mult fz (.int i) (.int j) M Q := ⟨w, h⟩
theorem sub_pot {M M1 : Mm} {p : Addr} {o o' : TL.PO} (s : TL.sub (mput M p o) M1) : TL.sub (mput M p o') (mput M1 p o') := fun a u h => by
  by_cases e : a = p
  · subst e; rw [mput_same] at h ⊢; exact h
  · rw [mput_ne e] at h ⊢
    exact s a u (by rw [mput_ne e]; exact h)
theorem cut1 (xs : List D) : TL.cutD xs (some 1) none = xs.drop 1 := by
  unfold TL.cutD HT.sIx
  cases xs with
  | nil => rfl
  | cons x xs =>
    have e : min (1 : Int).toNat (x :: xs).length = 1 := by
      rw [List.length_cons]; show min 1 (xs.length + 1) = 1; omega
    simp only [show ¬ ((1 : Int) < 0) by omega, if_false, e]
    rw [List.take_of_length_le]
    simp
theorem ints_pok (ns : List Int) : (fullD ns).pok = true := by
  have pl : plains (ns.map D.int) = true := plains_map (fun _ => rfl) ns
  have dp : deeps (ns.map D.int) ≤ 0 := deeps_map (fun _ => by simp [D.deep]) ns
  show (plains (ns.map D.int) && decide (deeps (ns.map D.int) + 1 ≤ 60)) = true
  rw [pl, Bool.true_and]; exact decide_eq_true (by omega)
theorem ints_show {ns : List Int} (h : ∀ z ∈ ns, z.natAbs ≤ 8) (hl : ns.length ≤ 8) : (fullD ns).s12 = true ∧ (fullD ns).wt ≤ 2 ^ 20 := by
  constructor
  · show s12s (ns.map D.int) = true
    exact s12s_map fun z hz => by have := h z hz; simp only [D.s12, decide_eq_true_eq]; omega
  · show wts (ns.map D.int) ≤ 2 ^ 20
    have := wts_map (f := D.int) (n := 40) (xs := ns) fun _ _ => Nat.le_refl _
    have e : (2 : Nat) ^ 20 = 1048576 := by decide
    omega
/-- a result that can be told -/
def Tellb : Option (List Int) → Prop
  | none => True
  | some D => (∀ z ∈ D, z.natAbs ≤ 8) ∧ D.length ≤ 8
theorem repr_opt {M : Mm} {r : Option (List Int)} {Q : KD} (h : Tellb r) (q : Q (.str (optD r).py.shown) M) : reprD (optD r) M Q := by
  cases r with
  | none => exact ⟨rfl, rfl, by show (D.non).py.shown.length ≤ sizeLine; decide +kernel, q⟩
  | some D => exact repr_ok (ints_pok D) (ints_show h.1 h.2).1 (ints_show h.1 h.2).2 q
theorem eq_opt {M : Mm} {r : Option (List Int)} {k : Bool → Prop} (h : k true) : eqK M (optD r) (optD r) k := by
  cases r with
  | none => exact ⟨rfl, rfl, h⟩
  | some D => exact eqK_self _ rfl (ints_pok D) h
theorem eqK_str {M : Mm} {s : Str} {k : Bool → Prop} (h : k true) : eqK M (.str s) (.str s) k := by
  show k (decide (s = s))
  rw [decide_eq_true rfl]; exact h
theorem ne_str {M : Mm} {z : Str} {k : Bool → Prop} (h : k false) : cmpK .NotEq M (.str z) (.str z) k := eqK_str (M := M) (s := z) (k := fun b => k (!b)) h
theorem ne_opt {M : Mm} {r : Option (List Int)} {k : Bool → Prop} (h : k false) : cmpK .NotEq M (optD r) (optD r) k := eq_opt (r := r) (k := fun b => k (!b)) h
theorem is_nn {M : Mm} {k : Bool → Prop} (h : k true) : cmpK .Is M .non .non k := h
theorem is_tn {M : Mm} {xs : List D} {k : Bool → Prop} (h : k false) : cmpK .Is M (.tup xs) .non k := h
theorem isnot_tn {M : Mm} {xs : List D} {k : Bool → Prop} (h : k true) : cmpK .IsNot M (.tup xs) .non k := h
theorem eq_nl {M : Mm} {k : Bool → Prop} (h : k true) : cmpK .Eq M (.lst []) (.lst []) k := ⟨rfl, rfl, h⟩
def fitA (rows : List RowP) (f : List Int) : Bool := rows.all fun r => decide (r.2 ≤ reachF r f)
def hasA (T f : List Int) : Bool := T.all fun z => memB f z
theorem filt_full (p : List Int → Bool) : ∀ fs : List (List Int), fs.filterMap (fun f => if p f = true then some (fullD f) else none) = (fs.filter p).map fullD
  | [] => rfl
  | f :: fs => by
    have ih := filt_full p fs
    cases c : p f with
    | true => simp [List.filterMap_cons, List.filter_cons, c, ih]
    | false => simp [List.filterMap_cons, List.filter_cons, c, ih]
theorem all_ok {M : Mm} {α : Type} {xs : List α} {f : α → Bool} {k : Bool → Prop} (h : k (xs.all f)) : oneBools (.lst (xs.map fun z => D.bl (f z))) M fun bs => k (bs.all id) := by
  have e : xs.map (fun z => D.bl (f z)) = (xs.map f).map D.bl := by simp
  simp only [oneBools, lstOf, catOf, someK, e, boolsOf_map]
  rw [List.all_map]; exact h
theorem full_tot {m : Int} {f : List Int} (h : FullOk m f) {l : Int} (h0 : l ≠ 0) (h1 : (l.natAbs : Int) ≤ m) : memB f (-l) = !memB f l := by
  by_cases c : 0 < l
  · exact h l (by omega) (by omega)
  · have := h (-l) (by omega) (by omega)
    rw [Int.neg_neg] at this
    rw [this]; simp
theorem lits_le6 {many : Int} {T : List Int} (h : LitsOk many T) (hm : many ≤ 6) : T.length ≤ 6 := by
  obtain ⟨nd, hl⟩ := h
  have n2 : ((T.map absI).map Int.toNat).Nodup := by
    have : ∀ L : List Int, L.Nodup → (∀ x ∈ L, 0 ≤ x) → (L.map Int.toNat).Nodup := by
      intro L
      induction L with
      | nil => intro _ _; exact List.nodup_nil
      | cons z L ih =>
        intro n p
        rw [List.nodup_cons] at n
        rw [List.map_cons, List.nodup_cons]
        refine ⟨fun hm => ?_, ih n.2 fun x hx => p x (List.mem_cons_of_mem _ hx)⟩
        obtain ⟨y, hy, e⟩ := List.mem_map.mp hm
        have := p y (List.mem_cons_of_mem _ hy)
        have := p z List.mem_cons_self
        have : y = z := by omega
        exact n.1 (this ▸ hy)
    refine this _ nd fun x hx => ?_
    obtain ⟨l, _, rfl⟩ := List.mem_map.mp hx
    unfold absI; split <;> omega
  have := nodup_le 7 _ n2 fun x hx => by
    obtain ⟨y, hy, rfl⟩ := List.mem_map.mp hx
    obtain ⟨l, hl', rfl⟩ := List.mem_map.mp hy
    have := (hl l hl').2
    unfold absI; split <;> omega
  -- none is nought
  have n3 : (0 :: (T.map absI).map Int.toNat).Nodup := by
    rw [List.nodup_cons]
    refine ⟨fun hm => ?_, n2⟩
    obtain ⟨y, hy, e⟩ := List.mem_map.mp hm
    obtain ⟨l, hl', rfl⟩ := List.mem_map.mp hy
    have := (hl l hl').1
    unfold absI at e; split at e <;> omega
  have := nodup_le 7 _ n3 fun x hx => by
    rcases List.mem_cons.mp hx with rfl | hx
    · omega
    · obtain ⟨y, hy, rfl⟩ := List.mem_map.mp hx
      obtain ⟨l, hl', rfl⟩ := List.mem_map.mp hy
      have := (hl l hl').2
      unfold absI; split <;> omega
  simp at this
  omega
theorem mput_self {M : Mm} {a : Addr} {o : TL.PO} (h : M a = some o) : mput M a o = M := by
  funext b
  unfold mput
  split
  · rename_i e; subst e; exact h.symm
  · rfl
theorem in_bl {M : Mm} {z : Int} {ns : List Int} {k : List D → Mm → Prop} {acc : List D} (h : k (acc ++ [D.bl (memB ns z)]) M) : cmpK .In M (.int z) (.tup (ns.map D.int)) fun r => k (acc ++ [D.bl r]) M := in_tup (M := M) (k := fun b => k (acc ++ [D.bl b]) M) h
theorem notin_tup {M : Mm} {z : Int} {ns : List Int} {k : Bool → Prop} (h : k (!memB ns z)) : cmpK .NotIn M (.int z) (.tup (ns.map D.int)) k := in_tup (M := M) (k := fun b => k (!b)) h
theorem all_if {M : Mm} {xs : List Int} {f : Int → Bool} {A B : Prop} (h : if xs.all f = true then A else B) : oneBools (.lst (xs.map fun z => D.bl (f z))) M fun bs => if bs.all id = true then A else B := all_ok (k := fun b => if b = true then A else B) h
theorem all_if' {M : Mm} {xs : List (List Int)} {f : List Int → Bool} {A B : Prop} (h : if (!xs.all f) = true then A else B) : oneBools (.lst (xs.map fun z => D.bl (f z))) M fun bs => if (!bs.all id) = true then A else B := all_ok (k := fun b => if (!b) = true then A else B) h
theorem all_bl {M : Mm} {xs : List Int} {f : Int → Bool} {k : List D → Mm → Prop} {acc : List D} (h : k (acc ++ [D.bl (xs.all f)]) M) : oneBools (.lst (xs.map fun z => D.bl (f z))) M fun bs => k (acc ++ [D.bl (bs.all id)]) M := all_ok (k := fun b => k (acc ++ [D.bl b]) M) h
theorem all_fin {M : Mm} {Q : KD} {xs : List Int} {f : Int → Bool} (h : fin Q (D.bl (xs.all f)) M) : oneBools (.lst (xs.map fun z => D.bl (f z))) M fun bs => fin Q (D.bl (bs.all id)) M := all_ok (k := fun b => fin Q (D.bl b) M) h
theorem sl_lst {M : Mm} {xs : List D} {Q : KD} (h : Q (.lst (xs.drop 1)) M) : slK true M (.lst xs) (some 1) none Q := by
  show newL true (cutD xs (some 1) none) M Q
  rw [cut1]; exact newLT h
theorem sl_tup {fz : Bool} {M : Mm} {xs : List D} {Q : KD} (h : Q (.tup (xs.drop 1)) M) : slK fz M (.tup xs) (some 1) none Q := by
  show Q (.tup (cutD xs (some 1) none)) M
  rw [cut1]; exact h
theorem filt_ints (T : List Int) : ∀ A : List Int, A.filterMap (fun z => if memB T z = true then none else some (D.int z)) = (A.filter fun z => !memB T z).map D.int
  | [] => rfl
  | z :: A => by
    have ih := filt_ints T A
    cases c : memB T z with
    | true => simp [List.filterMap_cons, List.filter_cons, c, ih]
    | false => simp [List.filterMap_cons, List.filter_cons, c, ih]
theorem pure__law_right : ∀ ds M x Q, ct__law_right ds M x Q → wpSs ir__law_right (FinOf x Q) (startE 14 ds) M := by
  rintro ds M x Q ⟨p, o, c, rfl, hM, ho, hc, h⟩
  simp only [ir__law_right, startE, TL.wpSs, TL.wpS, wpE, wpEs, wpAnd, wpOr, wpKs, wpEo, wpCd, wpIt, putT, putTs, varK, Tg.slots, slotss, wipeE, List.set_cons_zero, List.set_cons_succ, List.map_cons, List.map_nil, List.length_cons, List.length_nil, List.replicate, List.cons_append, List.nil_append, List.getElem?_cons_zero, List.getElem?_cons_succ, Nat.reduceSub, Nat.reduceAdd, FinOf, biD, arg1, arg2, D.asI, D.asB, optI, sl1, sl2, true_and, and_true]
  refine ⟨p, 6, o, c, rfl, hM, ho, by omega, by omega, by omega, fun m0 o1 m00 m01 ho1 => addI ?_⟩
  refine ⟨p, 5, o1, _, rfl, mput_same, ho1, by omega, by omega, by omega, fun n0 o2 n00 n01 ho2 => addI ?_⟩
  simp only [mput_mput]
  generalize hmany : 1 + m0 = many
  refine ⟨p, o2, _, many, 1 + n0, rfl, mput_same, ho2, by omega, by omega, by omega, by omega, by omega, fun rows o3 hn hr ho3 => ?_⟩
  simp only [mput_mput]
  have hlen : rows.length ≤ 5 := by omega
  refine some_ok (x := rows.map rowD) rfl fun w hw => ?_
  have wp : w ≠ p := fun z => by subst z; rw [mput_same] at hw; cases hw
  refine ⟨w, many, rows, rfl, mput_same, by omega, by omega, by omega, fun r hin => (hr r hin).1, rfl, ?_⟩
  simp only [mput_mput]
  have sA : TL.sub (mput M p o3) (mput (mput M p o3) w (rowsI many rows)) := sub_put sub_refl hw
  generalize hMA : mput (mput M p o3) w (rowsI many rows) = MA at *
  have gw : MA w = some (rowsI many rows) := by rw [← hMA, mput_same]
  have gp : MA p = some o3 := by rw [← hMA, mput_ne (Ne.symm wp), mput_same]
  refine addI ⟨by unfold rgOk; omega, newLT (addI ?_)⟩
  rw [rangeD_map]
  refine ⟨p, many + 1, o3, _, rfl, gp, ho3, by omega, by omega, by omega, fun a0 o4 a00 a01 ho4 => ?_⟩
  refine ⟨p, _, a0, o4, _, rfl, mput_same, ho4, a00, by simp; omega, by simp; omega, by omega, fun q ys rs o5 hq ho5 ly hp => ?_⟩
  simp only [mput_mput] at hq ⊢
  have qp : q ≠ p := fun z => by subst z; rw [mput_same] at hq; cases hq
  have hqA : MA q = none := by rwa [mput_ne qp] at hq
  have wq : w ≠ q := ne_of_M gw hqA
  have sB : TL.sub (mput M p o5) (mput (mput MA p o5) q (.lst (ys.map D.int))) := sub_put (sub_pot sA) (by
    by_cases z : q = p
    · exact absurd z qp
    · rw [mput_ne z]
      cases e : M q with
      | none => rfl
      | some u =>
        have := sA q u (by rw [mput_ne z]; exact e)
        rw [hqA] at this; cases this)
  generalize hMB : mput (mput MA p o5) q (.lst (ys.map D.int)) = MB at *
  have bq : MB q = some (.lst (ys.map D.int)) := by rw [← hMB, mput_same]
  have bp : MB p = some o5 := by rw [← hMB, mput_ne (Ne.symm qp), mput_same]
  have bw : MB w = some (rowsI many rows) := by rw [← hMB, mput_ne wq, mput_ne wp]; exact gw
  have nys : ys.Nodup := by
    have n0 : ((List.range (many + 1 - 1).toNat).map fun i : Nat => 1 + (i : Int)).Nodup := List.pairwise_map.mpr ((List.pairwise_lt_range).imp fun h => by omega)
    have := hp.nodup_iff.mpr n0
    exact (List.nodup_append.mp this).1
  have yb : ∀ y ∈ ys, 1 ≤ y ∧ y ≤ many := fun y hy => by
    have := hp.mem_iff.mp (List.mem_append_left rs hy)
    simp at this
    obtain ⟨i, i1, rfl⟩ := this
    omega
  refine seq_it (M := MB) (d := .ref q) (xs := ys.map D.int) (by simp only [SeqAt, seqOf, lstOf, catOf, bq]) ⟨sl_of (by simp; omega), ?_⟩
  refine compGo_inv D.int (fun (rest : List Int) acc M2 => ∃ (T : List Int) (o6 : TL.PO), acc = T.map D.int ∧ M2 = mput MB p o6 ∧ PotO o6 (c + 140 + T.length) ∧ T.map absI ++ rest = ys ∧ ∀ z ∈ T, z ≠ 0 ∧ (z.natAbs : Int) ≤ many) ?_ ?_ ?_ _ _ _ ⟨[], o5, rfl, (mput_self bp).symm, ho5.mono (by simp; omega), rfl, by simp⟩
  · rintro rest acc M2 ⟨T, o6, rfl, rfl, _⟩
    show mput MB p o6 q = some _
    rw [mput_ne qp]; exact bq
  · rintro acc M2 ⟨T, o6, rfl, rfl, ho6, eT, hT⟩
    have eT : T.map absI = ys := by simpa using eT
    have lT : T.length ≤ 6 := by
      have := congrArg List.length eT
      simp at this; omega
    have cw : mput MB p o6 w = some (rowsI many rows) := by rw [mput_ne wp]; exact bw
    have sC : TL.sub (mput M p o6) (mput MB p o6) := sub_pot sB
    generalize hMC : mput MB p o6 = MC at *
    have lits : LitsOk many T := ⟨by unfold AbsN; rw [eT]; exact nys, hT⟩
    have ask : AskOk many rows T := ⟨by omega, hlen, fun r hr' => ⟨(hr r hr').1, (hr r hr').2.1⟩, lits, lT⟩
    have hfin : Q (.bl true) (mput M p o6) := h o6 (ho6.mono (by omega))
    refine newLT (some_ok (x := T.map D.int) rfl ⟨rfl, rfl, ?_⟩)
    refine ⟨w, many, rows, T, rfl, cw, ask, fun told hto => ⟨many, rows, T, rfl, ask, fun due hdu => ?_⟩⟩
    have hpos : Pos rows := fun r hr' t ht => by have := (terms_mem (hr r hr').1.1 ht).1; omega
    have hl : ∀ r ∈ rows, ∀ t ∈ r.1, t.2 ≠ 0 ∧ (t.2.natAbs : Int) ≤ many := fun r hr' t ht => ⟨(terms_mem (hr r hr').1.1 ht).2.1, (hr r hr').1.2 t ht⟩
    have e1 := FR_one hpos (fun r => Iff.rfl) (fun z => Iff.rfl) lits.1 lits.1 hto hdu
    subst e1
    have ask2 : AskOk many rows.reverse T.reverse := by
      refine ⟨by omega, by simpa using hlen, fun r hr' => ask.2.2.1 r (List.mem_reverse.mp hr'), ⟨?_, fun z hz => hT z (List.mem_reverse.mp hz)⟩, by simpa using lT⟩
      have := lits.1
      unfold AbsN at this ⊢
      rw [List.map_reverse]
      exact (List.reverse_perm _).nodup_iff.mpr this
    have tl : Tellb told := by
      cases told with
      | none => trivial
      | some D =>
        obtain ⟨a, _, _⟩ := FR_some hl lits hto
        exact ⟨fun z hz => by have := (a.2 z hz).2; omega, lits_len a (by omega)⟩
    refine repr_opt tl (repr_opt tl (ne_str ?_))
    rw [if_neg Bool.false_ne_true]
    refine ⟨rfl, rfl, w, many, rows, T, rfl, cw, ask, fun res2 h2 => ?_⟩
    have e2 := FR_one hpos (fun r => Iff.rfl) (fun z => Iff.rfl) lits.1 lits.1 hto h2
    subst e2
    cases told with
    | none =>
      refine is_nn ?_
      rw [if_pos rfl]
      refine ne_opt (r := none) ?_
      rw [if_neg Bool.false_ne_true]
      refine revL_ok ?_
      rw [← List.map_reverse]
      refine some_ok (x := rows.reverse.map rowD) rfl fun w2 hw2 => ?_
      refine ⟨w2, many, rows.reverse, rfl, mput_same, by omega, by omega, by simp; omega, fun r hin => (hr r (List.mem_reverse.mp hin)).1, rfl, ?_⟩
      simp only [mput_mput]
      have sD : TL.sub (mput M p o6) (mput MC w2 (rowsI many rows.reverse)) := fun a u ha => by
        have := sC a u ha
        rw [mput_ne (ne_of_M this hw2)]; exact this
      have dw : mput MC w2 (rowsI many rows.reverse) w = some (rowsI many rows) := by rw [mput_ne (ne_of_M cw hw2)]; exact cw
      have d2 : mput MC w2 (rowsI many rows.reverse) w2 = some (rowsI many rows.reverse) := mput_same
      generalize hMD : mput MC w2 (rowsI many rows.reverse) = MD at *
      refine revT_ok ?_
      rw [← List.map_reverse]
      refine ⟨w2, many, rows.reverse, T.reverse, rfl, d2, ask2, fun res3 h3 => ?_⟩
      have e3 := FR_one hpos (fun r => List.mem_reverse.symm) (fun z => List.mem_reverse.symm) lits.1 ask2.2.2.2.1.1 hto h3
      subst e3
      refine ne_opt (r := none) ?_
      rw [if_neg Bool.false_ne_true]
      refine ⟨many, rfl, by omega, by omega, fun fs hfs lf => seq_it (M := MD) (d := .lst (fs.map fullD)) (xs := fs.map fullD) rfl ⟨sl_of (by simp; omega), compGo_opt fullD (fun f => if fitA rows f = true then some (fullD f) else none) trivial fs [] (fun f hf acc k hk => ?_) ?_⟩⟩
      · refine ⟨rows, f, rfl, by omega, fun r hr' => by have := (hr r hr').2.1; omega, ?_⟩
        show if fitA rows f = true then _ else _
        cases cf : fitA rows f with
        | true => rw [cf] at hk; simpa using hk
        | false => rw [cf] at hk; simpa using hk
      rw [List.nil_append, filt_full]
      refine newLT (seq_it (M := MD) (d := .lst ((fs.filter (fitA rows)).map fullD)) (xs := (fs.filter (fitA rows)).map fullD) rfl ⟨sl_of (by have := List.length_filter_le (fitA rows) fs; simp; omega), compGo_opt fullD (fun f => if hasA T f = true then some (fullD f) else none) trivial (fs.filter (fitA rows)) [] (fun f hf acc k hk => ?_) ?_⟩)
      · refine seq_it (M := MD) (d := .tup (T.map D.int)) (xs := T.map D.int) rfl ⟨sl_of (by simp; omega), compGo_map D.int (fun z => D.bl (memB f z)) trivial T (fun z hz acc k hk => by rw [if_pos trivial]; exact in_bl (ns := f) hk) ?_⟩
        refine newLT (all_if (f := memB f) ?_)
        show if hasA T f = true then _ else _
        cases cf : hasA T f with
        | true => rw [cf] at hk; simpa using hk
        | false => rw [cf] at hk; simpa using hk
      rw [List.nil_append, filt_full]
      refine newLT ?_
      have lL : ((fs.filter (fitA rows)).filter (hasA T)).length ≤ 64 := Nat.le_trans (List.length_filter_le _ _) (Nat.le_trans (List.length_filter_le _ _) lf)
      have pL : ∀ f ∈ (fs.filter (fitA rows)).filter (hasA T), FullOk many f ∧ (∀ r ∈ rows, r.2 ≤ reachF r f) ∧ ∀ z ∈ T, z ∈ f := fun f hf => by
        obtain ⟨hf1, hf2⟩ := List.mem_filter.mp hf
        obtain ⟨hf3, hf4⟩ := List.mem_filter.mp hf1
        refine ⟨hfs f hf3, fun r hr' => ?_, fun z hz => ?_⟩
        · have := List.all_eq_true.mp hf4 r hr'
          simpa using this
        · exact memB_iff.mp (List.all_eq_true.mp hf2 z hz)
      generalize (fs.filter (fitA rows)).filter (hasA T) = L2 at *
      refine is_nn ?_
      rw [if_pos rfl]
      refine ⟨Nat.zero_le _, newLT ?_⟩
      have em : L2 = [] := by
        cases L2 with
        | nil => rfl
        | cons f L2 =>
          obtain ⟨f1, f2, f3⟩ := pL f List.mem_cons_self
          have fo : ∀ r ∈ rows, ∀ t ∈ r.1, memB f (-t.2) = !memB f t.2 := fun r hr' t ht => full_tot f1 (hl r hr' t ht).1 (hl r hr' t ht).2
          rcases hto with ⟨_, B, b1, b2⟩ | ⟨_, _, _, e⟩
          · exact absurd b2 (full_no_conf hpos fo f2 (full_has hpos fo f2 f3 b1))
          · cases e
      subst em
      refine eq_nl ?_
      exact fin_sub sD hfin
    | some Dl =>
      obtain ⟨dl, ds, df⟩ := FR_some hl lits hto
      have dl6 := lits_le6 dl (by omega)
      refine is_tn ?_
      rw [if_neg Bool.false_ne_true]
      refine seq_it (M := MC) (d := fullD Dl) (xs := Dl.map D.int) rfl ⟨sl_of (by simp; omega), ?_⟩
      refine compGo_opt D.int (fun z => if memB T z = true then none else some (D.int z)) trivial Dl [] (fun z hz acc k hk => ?_) ?_
      · refine notin_tup ?_
        cases c : memB T z with
        | true => rw [c] at hk; simpa using hk
        | false => rw [c] at hk; simpa using hk
      rw [List.nil_append, filt_ints]
      refine newLT (some_ok (x := (Dl.filter fun z => !memB T z).map D.int) rfl ?_)
      refine ne_opt (r := moreF T (some Dl)) ?_
      rw [if_neg Bool.false_ne_true]
      refine revL_ok ?_
      rw [← List.map_reverse]
      refine some_ok (x := rows.reverse.map rowD) rfl fun w2 hw2 => ?_
      refine ⟨w2, many, rows.reverse, rfl, mput_same, by omega, by omega, by simp; omega, fun r hin => (hr r (List.mem_reverse.mp hin)).1, rfl, ?_⟩
      simp only [mput_mput]
      have sD : TL.sub (mput M p o6) (mput MC w2 (rowsI many rows.reverse)) := fun a u ha => by
        have := sC a u ha
        rw [mput_ne (ne_of_M this hw2)]; exact this
      have dw : mput MC w2 (rowsI many rows.reverse) w = some (rowsI many rows) := by rw [mput_ne (ne_of_M cw hw2)]; exact cw
      have d2 : mput MC w2 (rowsI many rows.reverse) w2 = some (rowsI many rows.reverse) := mput_same
      generalize hMD : mput MC w2 (rowsI many rows.reverse) = MD at *
      refine revT_ok ?_
      rw [← List.map_reverse]
      refine ⟨w2, many, rows.reverse, T.reverse, rfl, d2, ask2, fun res3 h3 => ?_⟩
      have e3 := FR_one hpos (fun r => List.mem_reverse.symm) (fun z => List.mem_reverse.symm) lits.1 ask2.2.2.2.1.1 hto h3
      subst e3
      refine ne_opt (r := some Dl) ?_
      rw [if_neg Bool.false_ne_true]
      refine ⟨many, rfl, by omega, by omega, fun fs hfs lf => seq_it (M := MD) (d := .lst (fs.map fullD)) (xs := fs.map fullD) rfl ⟨sl_of (by simp; omega), compGo_opt fullD (fun f => if fitA rows f = true then some (fullD f) else none) trivial fs [] (fun f hf acc k hk => ?_) ?_⟩⟩
      · refine ⟨rows, f, rfl, by omega, fun r hr' => by have := (hr r hr').2.1; omega, ?_⟩
        show if fitA rows f = true then _ else _
        cases cf : fitA rows f with
        | true => rw [cf] at hk; simpa using hk
        | false => rw [cf] at hk; simpa using hk
      rw [List.nil_append, filt_full]
      refine newLT (seq_it (M := MD) (d := .lst ((fs.filter (fitA rows)).map fullD)) (xs := (fs.filter (fitA rows)).map fullD) rfl ⟨sl_of (by have := List.length_filter_le (fitA rows) fs; simp; omega), compGo_opt fullD (fun f => if hasA T f = true then some (fullD f) else none) trivial (fs.filter (fitA rows)) [] (fun f hf acc k hk => ?_) ?_⟩)
      · refine seq_it (M := MD) (d := .tup (T.map D.int)) (xs := T.map D.int) rfl ⟨sl_of (by simp; omega), compGo_map D.int (fun z => D.bl (memB f z)) trivial T (fun z hz acc k hk => by rw [if_pos trivial]; exact in_bl (ns := f) hk) ?_⟩
        refine newLT (all_if (f := memB f) ?_)
        show if hasA T f = true then _ else _
        cases cf : hasA T f with
        | true => rw [cf] at hk; simpa using hk
        | false => rw [cf] at hk; simpa using hk
      rw [List.nil_append, filt_full]
      refine newLT ?_
      have lL : ((fs.filter (fitA rows)).filter (hasA T)).length ≤ 64 := Nat.le_trans (List.length_filter_le _ _) (Nat.le_trans (List.length_filter_le _ _) lf)
      have pL : ∀ f ∈ (fs.filter (fitA rows)).filter (hasA T), FullOk many f ∧ (∀ r ∈ rows, r.2 ≤ reachF r f) ∧ ∀ z ∈ T, z ∈ f := fun f hf => by
        obtain ⟨hf1, hf2⟩ := List.mem_filter.mp hf
        obtain ⟨hf3, hf4⟩ := List.mem_filter.mp hf1
        refine ⟨hfs f hf3, fun r hr' => ?_, fun z hz => ?_⟩
        · have := List.all_eq_true.mp hf4 r hr'
          simpa using this
        · exact memB_iff.mp (List.all_eq_true.mp hf2 z hz)
      generalize (fs.filter (fitA rows)).filter (hasA T) = L2 at *
      refine is_tn ?_
      rw [if_neg Bool.false_ne_true]
      have hin : ∀ f ∈ L2, ∀ z ∈ Dl, z ∈ f := fun f hf z hz => by
        obtain ⟨f1, f2, f3⟩ := pL f hf
        have fo : ∀ r ∈ rows, ∀ t ∈ r.1, memB f (-t.2) = !memB f t.2 := fun r hr' t ht => full_tot f1 (hl r hr' t ht).1 (hl r hr' t ht).2
        rcases hto with ⟨e, _⟩ | ⟨A, a1, a2, e⟩
        · cases e
        · cases e
          exact full_has hpos fo f2 f3 a1 z ((sortA_perm A).mem_iff.mp hz)
      refine seq_it (M := MD) (d := .lst (L2.map fullD)) (xs := L2.map fullD) rfl ⟨sl_of (by simp; omega), compGo_map fullD (fun f => D.bl (hasA Dl f)) trivial L2 (fun f hf acc k hk => ?_) ?_⟩
      · rw [if_pos trivial]
        refine seq_it (M := MD) (d := .tup (Dl.map D.int)) (xs := Dl.map D.int) rfl ⟨sl_of (by simp; omega), compGo_map D.int (fun z => D.bl (memB f z)) trivial Dl (fun z hz acc k hk => by rw [if_pos trivial]; exact in_bl (ns := f) hk) ?_⟩
        exact newLT (all_bl (f := memB f) hk)
      refine newLT (all_if' (f := hasA Dl) ?_)
      have ha : L2.all (fun f => hasA Dl f) = true := List.all_eq_true.mpr fun f hf => List.all_eq_true.mpr fun z hz => memB_iff.mpr (hin f hf z hz)
      rw [ha]
      rw [if_neg (by decide)]
      have ask3 : AskOk many rows Dl := ⟨by omega, hlen, ask.2.2.1, dl, dl6⟩
      refine ⟨w, many, rows, Dl, rfl, dw, ask3, fun res4 h4 => ?_⟩
      have e4 := FR_one hpos (fun r => Iff.rfl) (fun z => Iff.rfl) dl.1 dl.1 df h4
      subst e4
      refine ne_opt (r := some Dl) ?_
      rw [if_neg Bool.false_ne_true]
      refine sl_lst ?_
      rw [← List.map_drop]
      have dr : ∀ r ∈ rows.drop 1, r ∈ rows := fun r h => List.mem_of_mem_drop h
      have dT : ∀ z ∈ T.drop 1, z ∈ T := fun r h => List.mem_of_mem_drop h
      refine some_ok (x := (rows.drop 1).map rowD) rfl fun w3 hw3 => ?_
      refine ⟨w3, many, rows.drop 1, rfl, mput_same, by omega, by omega, by simp; omega, fun r hin => (hr r (dr r hin)).1, rfl, ?_⟩
      simp only [mput_mput]
      have sE : TL.sub (mput M p o6) (mput MD w3 (rowsI many (rows.drop 1))) := fun a u ha => by
        have := sD a u ha
        rw [mput_ne (ne_of_M this hw3)]; exact this
      have d3 : mput MD w3 (rowsI many (rows.drop 1)) w3 = some (rowsI many (rows.drop 1)) := mput_same
      generalize hME : mput MD w3 (rowsI many (rows.drop 1)) = ME at *
      refine sl_tup ?_
      rw [← List.map_drop]
      have ask4 : AskOk many (rows.drop 1) (T.drop 1) := by
        refine ⟨by omega, by simp; omega, fun r hr' => ask.2.2.1 r (dr r hr'), ⟨?_, fun z hz => hT z (dT z hz)⟩, by simp; omega⟩
        have := lits.1
        unfold AbsN at this ⊢
        rw [List.map_drop]
        exact this.sublist (List.drop_sublist _ _)
      refine ⟨w3, many, rows.drop 1, T.drop 1, rfl, d3, ask4, fun res5 h5 => ?_⟩
      obtain ⟨E, rfl, hE⟩ := FR_less hpos dr dT hto h5
      have hl' : ∀ r ∈ rows.drop 1, ∀ t ∈ r.1, t.2 ≠ 0 ∧ (t.2.natAbs : Int) ≤ many := fun r hr' => hl r (dr r hr')
      have lE := lits_le6 (FR_some hl' ask4.2.2.2.1 h5).1 (by omega)
      refine isnot_tn ?_
      rw [if_pos rfl]
      refine seq_it (M := ME) (d := .tup (E.map D.int)) (xs := E.map D.int) rfl ⟨sl_of (by simp; omega), compGo_map D.int (fun z => D.bl (memB Dl z)) trivial E (fun z hz acc k hk => by rw [if_pos trivial]; exact in_bl (ns := Dl) hk) ?_⟩
      refine newLT (all_fin (f := memB Dl) ?_)
      rw [show E.all (memB Dl) = true from List.all_eq_true.mpr fun z hz => memB_iff.mpr (hE z hz)]
      exact fin_sub sE hfin
  · rintro y rest acc M2 k ⟨T, o6, rfl, rfl, ho6, eT, hT⟩ hk
    have yin : y ∈ ys := by rw [← eT]; simp
    have lT : T.length ≤ 6 := by
      have := congrArg List.length eT
      simp at this; omega
    obtain ⟨y1, y2⟩ := yb y yin
    rw [if_pos trivial]
    refine newLT ⟨p, _, o6, _, rfl, mput_same, ho6, by omega, by simp, by simp, fun d o7 hd ho7 => ?_⟩
    have hd' : ∃ u : Int, d = .int u ∧ (u = 1 ∨ u = -1) := by
      simp at hd
      rcases hd with rfl | rfl <;> exact ⟨_, rfl, by simp⟩
    obtain ⟨u, rfl, hu⟩ := hd'
    refine mulI (mulW_of 10 10 (by omega) (by omega) (by omega) (by omega) (by omega)) ?_
    show k (T.map D.int ++ [D.int (y * u)]) _
    simp only [mput_mput]
    have ea : absI (y * u) = y := by rcases hu with rfl | rfl <;> (unfold absI; split <;> omega)
    have eb : y * u ≠ 0 ∧ ((y * u).natAbs : Int) ≤ many := by rcases hu with rfl | rfl <;> constructor <;> omega
    refine hk _ _ ⟨T ++ [y * u], o7, by simp, rfl, ho7.mono (by simp; omega), by simp [ea]; simpa using eT, fun z hz => ?_⟩
    rcases List.mem_append.mp hz with hz | hz
    · exact hT z hz
    · simp at hz; subst hz; exact eb
end K12

set_option Elab.async false
set_option linter.all false
set_option maxRecDepth 100000
set_option maxHeartbeats 2000000
namespace K12
open PySem PySem.Spec PyProof.Rows L2 TL
theorem pure_law : ∀ ds M x Q, ct_law ds M x Q → wpSs ir_law (FinOf x Q) (startE 4 ds) M := by
  rintro ds M x Q ⟨ns, rfl, hl, h⟩
  simp [ir_law, startE]
  refine ⟨ns, 3, rfl, by omega, by omega, fun n hn => ?_⟩
  refine seq_it (M := M) (xs := (List.range n).map fun i => D.int (i : Nat)) rfl ?_
  refine forGo_inv (fun i : Nat => D.int (i : Int)) (fun (l : List Nat) env M' => ∃ z1 z2 z3 : Option D, env = [some (.klst (ns.map D.int)), z1, z2, none] ∧ TL.sub M M' ∧ ∀ i ∈ l, i < 64) (fun _ _ _ _ => trivial) ?_ ?_ _ _ _ ⟨_, _, none, rfl, sub_refl, fun i hi => by simp at hi; omega⟩
  · rintro env M' ⟨z1, z2, z3, rfl, s, _⟩
    exact fin_sub s h
  · rintro i l env M' k ⟨z1, z2, z3, rfl, s, hi⟩ hk
    simp
    refine ⟨ns, i, rfl, hi i List.mem_cons_self, fun p o hp ho => ?_⟩
    have hp0 : M p = none := none_sub s hp
    simp [rangeD_map]
    have ev : ∀ a u, M a = some u → ∀ o', mput M' p o' a = some u := fun a u h1 o' => by rw [mput_ne (ne_of_M h1 hp0)]; exact s a u h1
    refine ⟨sl3, compGo_inv (fun j : Nat => D.int (j : Int)) (fun (r : List Nat) acc M2 => ∃ (o' : TL.PO) (b : Nat), M2 = mput M' p o' ∧ PotO o' (1000 * (b : Int)) ∧ b + r.length = 3 ∧ acc = List.replicate b (D.bl true)) (fun _ _ _ _ => trivial) ?_ ?_ (List.range 3) [] _ ⟨o, 0, rfl, by simpa using ho, by simp, rfl⟩⟩
    · rintro acc M2 ⟨o', b, rfl, h1, h2, rfl⟩
      have hb : b = 3 := by simpa using h2
      subst hb
      simp [boolsOf, lstOf, catOf]
      exact hk _ _ ⟨_, _, none, rfl, fun a u h1 => ev a u h1 _, fun j hj => hi j (List.mem_cons_of_mem _ hj)⟩
    · rintro j r acc M2 k2 ⟨o', b, rfl, h1, h2, rfl⟩ hk2
      simp at h2
      refine ⟨p, o', _, rfl, mput_same, h1, by omega, fun o2 ho2 => hk2 _ _ ⟨o2, b + 1, by simp, ho2.mono (by omega), by omega, by rw [List.replicate_succ']⟩⟩
theorem law_true : ∀ ns : List Int, ns.length ≤ 63 → ct_law [.klst (ns.map .int)] (fun _ => none) noX (fun d _ => d = .bl true) := fun ns h => ⟨ns, rfl, h, rfl⟩
end K12

namespace K12
open PySem PySem.Spec PyProof.Rows L2 TL
set_option maxHeartbeats 8000000
theorem len_is_integer : ∀ ds M x Q, ct_is_integer ds M x Q → ds.length = ["value"].length := by
  rintro ds M x Q ⟨_, rfl, _⟩
  rfl
theorem len_Rows_switches : ∀ ds M x Q, ct_Rows_switches ds M x Q → ds.length = ["self"].length := by
  rintro ds M x Q ⟨_, _, _, rfl, _⟩
  rfl
theorem len_Rows_rows : ∀ ds M x Q, ct_Rows_rows ds M x Q → ds.length = ["self"].length := by
  rintro ds M x Q ⟨_, _, _, rfl, _⟩
  rfl
theorem len_check_rows : ∀ ds M x Q, ct_check_rows ds M x Q → ds.length = ["rows"].length := by
  rintro ds M x Q ⟨_, _, _, rfl, _⟩
  rfl
theorem len_Engine_is_off : ∀ ds M x Q, ct_Engine_is_off ds M x Q → ds.length = ["self", "literal"].length := by
  rintro ds M x Q ⟨_, _, _, _, _, _, _, _, _, _, _, _, rfl, _⟩
  rfl
theorem len_Engine_is_open : ∀ ds M x Q, ct_Engine_is_open ds M x Q → ds.length = ["self", "literal"].length := by
  rintro ds M x Q ⟨_, _, _, _, _, _, _, _, _, _, _, _, rfl, _⟩
  rfl
theorem len_Engine_levels : ∀ ds M x Q, ct_Engine_levels ds M x Q → ds.length = ["self"].length := by
  rintro ds M x Q ⟨_, _, _, _, _, _, _, _, _, _, _, rfl, _⟩
  rfl
theorem len_Engine_trail : ∀ ds M x Q, ct_Engine_trail ds M x Q → ds.length = ["self"].length := by
  rintro ds M x Q ⟨_, _, _, _, _, _, _, _, _, _, _, rfl, _⟩
  rfl
theorem len__law_pot : ∀ ds M x Q, ct__law_pot ds M x Q → ds.length = ["script", "place"].length := by
  rintro ds M x Q ⟨_, _, rfl, _⟩
  rfl
theorem len__law_take : ∀ ds M x Q, ct__law_take ds M x Q → ds.length = ["pot", "upto"].length := by
  rintro ds M x Q ⟨_, _, _, _, rfl, _⟩
  rfl
theorem len__law_cells : ∀ ds M x Q, ct__law_cells ds M x Q → ds.length = ["script", "limit"].length := by
  rintro ds M x Q ⟨_, _, rfl, _⟩
  rfl
theorem len__law_merged : ∀ ds M x Q, ct__law_merged ds M x Q → ds.length = ["pairs", "least"].length := by
  rintro ds M x Q ⟨_, _, _, rfl, _⟩
  rfl
theorem len__law_reach : ∀ ds M x Q, ct__law_reach ds M x Q → ds.length = ["row", "full"].length := by
  rintro ds M x Q ⟨_, _, rfl, _⟩
  rfl
theorem len__law_fulls : ∀ ds M x Q, ct__law_fulls ds M x Q → ds.length = ["many"].length := by
  rintro ds M x Q ⟨_, rfl, _⟩
  rfl
theorem len__law_forced : ∀ ds M x Q, ct__law_forced ds M x Q → ds.length = ["rows", "literals"].length := by
  rintro ds M x Q ⟨_, _, _, rfl, _⟩
  rfl
theorem len_is_between : ∀ ds M x Q, ct_is_between ds M x Q → ds.length = ["value", "least", "most"].length := by
  rintro ds M x Q ⟨_, _, _, rfl, _⟩
  rfl
theorem len_is_literal : ∀ ds M x Q, ct_is_literal ds M x Q → ds.length = ["value"].length := by
  rintro ds M x Q ⟨_, rfl, _⟩
  rfl
theorem len_Engine_have : ∀ ds M x Q, ct_Engine_have ds M x Q → ds.length = ["self", "row"].length := by
  rintro ds M x Q ⟨_, _, _, _, _, _, rfl, _⟩
  rfl
theorem len_Engine_put_on : ∀ ds M x Q, ct_Engine_put_on ds M x Q → ds.length = ["self", "literal", "reason"].length := by
  rintro ds M x Q ⟨_, _, _, _, _, _, _, rfl, _⟩
  rfl
theorem len__law_of : ∀ ds M x Q, ct__law_of ds M x Q → ds.length = ["pot", "some"].length := by
  rintro ds M x Q ⟨_, _, _, _, rfl, _⟩
  rfl
theorem len__law_some : ∀ ds M x Q, ct__law_some ds M x Q → ds.length = ["pot", "pool", "amount"].length := by
  rintro ds M x Q ⟨_, _, _, _, _, rfl, _⟩
  rfl
theorem len__law_fits : ∀ ds M x Q, ct__law_fits ds M x Q → ds.length = ["rows", "full"].length := by
  rintro ds M x Q ⟨_, _, rfl, _⟩
  rfl
theorem len_are_terms : ∀ ds M x Q, ct_are_terms ds M x Q → ds.length = ["value"].length := by
  rintro ds M x Q ⟨_, rfl, _⟩
  rfl
theorem len_Engine___init__ : ∀ ds M x Q, ct_Engine___init__ ds M x Q → ds.length = ["self", "rows"].length := by
  rintro ds M x Q ⟨_, _, _, rfl, _⟩
  rfl
theorem len_Engine_force : ∀ ds M x Q, ct_Engine_force ds M x Q → ds.length = ["self"].length := by
  rintro ds M x Q ⟨_, _, _, _, _, _, rfl, _⟩
  rfl
theorem len_are_literals : ∀ ds M x Q, ct_are_literals ds M x Q → ds.length = ["rows", "value"].length := by
  rintro ds M x Q ⟨_, _, _, _, rfl, _⟩
  rfl
theorem len__law_drawn : ∀ ds M x Q, ct__law_drawn ds M x Q → ds.length = ["pot", "many", "rows"].length := by
  rintro ds M x Q ⟨_, _, _, _, _, rfl, _⟩
  rfl
theorem len_is_row : ∀ ds M x Q, ct_is_row ds M x Q → ds.length = ["value"].length := by
  rintro ds M x Q ⟨_, rfl, _⟩
  rfl
theorem len_check_literals : ∀ ds M x Q, ct_check_literals ds M x Q → ds.length = ["rows", "literals"].length := by
  rintro ds M x Q ⟨_, _, _, _, rfl, _⟩
  rfl
theorem len_Rows___init__ : ∀ ds M x Q, ct_Rows___init__ ds M x Q → ds.length = ["self", "switches", "rows"].length := by
  rintro ds M x Q ⟨_, _, _, rfl, _⟩
  rfl
theorem len_forced_by : ∀ ds M x Q, ct_forced_by ds M x Q → ds.length = ["rows", "literals"].length := by
  rintro ds M x Q ⟨_, _, _, _, rfl, _⟩
  rfl
theorem len_forced : ∀ ds M x Q, ct_forced ds M x Q → ds.length = ["rows", "literals"].length := by
  rintro ds M x Q ⟨_, _, _, _, rfl, _⟩
  rfl
theorem len_forced_more : ∀ ds M x Q, ct_forced_more ds M x Q → ds.length = ["rows", "literals"].length := by
  rintro ds M x Q ⟨_, _, _, _, rfl, _⟩
  rfl
theorem len__law_right : ∀ ds M x Q, ct__law_right ds M x Q → ds.length = ["pot"].length := by
  rintro ds M x Q ⟨_, _, _, rfl, _⟩
  rfl
theorem len_law : ∀ ds M x Q, ct_law ds M x Q → ds.length = ["script"].length := by
  rintro ds M x Q ⟨_, rfl, _⟩
  rfl
abbrev pwP : Program := PySem.Challenge.pw_yesorrefuted_k12_whole_what_rows_force
def top (i : Nat) : Stmt := pwP.main.body.getD i (.Pass ⟨0, 0, 0, 0⟩)
def inC (i j : Nat) : Stmt := match top i with
  | .ClassDef _ _ _ body _ _ _ _ _ _ _ => body.getD j (.Pass ⟨0, 0, 0, 0⟩)
  | s => s
def dfs : List He5.DefA := [
  ⟨(atG "is_integer"), "is_integer", "is_integer", defArgs (top 8), defBody (top 8), defScope (top 8), [], []⟩,
  ⟨(atP "Rows" "switches"), "switches", "Rows.switches", defArgs (inC 16 2), defBody (inC 16 2), defScope (inC 16 2), [], []⟩,
  ⟨(atP "Rows" "rows"), "rows", "Rows.rows", defArgs (inC 16 3), defBody (inC 16 3), defScope (inC 16 3), [], []⟩,
  ⟨(atG "check_rows"), "check_rows", "check_rows", defArgs (top 17), defBody (top 17), defScope (top 17), [], []⟩,
  ⟨(atM "Engine" "is_off"), "is_off", "Engine.is_off", defArgs (inC 19 3), defBody (inC 19 3), defScope (inC 19 3), [], []⟩,
  ⟨(atM "Engine" "is_open"), "is_open", "Engine.is_open", defArgs (inC 19 4), defBody (inC 19 4), defScope (inC 19 4), [], []⟩,
  ⟨(atM "Engine" "levels"), "levels", "Engine.levels", defArgs (inC 19 7), defBody (inC 19 7), defScope (inC 19 7), [], []⟩,
  ⟨(atM "Engine" "trail"), "trail", "Engine.trail", defArgs (inC 19 9), defBody (inC 19 9), defScope (inC 19 9), [], []⟩,
  ⟨(atG "_law_pot"), "_law_pot", "_law_pot", defArgs (top 26), defBody (top 26), defScope (top 26), [], []⟩,
  ⟨(atG "_law_take"), "_law_take", "_law_take", defArgs (top 27), defBody (top 27), defScope (top 27), [], []⟩,
  ⟨(atG "_law_cells"), "_law_cells", "_law_cells", defArgs (top 29), defBody (top 29), defScope (top 29), [], []⟩,
  ⟨(atG "_law_merged"), "_law_merged", "_law_merged", defArgs (top 31), defBody (top 31), defScope (top 31), [], []⟩,
  ⟨(atG "_law_reach"), "_law_reach", "_law_reach", defArgs (top 32), defBody (top 32), defScope (top 32), [], []⟩,
  ⟨(atG "_law_fulls"), "_law_fulls", "_law_fulls", defArgs (top 33), defBody (top 33), defScope (top 33), [], []⟩,
  ⟨(atG "_law_forced"), "_law_forced", "_law_forced", defArgs (top 36), defBody (top 36), defScope (top 36), [], []⟩,
  ⟨(atG "is_between"), "is_between", "is_between", defArgs (top 9), defBody (top 9), defScope (top 9), [], []⟩,
  ⟨(atG "is_literal"), "is_literal", "is_literal", defArgs (top 13), defBody (top 13), defScope (top 13), [], []⟩,
  ⟨(atM "Engine" "have"), "have", "Engine.have", defArgs (inC 19 1), defBody (inC 19 1), defScope (inC 19 1), [], []⟩,
  ⟨(atM "Engine" "put_on"), "put_on", "Engine.put_on", defArgs (inC 19 10), defBody (inC 19 10), defScope (inC 19 10), [], []⟩,
  ⟨(atG "_law_of"), "_law_of", "_law_of", defArgs (top 28), defBody (top 28), defScope (top 28), [], []⟩,
  ⟨(atG "_law_some"), "_law_some", "_law_some", defArgs (top 30), defBody (top 30), defScope (top 30), [], []⟩,
  ⟨(atG "_law_fits"), "_law_fits", "_law_fits", defArgs (top 34), defBody (top 34), defScope (top 34), [], []⟩,
  ⟨(atG "are_terms"), "are_terms", "are_terms", defArgs (top 14), defBody (top 14), defScope (top 14), [], []⟩,
  ⟨(atM "Engine" "__init__"), "__init__", "Engine.__init__", defArgs (inC 19 0), defBody (inC 19 0), defScope (inC 19 0), [], []⟩,
  ⟨(atM "Engine" "force"), "force", "Engine.force", defArgs (inC 19 14), defBody (inC 19 14), defScope (inC 19 14), [], []⟩,
  ⟨(atG "are_literals"), "are_literals", "are_literals", defArgs (top 20), defBody (top 20), defScope (top 20), [], []⟩,
  ⟨(atG "_law_drawn"), "_law_drawn", "_law_drawn", defArgs (top 35), defBody (top 35), defScope (top 35), [], []⟩,
  ⟨(atG "is_row"), "is_row", "is_row", defArgs (top 15), defBody (top 15), defScope (top 15), [], []⟩,
  ⟨(atG "check_literals"), "check_literals", "check_literals", defArgs (top 21), defBody (top 21), defScope (top 21), [], []⟩,
  ⟨(atM "Rows" "__init__"), "__init__", "Rows.__init__", defArgs (inC 16 0), defBody (inC 16 0), defScope (inC 16 0), [], []⟩,
  ⟨(atG "forced_by"), "forced_by", "forced_by", defArgs (top 22), defBody (top 22), defScope (top 22), [], []⟩,
  ⟨(atG "forced"), "forced", "forced", defArgs (top 23), defBody (top 23), defScope (top 23), [], []⟩,
  ⟨(atG "forced_more"), "forced_more", "forced_more", defArgs (top 24), defBody (top 24), defScope (top 24), [], []⟩,
  ⟨(atG "_law_right"), "_law_right", "_law_right", defArgs (top 37), defBody (top 37), defScope (top 37), [], []⟩,
  ⟨(atG "law"), "law", "law", defArgs (top 38), defBody (top 38), defScope (top 38), [], []⟩]
def chkl (K : PySem.W.Frag) : List Bool := [
  needB K (.free "isinstance"),
  needB K (.isi "int" []),
  needB K (.isi "bool" []),
  needB K (.fld "Rows" "own_switches"),
  needB K (.fld "Rows" "own_rows"),
  needB K (.isi "Rows" ["Rows"]),
  needB K (.fld "Engine" "own_on"),
  needB K (.free "abs"),
  needB K (.free "len"),
  needB K (.fld "Engine" "own_starts"),
  needB K (.free "list"),
  needB K (.fld "Engine" "own_trail"),
  needB K (.free "int"),
  needB K (.free "range"),
  needB K (.free "max"),
  needB K (.free "min"),
  needB K (.free "sorted"),
  needB K (.free "tuple"),
  needB K (.free "sum"),
  ((He.Fa.glo "is_integer").ok K && (He.Fa.keep "is_integer").ok K),
  needB K (.glob "MOST_INNER" (.int 100000)),
  needB K (.fld "Engine" "own_rows"),
  needB K (.fld "Engine" "own_room"),
  mthB K "Engine" "is_off",
  needB K (.fld "Engine" "own_uses"),
  needB K (.fld "Engine" "own_queue"),
  needB K (.fld "Engine" "own_level"),
  mthB K "Engine" "levels",
  needB K (.fld "Engine" "own_reason"),
  ((He.Fa.glo "_law_take").ok K && (He.Fa.keep "_law_take").ok K),
  needB K (.free "all"),
  ((He.Fa.glo "_law_reach").ok K && (He.Fa.keep "_law_reach").ok K),
  needB K (.isi "tuple" []),
  ((He.Fa.glo "is_literal").ok K && (He.Fa.keep "is_literal").ok K),
  mthB K "Engine" "have",
  mthB K "Engine" "is_open",
  mthB K "Engine" "put_on",
  needB K (.free "set"),
  prpB K "Rows" "switches",
  ((He.Fa.glo "_law_some").ok K && (He.Fa.keep "_law_some").ok K),
  ((He.Fa.glo "_law_of").ok K && (He.Fa.keep "_law_of").ok K),
  ((He.Fa.glo "_law_merged").ok K && (He.Fa.keep "_law_merged").ok K),
  ((He.Fa.glo "are_terms").ok K && (He.Fa.keep "are_terms").ok K),
  ((He.Fa.glo "check_rows").ok K && (He.Fa.keep "check_rows").ok K),
  ((He.Fa.glo "are_literals").ok K && (He.Fa.keep "are_literals").ok K),
  ((He.Fa.glo "is_between").ok K && (He.Fa.keep "is_between").ok K),
  needB K (.glob "MOST_ROWS" (.int 100000)),
  ((He.Fa.glo "is_row").ok K && (He.Fa.keep "is_row").ok K),
  mkB K "Engine",
  prpB K "Rows" "rows",
  mthB K "Engine" "force",
  mthB K "Engine" "trail",
  ((He.Fa.glo "check_literals").ok K && (He.Fa.keep "check_literals").ok K),
  ((He.Fa.glo "forced_by").ok K && (He.Fa.keep "forced_by").ok K),
  ((He.Fa.glo "_law_drawn").ok K && (He.Fa.keep "_law_drawn").ok K),
  mkB K "Rows",
  ((He.Fa.glo "forced").ok K && (He.Fa.keep "forced").ok K),
  ((He.Fa.glo "_law_forced").ok K && (He.Fa.keep "_law_forced").ok K),
  needB K (.free "repr"),
  ((He.Fa.glo "forced_more").ok K && (He.Fa.keep "forced_more").ok K),
  ((He.Fa.glo "_law_fulls").ok K && (He.Fa.keep "_law_fulls").ok K),
  ((He.Fa.glo "_law_fits").ok K && (He.Fa.keep "_law_fits").ok K),
  ((He.Fa.glo "_law_cells").ok K && (He.Fa.keep "_law_cells").ok K),
  ((He.Fa.glo "_law_pot").ok K && (He.Fa.keep "_law_pot").ok K),
  ((He.Fa.glo "_law_right").ok K && (He.Fa.keep "_law_right").ok K),
  (He.Fa.glo "law").ok K]
def chk (K : PySem.W.Frag) : Bool := (chkl K).all id
theorem fit_is_integer : (fnScB ["value"] ["value"] (defScope (top 8)) && okSs' ⟨["value"], defScope (top 8), fun _ => true⟩ ir_is_integer (defBody (top 8))) = true := by kernel_rfl
theorem nd_is_integer {p : Need → Prop} (h0 : p (.free "isinstance")) (h1 : p (.isi "int" [])) (h2 : p (.isi "bool" [])) : ∀ n ∈ needSs ir_is_integer, p n := by
  unfold ir_is_integer
  simp only [needSs, needS, needE, needEs, needKs, needEo, needIt, List.mem_cons, List.mem_append, List.not_mem_nil, or_false, false_or, forall_eq_or_imp, or_imp, forall_and, forall_eq, List.append_nil, List.nil_append, BI.name, esLen, ksNames]
  simp only [h0, h1, h2, and_self, implies_true, false_implies]
theorem fit_Rows_switches : (fnScB ["self"] ["self"] (defScope (inC 16 2)) && okSs' ⟨["self"], defScope (inC 16 2), fun _ => true⟩ ir_Rows_switches (defBody (inC 16 2))) = true := by kernel_rfl
theorem nd_Rows_switches {p : Need → Prop} (h0 : p (.fld "Rows" "own_switches")) : ∀ n ∈ needSs ir_Rows_switches, p n := by
  unfold ir_Rows_switches
  simp only [needSs, needS, needE, needEs, needKs, needEo, needIt, List.mem_cons, List.mem_append, List.not_mem_nil, or_false, false_or, forall_eq_or_imp, or_imp, forall_and, forall_eq, List.append_nil, List.nil_append, BI.name, esLen, ksNames]
  simp only [h0, and_self, implies_true, false_implies]
theorem fit_Rows_rows : (fnScB ["self"] ["self"] (defScope (inC 16 3)) && okSs' ⟨["self"], defScope (inC 16 3), fun _ => true⟩ ir_Rows_rows (defBody (inC 16 3))) = true := by kernel_rfl
theorem nd_Rows_rows {p : Need → Prop} (h0 : p (.fld "Rows" "own_rows")) : ∀ n ∈ needSs ir_Rows_rows, p n := by
  unfold ir_Rows_rows
  simp only [needSs, needS, needE, needEs, needKs, needEo, needIt, List.mem_cons, List.mem_append, List.not_mem_nil, or_false, false_or, forall_eq_or_imp, or_imp, forall_and, forall_eq, List.append_nil, List.nil_append, BI.name, esLen, ksNames]
  simp only [h0, and_self, implies_true, false_implies]
theorem fit_check_rows : (fnScB ["rows"] ["rows"] (defScope (top 17)) && okSs' ⟨["rows"], defScope (top 17), fun _ => true⟩ ir_check_rows (defBody (top 17))) = true := by kernel_rfl
theorem nd_check_rows {p : Need → Prop} (h0 : p (.free "isinstance")) (h1 : p (.isi "Rows" ["Rows"])) : ∀ n ∈ needSs ir_check_rows, p n := by
  unfold ir_check_rows
  simp only [needSs, needS, needE, needEs, needKs, needEo, needIt, List.mem_cons, List.mem_append, List.not_mem_nil, or_false, false_or, forall_eq_or_imp, or_imp, forall_and, forall_eq, List.append_nil, List.nil_append, BI.name, esLen, ksNames]
  simp only [h0, h1, and_self, implies_true, false_implies]
theorem fit_Engine_is_off : (fnScB ["self", "literal"] ["self", "literal"] (defScope (inC 19 3)) && okSs' ⟨["self", "literal"], defScope (inC 19 3), fun _ => true⟩ ir_Engine_is_off (defBody (inC 19 3))) = true := by kernel_rfl
theorem nd_Engine_is_off {p : Need → Prop} (h0 : p (.fld "Engine" "own_on")) (h1 : p (.free "abs")) : ∀ n ∈ needSs ir_Engine_is_off, p n := by
  unfold ir_Engine_is_off
  simp only [needSs, needS, needE, needEs, needKs, needEo, needIt, List.mem_cons, List.mem_append, List.not_mem_nil, or_false, false_or, forall_eq_or_imp, or_imp, forall_and, forall_eq, List.append_nil, List.nil_append, BI.name, esLen, ksNames]
  simp only [h0, h1, and_self, implies_true, false_implies]
theorem fit_Engine_is_open : (fnScB ["self", "literal"] ["self", "literal"] (defScope (inC 19 4)) && okSs' ⟨["self", "literal"], defScope (inC 19 4), fun _ => true⟩ ir_Engine_is_open (defBody (inC 19 4))) = true := by kernel_rfl
theorem nd_Engine_is_open {p : Need → Prop} (h0 : p (.free "abs")) (h1 : p (.fld "Engine" "own_on")) : ∀ n ∈ needSs ir_Engine_is_open, p n := by
  unfold ir_Engine_is_open
  simp only [needSs, needS, needE, needEs, needKs, needEo, needIt, List.mem_cons, List.mem_append, List.not_mem_nil, or_false, false_or, forall_eq_or_imp, or_imp, forall_and, forall_eq, List.append_nil, List.nil_append, BI.name, esLen, ksNames]
  simp only [h0, h1, and_self, implies_true, false_implies]
theorem fit_Engine_levels : (fnScB ["self"] ["self"] (defScope (inC 19 7)) && okSs' ⟨["self"], defScope (inC 19 7), fun _ => true⟩ ir_Engine_levels (defBody (inC 19 7))) = true := by kernel_rfl
theorem nd_Engine_levels {p : Need → Prop} (h0 : p (.free "len")) (h1 : p (.fld "Engine" "own_starts")) : ∀ n ∈ needSs ir_Engine_levels, p n := by
  unfold ir_Engine_levels
  simp only [needSs, needS, needE, needEs, needKs, needEo, needIt, List.mem_cons, List.mem_append, List.not_mem_nil, or_false, false_or, forall_eq_or_imp, or_imp, forall_and, forall_eq, List.append_nil, List.nil_append, BI.name, esLen, ksNames]
  simp only [h0, h1, and_self, implies_true, false_implies]
theorem fit_Engine_trail : (fnScB ["self"] ["self"] (defScope (inC 19 9)) && okSs' ⟨["self"], defScope (inC 19 9), fun _ => true⟩ ir_Engine_trail (defBody (inC 19 9))) = true := by kernel_rfl
theorem nd_Engine_trail {p : Need → Prop} (h0 : p (.free "list")) (h1 : p (.fld "Engine" "own_trail")) : ∀ n ∈ needSs ir_Engine_trail, p n := by
  unfold ir_Engine_trail
  simp only [needSs, needS, needE, needEs, needKs, needEo, needIt, List.mem_cons, List.mem_append, List.not_mem_nil, or_false, false_or, forall_eq_or_imp, or_imp, forall_and, forall_eq, List.append_nil, List.nil_append, BI.name, esLen, ksNames]
  simp only [h0, h1, and_self, implies_true, false_implies]
theorem fit__law_pot : (fnScB ["script", "place", "cell", "own", "small"] ["script", "place"] (defScope (top 26)) && okSs' ⟨["script", "place", "cell", "own", "small"], defScope (top 26), fun _ => true⟩ ir__law_pot (defBody (top 26))) = true := by kernel_rfl
theorem nd__law_pot {p : Need → Prop} (h0 : p (.free "len")) (h1 : p (.free "int")) (h2 : p (.free "abs")) : ∀ n ∈ needSs ir__law_pot, p n := by
  unfold ir__law_pot
  simp only [needSs, needS, needE, needEs, needKs, needEo, needIt, List.mem_cons, List.mem_append, List.not_mem_nil, or_false, false_or, forall_eq_or_imp, or_imp, forall_and, forall_eq, List.append_nil, List.nil_append, BI.name, esLen, ksNames]
  simp only [h0, h1, h2, and_self, implies_true, false_implies]
theorem fit__law_take : (fnScB ["pot", "upto", "prime", "mixed", "digit"] ["pot", "upto"] (defScope (top 27)) && okSs' ⟨["pot", "upto", "prime", "mixed", "digit"], defScope (top 27), fun _ => true⟩ ir__law_take (defBody (top 27))) = true := by kernel_rfl
theorem nd__law_take {p : Need → Prop} (h0 : p (.free "int")) : ∀ n ∈ needSs ir__law_take, p n := by
  unfold ir__law_take
  simp only [needSs, needS, needE, needEs, needKs, needEo, needIt, List.mem_cons, List.mem_append, List.not_mem_nil, or_false, false_or, forall_eq_or_imp, or_imp, forall_and, forall_eq, List.append_nil, List.nil_append, BI.name, esLen, ksNames]
  simp only [h0, and_self, implies_true, false_implies]
theorem fit__law_cells : (fnScB ["script", "limit"] ["script", "limit"] (defScope (top 29)) && okSs' ⟨["script", "limit"], defScope (top 29), fun _ => true⟩ ir__law_cells (defBody (top 29))) = true := by kernel_rfl
theorem nd__law_cells {p : Need → Prop} (h0 : p (.free "list")) (h1 : p (.free "range")) (h2 : p (.free "max")) (h3 : p (.free "min")) (h4 : p (.free "len")) : ∀ n ∈ needSs ir__law_cells, p n := by
  unfold ir__law_cells
  simp only [needSs, needS, needE, needEs, needKs, needEo, needIt, List.mem_cons, List.mem_append, List.not_mem_nil, or_false, false_or, forall_eq_or_imp, or_imp, forall_and, forall_eq, List.append_nil, List.nil_append, BI.name, esLen, ksNames]
  simp only [h0, h1, h2, h3, h4, and_self, implies_true, false_implies]
theorem fit__law_merged : (fnScB ["pairs", "least", "net", "terms", "switch", "many", "literal"] ["pairs", "least"] (defScope (top 31)) && okSs' ⟨["pairs", "least", "net", "terms", "switch", "many", "literal"], defScope (top 31), fun _ => true⟩ ir__law_merged (defBody (top 31))) = true := by kernel_rfl
theorem nd__law_merged {p : Need → Prop} (h0 : p (.free "abs")) (h1 : p (.free "sorted")) (h2 : p (.free "int")) (h3 : p (.free "tuple")) : ∀ n ∈ needSs ir__law_merged, p n := by
  unfold ir__law_merged
  simp only [needSs, needS, needE, needEs, needKs, needEo, needIt, List.mem_cons, List.mem_append, List.not_mem_nil, or_false, false_or, forall_eq_or_imp, or_imp, forall_and, forall_eq, List.append_nil, List.nil_append, BI.name, esLen, ksNames]
  simp only [h0, h1, h2, h3, and_self, implies_true, false_implies]
theorem fit__law_reach : (fnScB ["row", "full", "many", "literal"] ["row", "full"] (defScope (top 32)) && okSs' ⟨["row", "full", "many", "literal"], defScope (top 32), fun _ => true⟩ ir__law_reach (defBody (top 32))) = true := by kernel_rfl
theorem nd__law_reach {p : Need → Prop} (h0 : p (.free "sum")) : ∀ n ∈ needSs ir__law_reach, p n := by
  unfold ir__law_reach
  simp only [needSs, needS, needE, needEs, needKs, needEo, needIt, List.mem_cons, List.mem_append, List.not_mem_nil, or_false, false_or, forall_eq_or_imp, or_imp, forall_and, forall_eq, List.append_nil, List.nil_append, BI.name, esLen, ksNames]
  simp only [h0, and_self, implies_true, false_implies]
theorem fit__law_fulls : (fnScB ["many", "found", "switch", "full"] ["many"] (defScope (top 33)) && okSs' ⟨["many", "found", "switch", "full"], defScope (top 33), fun _ => true⟩ ir__law_fulls (defBody (top 33))) = true := by kernel_rfl
theorem nd__law_fulls {p : Need → Prop} (h0 : p (.free "range")) (h1 : p (.free "sum")) : ∀ n ∈ needSs ir__law_fulls, p n := by
  unfold ir__law_fulls
  simp only [needSs, needS, needE, needEs, needKs, needEo, needIt, List.mem_cons, List.mem_append, List.not_mem_nil, or_false, false_or, forall_eq_or_imp, or_imp, forall_and, forall_eq, List.append_nil, List.nil_append, BI.name, esLen, ksNames]
  simp only [h0, h1, and_self, implies_true, false_implies]
theorem fit__law_forced : (fnScB ["rows", "literals", "on", "is_more", "terms", "least", "room", "many", "literal"] ["rows", "literals"] (defScope (top 36)) && okSs' ⟨["rows", "literals", "on", "is_more", "terms", "least", "room", "many", "literal"], defScope (top 36), fun _ => true⟩ ir__law_forced (defBody (top 36))) = true := by kernel_rfl
theorem nd__law_forced {p : Need → Prop} (h0 : p (.free "list")) (h1 : p (.free "sum")) (h2 : p (.free "tuple")) (h3 : p (.free "sorted")) (h4 : p (.free "abs")) : ∀ n ∈ needSs ir__law_forced, p n := by
  unfold ir__law_forced
  simp only [needSs, needS, needE, needEs, needKs, needEo, needIt, List.mem_cons, List.mem_append, List.not_mem_nil, or_false, false_or, forall_eq_or_imp, or_imp, forall_and, forall_eq, List.append_nil, List.nil_append, BI.name, esLen, ksNames]
  simp only [h0, h1, h2, h3, h4, and_self, implies_true, false_implies]
theorem fit_is_between : (fnScB ["value", "least", "most"] ["value", "least", "most"] (defScope (top 9)) && okSs' ⟨["value", "least", "most"], defScope (top 9), fun _ => true⟩ ir_is_between (defBody (top 9))) = true := by kernel_rfl
theorem nd_is_between {p : Need → Prop} (h0 : p (.fn "is_integer" ct_is_integer)) : ∀ n ∈ needSs ir_is_between, p n := by
  unfold ir_is_between
  simp only [needSs, needS, needE, needEs, needKs, needEo, needIt, List.mem_cons, List.mem_append, List.not_mem_nil, or_false, false_or, forall_eq_or_imp, or_imp, forall_and, forall_eq, List.append_nil, List.nil_append, BI.name, esLen, ksNames]
  simp only [h0, and_self, implies_true, false_implies]
theorem fit_is_literal : (fnScB ["value"] ["value"] (defScope (top 13)) && okSs' ⟨["value"], defScope (top 13), fun _ => true⟩ ir_is_literal (defBody (top 13))) = true := by kernel_rfl
theorem nd_is_literal {p : Need → Prop} (h0 : p (.fn "is_integer" ct_is_integer)) (h1 : p (.free "abs")) (h2 : p (.glob "MOST_INNER" (.int 100000))) : ∀ n ∈ needSs ir_is_literal, p n := by
  unfold ir_is_literal
  simp only [needSs, needS, needE, needEs, needKs, needEo, needIt, List.mem_cons, List.mem_append, List.not_mem_nil, or_false, false_or, forall_eq_or_imp, or_imp, forall_and, forall_eq, List.append_nil, List.nil_append, BI.name, esLen, ksNames]
  simp only [h0, h1, h2, and_self, implies_true, false_implies]
theorem fit_Engine_have : (fnScB ["self", "row", "place", "many", "literal"] ["self", "row"] (defScope (inC 19 1)) && okSs' ⟨["self", "row", "place", "many", "literal"], defScope (inC 19 1), fun _ => true⟩ ir_Engine_have (defBody (inC 19 1))) = true := by kernel_rfl
theorem nd_Engine_have {p : Need → Prop} (h0 : p (.free "len")) (h1 : p (.fld "Engine" "own_rows")) (h2 : p (.fld "Engine" "own_room")) (h3 : p (.free "sum")) (h4 : p (.mth "Engine" "is_off" ct_Engine_is_off)) (h5 : p (.fld "Engine" "own_uses")) (h6 : p (.fld "Engine" "own_queue")) : ∀ n ∈ needSs ir_Engine_have, p n := by
  unfold ir_Engine_have
  simp only [needSs, needS, needE, needEs, needKs, needEo, needIt, List.mem_cons, List.mem_append, List.not_mem_nil, or_false, false_or, forall_eq_or_imp, or_imp, forall_and, forall_eq, List.append_nil, List.nil_append, BI.name, esLen, ksNames]
  simp only [h0, h1, h2, h3, h4, h5, h6, and_self, implies_true, false_implies]
theorem fit_Engine_put_on : (fnScB ["self", "literal", "reason", "place", "many"] ["self", "literal", "reason"] (defScope (inC 19 10)) && okSs' ⟨["self", "literal", "reason", "place", "many"], defScope (inC 19 10), fun _ => true⟩ ir_Engine_put_on (defBody (inC 19 10))) = true := by kernel_rfl
theorem nd_Engine_put_on {p : Need → Prop} (h0 : p (.fld "Engine" "own_on")) (h1 : p (.free "abs")) (h2 : p (.fld "Engine" "own_level")) (h3 : p (.mth "Engine" "levels" ct_Engine_levels)) (h4 : p (.fld "Engine" "own_reason")) (h5 : p (.fld "Engine" "own_trail")) (h6 : p (.fld "Engine" "own_uses")) (h7 : p (.fld "Engine" "own_room")) (h8 : p (.fld "Engine" "own_queue")) : ∀ n ∈ needSs ir_Engine_put_on, p n := by
  unfold ir_Engine_put_on
  simp only [needSs, needS, needE, needEs, needKs, needEo, needIt, List.mem_cons, List.mem_append, List.not_mem_nil, or_false, false_or, forall_eq_or_imp, or_imp, forall_and, forall_eq, List.append_nil, List.nil_append, BI.name, esLen, ksNames]
  simp only [h0, h1, h2, h3, h4, h5, h6, h7, h8, and_self, implies_true, false_implies]
theorem fit__law_of : (fnScB ["pot", "some"] ["pot", "some"] (defScope (top 28)) && okSs' ⟨["pot", "some"], defScope (top 28), fun _ => true⟩ ir__law_of (defBody (top 28))) = true := by kernel_rfl
theorem nd__law_of {p : Need → Prop} (h0 : p (.fn "_law_take" ct__law_take)) (h1 : p (.free "len")) : ∀ n ∈ needSs ir__law_of, p n := by
  unfold ir__law_of
  simp only [needSs, needS, needE, needEs, needKs, needEo, needIt, List.mem_cons, List.mem_append, List.not_mem_nil, or_false, false_or, forall_eq_or_imp, or_imp, forall_and, forall_eq, List.append_nil, List.nil_append, BI.name, esLen, ksNames]
  simp only [h0, h1, and_self, implies_true, false_implies]
theorem fit__law_some : (fnScB ["pot", "pool", "amount", "lap", "rest", "found"] ["pot", "pool", "amount"] (defScope (top 30)) && okSs' ⟨["pot", "pool", "amount", "lap", "rest", "found"], defScope (top 30), fun _ => true⟩ ir__law_some (defBody (top 30))) = true := by kernel_rfl
theorem nd__law_some {p : Need → Prop} (h0 : p (.free "list")) (h1 : p (.free "range")) (h2 : p (.fn "_law_take" ct__law_take)) (h3 : p (.free "len")) : ∀ n ∈ needSs ir__law_some, p n := by
  unfold ir__law_some
  simp only [needSs, needS, needE, needEs, needKs, needEo, needIt, List.mem_cons, List.mem_append, List.not_mem_nil, or_false, false_or, forall_eq_or_imp, or_imp, forall_and, forall_eq, List.append_nil, List.nil_append, BI.name, esLen, ksNames]
  simp only [h0, h1, h2, h3, and_self, implies_true, false_implies]
theorem fit__law_fits : (fnScB ["rows", "full", "row"] ["rows", "full"] (defScope (top 34)) && okSs' ⟨["rows", "full", "row"], defScope (top 34), fun _ => true⟩ ir__law_fits (defBody (top 34))) = true := by kernel_rfl
theorem nd__law_fits {p : Need → Prop} (h0 : p (.free "all")) (h1 : p (.fn "_law_reach" ct__law_reach)) : ∀ n ∈ needSs ir__law_fits, p n := by
  unfold ir__law_fits
  simp only [needSs, needS, needE, needEs, needKs, needEo, needIt, List.mem_cons, List.mem_append, List.not_mem_nil, or_false, false_or, forall_eq_or_imp, or_imp, forall_and, forall_eq, List.append_nil, List.nil_append, BI.name, esLen, ksNames]
  simp only [h0, h1, and_self, implies_true, false_implies]
theorem fit_are_terms : (fnScB ["value", "ahead", "term"] ["value"] (defScope (top 14)) && okSs' ⟨["value", "ahead", "term"], defScope (top 14), fun _ => true⟩ ir_are_terms (defBody (top 14))) = true := by kernel_rfl
theorem nd_are_terms {p : Need → Prop} (h0 : p (.free "isinstance")) (h1 : p (.isi "tuple" [])) (h2 : p (.free "len")) (h3 : p (.fn "is_integer" ct_is_integer)) (h4 : p (.fn "is_literal" ct_is_literal)) (h5 : p (.free "abs")) : ∀ n ∈ needSs ir_are_terms, p n := by
  unfold ir_are_terms
  simp only [needSs, needS, needE, needEs, needKs, needEo, needIt, List.mem_cons, List.mem_append, List.not_mem_nil, or_false, false_or, forall_eq_or_imp, or_imp, forall_and, forall_eq, List.append_nil, List.nil_append, BI.name, esLen, ksNames]
  simp only [h0, h1, h2, h3, h4, h5, and_self, implies_true, false_implies]
theorem fit_Engine___init__ : (fnScB ["self", "rows", "row"] ["self", "rows"] (defScope (inC 19 0)) && okSs' ⟨["self", "rows", "row"], defScope (inC 19 0), fun _ => true⟩ ir_Engine___init__ (defBody (inC 19 0))) = true := by kernel_rfl
theorem nd_Engine___init__ {p : Need → Prop} (h0 : p (.fld "Engine" "own_rows")) (h1 : p (.fld "Engine" "own_room")) (h2 : p (.fld "Engine" "own_uses")) (h3 : p (.fld "Engine" "own_on")) (h4 : p (.fld "Engine" "own_level")) (h5 : p (.fld "Engine" "own_reason")) (h6 : p (.fld "Engine" "own_trail")) (h7 : p (.fld "Engine" "own_starts")) (h8 : p (.fld "Engine" "own_queue")) (h9 : p (.mth "Engine" "have" ct_Engine_have)) : ∀ n ∈ needSs ir_Engine___init__, p n := by
  unfold ir_Engine___init__
  simp only [needSs, needS, needE, needEs, needKs, needEo, needIt, List.mem_cons, List.mem_append, List.not_mem_nil, or_false, false_or, forall_eq_or_imp, or_imp, forall_and, forall_eq, List.append_nil, List.nil_append, BI.name, esLen, ksNames]
  simp only [h0, h1, h2, h3, h4, h5, h6, h7, h8, h9, and_self, implies_true, false_implies]
theorem fit_Engine_force : (fnScB ["self", "place", "many", "literal"] ["self"] (defScope (inC 19 14)) && okSs' ⟨["self", "place", "many", "literal"], defScope (inC 19 14), fun _ => true⟩ ir_Engine_force (defBody (inC 19 14))) = true := by kernel_rfl
theorem nd_Engine_force {p : Need → Prop} (h0 : p (.fld "Engine" "own_queue")) (h1 : p (.fld "Engine" "own_room")) (h2 : p (.fld "Engine" "own_rows")) (h3 : p (.mth "Engine" "is_open" ct_Engine_is_open)) (h4 : p (.mth "Engine" "put_on" ct_Engine_put_on)) : ∀ n ∈ needSs ir_Engine_force, p n := by
  unfold ir_Engine_force
  simp only [needSs, needS, needE, needEs, needKs, needEo, needIt, List.mem_cons, List.mem_append, List.not_mem_nil, or_false, false_or, forall_eq_or_imp, or_imp, forall_and, forall_eq, List.append_nil, List.nil_append, BI.name, esLen, ksNames]
  simp only [h0, h1, h2, h3, h4, and_self, implies_true, false_implies]
theorem fit_are_literals : (fnScB ["rows", "value", "some", "literal", "switch"] ["rows", "value"] (defScope (top 20)) && okSs' ⟨["rows", "value", "some", "literal", "switch"], defScope (top 20), fun _ => true⟩ ir_are_literals (defBody (top 20))) = true := by kernel_rfl
theorem nd_are_literals {p : Need → Prop} (h0 : p (.free "isinstance")) (h1 : p (.isi "tuple" [])) (h2 : p (.free "all")) (h3 : p (.fn "is_literal" ct_is_literal)) (h4 : p (.free "abs")) (h5 : p (.free "len")) (h6 : p (.free "set")) (h7 : p (.prp "Rows" "switches" ct_Rows_switches)) : ∀ n ∈ needSs ir_are_literals, p n := by
  unfold ir_are_literals
  simp only [needSs, needS, needE, needEs, needKs, needEo, needIt, List.mem_cons, List.mem_append, List.not_mem_nil, or_false, false_or, forall_eq_or_imp, or_imp, forall_and, forall_eq, List.append_nil, List.nil_append, BI.name, esLen, ksNames]
  simp only [h0, h1, h2, h3, h4, h5, h6, h7, and_self, implies_true, false_implies]
theorem fit__law_drawn : (fnScB ["pot", "many", "rows", "found", "lap", "some", "upto", "pairs", "total", "switch", "terms", "least", "often", "literal"] ["pot", "many", "rows"] (defScope (top 35)) && okSs' ⟨["pot", "many", "rows", "found", "lap", "some", "upto", "pairs", "total", "switch", "terms", "least", "often", "literal"], defScope (top 35), fun _ => true⟩ ir__law_drawn (defBody (top 35))) = true := by kernel_rfl
theorem nd__law_drawn {p : Need → Prop} (h0 : p (.free "range")) (h1 : p (.fn "_law_some" ct__law_some)) (h2 : p (.free "list")) (h3 : p (.fn "_law_take" ct__law_take)) (h4 : p (.fn "_law_of" ct__law_of)) (h5 : p (.free "sum")) (h6 : p (.fn "_law_merged" ct__law_merged)) (h7 : p (.free "int")) (h8 : p (.free "max")) : ∀ n ∈ needSs ir__law_drawn, p n := by
  unfold ir__law_drawn
  simp only [needSs, needS, needE, needEs, needKs, needEo, needIt, List.mem_cons, List.mem_append, List.not_mem_nil, or_false, false_or, forall_eq_or_imp, or_imp, forall_and, forall_eq, List.append_nil, List.nil_append, BI.name, esLen, ksNames]
  simp only [h0, h1, h2, h3, h4, h5, h6, h7, h8, and_self, implies_true, false_implies]
theorem fit_is_row : (fnScB ["value"] ["value"] (defScope (top 15)) && okSs' ⟨["value"], defScope (top 15), fun _ => true⟩ ir_is_row (defBody (top 15))) = true := by kernel_rfl
theorem nd_is_row {p : Need → Prop} (h0 : p (.free "isinstance")) (h1 : p (.isi "tuple" [])) (h2 : p (.free "len")) (h3 : p (.fn "are_terms" ct_are_terms)) (h4 : p (.fn "is_integer" ct_is_integer)) : ∀ n ∈ needSs ir_is_row, p n := by
  unfold ir_is_row
  simp only [needSs, needS, needE, needEs, needKs, needEo, needIt, List.mem_cons, List.mem_append, List.not_mem_nil, or_false, false_or, forall_eq_or_imp, or_imp, forall_and, forall_eq, List.append_nil, List.nil_append, BI.name, esLen, ksNames]
  simp only [h0, h1, h2, h3, h4, and_self, implies_true, false_implies]
theorem fit_check_literals : (fnScB ["rows", "literals"] ["rows", "literals"] (defScope (top 21)) && okSs' ⟨["rows", "literals"], defScope (top 21), fun _ => true⟩ ir_check_literals (defBody (top 21))) = true := by kernel_rfl
theorem nd_check_literals {p : Need → Prop} (h0 : p (.fn "check_rows" ct_check_rows)) (h1 : p (.fn "are_literals" ct_are_literals)) : ∀ n ∈ needSs ir_check_literals, p n := by
  unfold ir_check_literals
  simp only [needSs, needS, needE, needEs, needKs, needEo, needIt, List.mem_cons, List.mem_append, List.not_mem_nil, or_false, false_or, forall_eq_or_imp, or_imp, forall_and, forall_eq, List.append_nil, List.nil_append, BI.name, esLen, ksNames]
  simp only [h0, h1, and_self, implies_true, false_implies]
theorem fit_Rows___init__ : (fnScB ["self", "switches", "rows", "row"] ["self", "switches", "rows"] (defScope (inC 16 0)) && okSs' ⟨["self", "switches", "rows", "row"], defScope (inC 16 0), fun _ => true⟩ ir_Rows___init__ (defBody (inC 16 0))) = true := by kernel_rfl
theorem nd_Rows___init__ {p : Need → Prop} (h0 : p (.fn "is_between" ct_is_between)) (h1 : p (.glob "MOST_INNER" (.int 100000))) (h2 : p (.free "isinstance")) (h3 : p (.isi "tuple" [])) (h4 : p (.free "len")) (h5 : p (.glob "MOST_ROWS" (.int 100000))) (h6 : p (.fn "is_row" ct_is_row)) (h7 : p (.free "abs")) (h8 : p (.fld "Rows" "own_switches")) (h9 : p (.fld "Rows" "own_rows")) : ∀ n ∈ needSs ir_Rows___init__, p n := by
  unfold ir_Rows___init__
  simp only [needSs, needS, needE, needEs, needKs, needEo, needIt, List.mem_cons, List.mem_append, List.not_mem_nil, or_false, false_or, forall_eq_or_imp, or_imp, forall_and, forall_eq, List.append_nil, List.nil_append, BI.name, esLen, ksNames]
  simp only [h0, h1, h2, h3, h4, h5, h6, h7, h8, h9, and_self, implies_true, false_implies]
theorem fit_forced_by : (fnScB ["rows", "literals", "engine", "literal"] ["rows", "literals"] (defScope (top 22)) && okSs' ⟨["rows", "literals", "engine", "literal"], defScope (top 22), fun _ => true⟩ ir_forced_by (defBody (top 22))) = true := by kernel_rfl
theorem nd_forced_by {p : Need → Prop} (h0 : p (.mk "Engine" ct_Engine___init__)) (h1 : p (.prp "Rows" "rows" ct_Rows_rows)) (h2 : p (.mth "Engine" "is_off" ct_Engine_is_off)) (h3 : p (.mth "Engine" "is_open" ct_Engine_is_open)) (h4 : p (.mth "Engine" "put_on" ct_Engine_put_on)) (h5 : p (.mth "Engine" "force" ct_Engine_force)) (h6 : p (.free "tuple")) (h7 : p (.free "sorted")) (h8 : p (.free "abs")) (h9 : p (.mth "Engine" "trail" ct_Engine_trail)) : ∀ n ∈ needSs ir_forced_by, p n := by
  unfold ir_forced_by
  simp only [needSs, needS, needE, needEs, needKs, needEo, needIt, List.mem_cons, List.mem_append, List.not_mem_nil, or_false, false_or, forall_eq_or_imp, or_imp, forall_and, forall_eq, List.append_nil, List.nil_append, BI.name, esLen, ksNames]
  simp only [h0, h1, h2, h3, h4, h5, h6, h7, h8, h9, and_self, implies_true, false_implies]
theorem fit_forced : (fnScB ["rows", "literals"] ["rows", "literals"] (defScope (top 23)) && okSs' ⟨["rows", "literals"], defScope (top 23), fun _ => true⟩ ir_forced (defBody (top 23))) = true := by kernel_rfl
theorem nd_forced {p : Need → Prop} (h0 : p (.fn "check_literals" ct_check_literals)) (h1 : p (.fn "forced_by" ct_forced_by)) : ∀ n ∈ needSs ir_forced, p n := by
  unfold ir_forced
  simp only [needSs, needS, needE, needEs, needKs, needEo, needIt, List.mem_cons, List.mem_append, List.not_mem_nil, or_false, false_or, forall_eq_or_imp, or_imp, forall_and, forall_eq, List.append_nil, List.nil_append, BI.name, esLen, ksNames]
  simp only [h0, h1, and_self, implies_true, false_implies]
theorem fit_forced_more : (fnScB ["rows", "literals", "told", "literal"] ["rows", "literals"] (defScope (top 24)) && okSs' ⟨["rows", "literals", "told", "literal"], defScope (top 24), fun _ => true⟩ ir_forced_more (defBody (top 24))) = true := by kernel_rfl
theorem nd_forced_more {p : Need → Prop} (h0 : p (.fn "check_literals" ct_check_literals)) (h1 : p (.fn "forced_by" ct_forced_by)) (h2 : p (.free "tuple")) : ∀ n ∈ needSs ir_forced_more, p n := by
  unfold ir_forced_more
  simp only [needSs, needS, needE, needEs, needKs, needEo, needIt, List.mem_cons, List.mem_append, List.not_mem_nil, or_false, false_or, forall_eq_or_imp, or_imp, forall_and, forall_eq, List.append_nil, List.nil_append, BI.name, esLen, ksNames]
  simp only [h0, h1, h2, and_self, implies_true, false_implies]
theorem fit__law_right : (fnScB ["pot", "many", "found", "rows", "some", "literals", "more", "fits", "fewer", "told", "due", "full", "switch", "literal"] ["pot"] (defScope (top 37)) && okSs' ⟨["pot", "many", "found", "rows", "some", "literals", "more", "fits", "fewer", "told", "due", "full", "switch", "literal"], defScope (top 37), fun _ => true⟩ ir__law_right (defBody (top 37))) = true := by kernel_rfl
theorem nd__law_right {p : Need → Prop} (h0 : p (.fn "_law_take" ct__law_take)) (h1 : p (.fn "_law_drawn" ct__law_drawn)) (h2 : p (.mk "Rows" ct_Rows___init__)) (h3 : p (.free "tuple")) (h4 : p (.fn "_law_some" ct__law_some)) (h5 : p (.free "list")) (h6 : p (.free "range")) (h7 : p (.free "int")) (h8 : p (.fn "_law_of" ct__law_of)) (h9 : p (.fnk "forced" ct_forced 0 ["rows", "literals"] [0, 1])) (h10 : p (.fn "_law_forced" ct__law_forced)) (h11 : p (.free "repr")) (h12 : p (.fnk "forced_more" ct_forced_more 0 ["rows", "literals"] [0, 1])) (h13 : p (.fn "forced" ct_forced)) (h14 : p (.fn "_law_fulls" ct__law_fulls)) (h15 : p (.fn "_law_fits" ct__law_fits)) (h16 : p (.free "all")) : ∀ n ∈ needSs ir__law_right, p n := by
  unfold ir__law_right
  simp only [needSs, needS, needE, needEs, needKs, needEo, needIt, List.mem_cons, List.mem_append, List.not_mem_nil, or_false, false_or, forall_eq_or_imp, or_imp, forall_and, forall_eq, List.append_nil, List.nil_append, BI.name, esLen, ksNames]
  simp only [h0, h1, h2, h3, h4, h5, h6, h7, h8, h9, h10, h11, h12, h13, h14, h15, h16, and_self, implies_true, false_implies]
theorem fit_law : (fnScB ["script", "place", "pot", "lap"] ["script"] (defScope (top 38)) && okSs' ⟨["script", "place", "pot", "lap"], defScope (top 38), fun _ => true⟩ ir_law (defBody (top 38))) = true := by kernel_rfl
theorem nd_law {p : Need → Prop} (h0 : p (.fn "_law_cells" ct__law_cells)) (h1 : p (.fn "_law_pot" ct__law_pot)) (h2 : p (.free "all")) (h3 : p (.free "range")) (h4 : p (.fn "_law_right" ct__law_right)) : ∀ n ∈ needSs ir_law, p n := by
  unfold ir_law
  simp only [needSs, needS, needE, needEs, needKs, needEo, needIt, List.mem_cons, List.mem_append, List.not_mem_nil, or_false, false_or, forall_eq_or_imp, or_imp, forall_and, forall_eq, List.append_nil, List.nil_append, BI.name, esLen, ksNames]
  simp only [h0, h1, h2, h3, h4, and_self, implies_true, false_implies]
section
variable {P : Program} {w : World} {K : PySem.W.Frag} {mg : Str → Option Value} {base : Heap}
theorem fn_is_integer (X : K.In base) (G : base.Ns mainGlobals mg) (c : obsC chk dfs K = valC dfs) : ∃ fd, FnG ⟨P, w, K, mg, base⟩ 1 ((atG "is_integer") K) fd ["value"] ct_is_integer ∧ Binds K fd ["value"] [] := by
  obtain ⟨fd, F⟩ := says_def c 0
  have F : FunD K "is_integer" "is_integer" (defArgs (top 8)) (defBody (top 8)) (defScope (top 8)) [] [] ((atG "is_integer") K) fd := F
  have ck : ∀ i b, (chkl K)[i]? = some b → b = true := fun i b e => chk_at (says_chk c) i e
  refine ⟨fd, fn_rule F fit_is_integer len_is_integer (nd_is_integer (need_free X G (ck 0 _ rfl)) (need_isi X G (ck 1 _ rfl)) (need_isi X G (ck 2 _ rfl))) pure_is_integer, F.bindsN fun _ _ _ _ _ _ us hl => match us, hl with | [_], _ => rfl⟩
theorem fn_Rows_switches (X : K.In base) (G : base.Ns mainGlobals mg) (c : obsC chk dfs K = valC dfs) : ∃ fd, FnG ⟨P, w, K, mg, base⟩ 1 ((atP "Rows" "switches") K) fd ["self"] ct_Rows_switches ∧ Binds K fd ["self"] [] := by
  obtain ⟨fd, F⟩ := says_def c 1
  have F : FunD K "switches" "Rows.switches" (defArgs (inC 16 2)) (defBody (inC 16 2)) (defScope (inC 16 2)) [] [] ((atP "Rows" "switches") K) fd := F
  have ck : ∀ i b, (chkl K)[i]? = some b → b = true := fun i b e => chk_at (says_chk c) i e
  refine ⟨fd, fn_rule F fit_Rows_switches len_Rows_switches (nd_Rows_switches (need_fld X G (ck 3 _ rfl))) pure_Rows_switches, F.bindsN fun _ _ _ _ _ _ us hl => match us, hl with | [_], _ => rfl⟩
theorem fn_Rows_rows (X : K.In base) (G : base.Ns mainGlobals mg) (c : obsC chk dfs K = valC dfs) : ∃ fd, FnG ⟨P, w, K, mg, base⟩ 1 ((atP "Rows" "rows") K) fd ["self"] ct_Rows_rows ∧ Binds K fd ["self"] [] := by
  obtain ⟨fd, F⟩ := says_def c 2
  have F : FunD K "rows" "Rows.rows" (defArgs (inC 16 3)) (defBody (inC 16 3)) (defScope (inC 16 3)) [] [] ((atP "Rows" "rows") K) fd := F
  have ck : ∀ i b, (chkl K)[i]? = some b → b = true := fun i b e => chk_at (says_chk c) i e
  refine ⟨fd, fn_rule F fit_Rows_rows len_Rows_rows (nd_Rows_rows (need_fld X G (ck 4 _ rfl))) pure_Rows_rows, F.bindsN fun _ _ _ _ _ _ us hl => match us, hl with | [_], _ => rfl⟩
theorem fn_check_rows (X : K.In base) (G : base.Ns mainGlobals mg) (c : obsC chk dfs K = valC dfs) : ∃ fd, FnG ⟨P, w, K, mg, base⟩ 1 ((atG "check_rows") K) fd ["rows"] ct_check_rows ∧ Binds K fd ["rows"] [] := by
  obtain ⟨fd, F⟩ := says_def c 3
  have F : FunD K "check_rows" "check_rows" (defArgs (top 17)) (defBody (top 17)) (defScope (top 17)) [] [] ((atG "check_rows") K) fd := F
  have ck : ∀ i b, (chkl K)[i]? = some b → b = true := fun i b e => chk_at (says_chk c) i e
  refine ⟨fd, fn_rule F fit_check_rows len_check_rows (nd_check_rows (need_free X G (ck 0 _ rfl)) (need_isi X G (ck 5 _ rfl))) pure_check_rows, F.bindsN fun _ _ _ _ _ _ us hl => match us, hl with | [_], _ => rfl⟩
theorem fn_Engine_is_off (X : K.In base) (G : base.Ns mainGlobals mg) (c : obsC chk dfs K = valC dfs) : ∃ fd, FnG ⟨P, w, K, mg, base⟩ 1 ((atM "Engine" "is_off") K) fd ["self", "literal"] ct_Engine_is_off ∧ Binds K fd ["self", "literal"] [] := by
  obtain ⟨fd, F⟩ := says_def c 4
  have F : FunD K "is_off" "Engine.is_off" (defArgs (inC 19 3)) (defBody (inC 19 3)) (defScope (inC 19 3)) [] [] ((atM "Engine" "is_off") K) fd := F
  have ck : ∀ i b, (chkl K)[i]? = some b → b = true := fun i b e => chk_at (says_chk c) i e
  refine ⟨fd, fn_rule F fit_Engine_is_off len_Engine_is_off (nd_Engine_is_off (need_fld X G (ck 6 _ rfl)) (need_free X G (ck 7 _ rfl))) pure_Engine_is_off, F.bindsN fun _ _ _ _ _ _ us hl => match us, hl with | [_, _], _ => rfl⟩
theorem fn_Engine_is_open (X : K.In base) (G : base.Ns mainGlobals mg) (c : obsC chk dfs K = valC dfs) : ∃ fd, FnG ⟨P, w, K, mg, base⟩ 1 ((atM "Engine" "is_open") K) fd ["self", "literal"] ct_Engine_is_open ∧ Binds K fd ["self", "literal"] [] := by
  obtain ⟨fd, F⟩ := says_def c 5
  have F : FunD K "is_open" "Engine.is_open" (defArgs (inC 19 4)) (defBody (inC 19 4)) (defScope (inC 19 4)) [] [] ((atM "Engine" "is_open") K) fd := F
  have ck : ∀ i b, (chkl K)[i]? = some b → b = true := fun i b e => chk_at (says_chk c) i e
  refine ⟨fd, fn_rule F fit_Engine_is_open len_Engine_is_open (nd_Engine_is_open (need_free X G (ck 7 _ rfl)) (need_fld X G (ck 6 _ rfl))) pure_Engine_is_open, F.bindsN fun _ _ _ _ _ _ us hl => match us, hl with | [_, _], _ => rfl⟩
theorem fn_Engine_levels (X : K.In base) (G : base.Ns mainGlobals mg) (c : obsC chk dfs K = valC dfs) : ∃ fd, FnG ⟨P, w, K, mg, base⟩ 1 ((atM "Engine" "levels") K) fd ["self"] ct_Engine_levels ∧ Binds K fd ["self"] [] := by
  obtain ⟨fd, F⟩ := says_def c 6
  have F : FunD K "levels" "Engine.levels" (defArgs (inC 19 7)) (defBody (inC 19 7)) (defScope (inC 19 7)) [] [] ((atM "Engine" "levels") K) fd := F
  have ck : ∀ i b, (chkl K)[i]? = some b → b = true := fun i b e => chk_at (says_chk c) i e
  refine ⟨fd, fn_rule F fit_Engine_levels len_Engine_levels (nd_Engine_levels (need_free X G (ck 8 _ rfl)) (need_fld X G (ck 9 _ rfl))) pure_Engine_levels, F.bindsN fun _ _ _ _ _ _ us hl => match us, hl with | [_], _ => rfl⟩
theorem fn_Engine_trail (X : K.In base) (G : base.Ns mainGlobals mg) (c : obsC chk dfs K = valC dfs) : ∃ fd, FnG ⟨P, w, K, mg, base⟩ 1 ((atM "Engine" "trail") K) fd ["self"] ct_Engine_trail ∧ Binds K fd ["self"] [] := by
  obtain ⟨fd, F⟩ := says_def c 7
  have F : FunD K "trail" "Engine.trail" (defArgs (inC 19 9)) (defBody (inC 19 9)) (defScope (inC 19 9)) [] [] ((atM "Engine" "trail") K) fd := F
  have ck : ∀ i b, (chkl K)[i]? = some b → b = true := fun i b e => chk_at (says_chk c) i e
  refine ⟨fd, fn_rule F fit_Engine_trail len_Engine_trail (nd_Engine_trail (need_free X G (ck 10 _ rfl)) (need_fld X G (ck 11 _ rfl))) pure_Engine_trail, F.bindsN fun _ _ _ _ _ _ us hl => match us, hl with | [_], _ => rfl⟩
theorem fn__law_pot (X : K.In base) (G : base.Ns mainGlobals mg) (c : obsC chk dfs K = valC dfs) : ∃ fd, FnG ⟨P, w, K, mg, base⟩ 1 ((atG "_law_pot") K) fd ["script", "place"] ct__law_pot ∧ Binds K fd ["script", "place"] [] := by
  obtain ⟨fd, F⟩ := says_def c 8
  have F : FunD K "_law_pot" "_law_pot" (defArgs (top 26)) (defBody (top 26)) (defScope (top 26)) [] [] ((atG "_law_pot") K) fd := F
  have ck : ∀ i b, (chkl K)[i]? = some b → b = true := fun i b e => chk_at (says_chk c) i e
  refine ⟨fd, fn_rule F fit__law_pot len__law_pot (nd__law_pot (need_free X G (ck 8 _ rfl)) (need_free X G (ck 12 _ rfl)) (need_free X G (ck 7 _ rfl))) pure__law_pot, F.bindsN fun _ _ _ _ _ _ us hl => match us, hl with | [_, _], _ => rfl⟩
theorem fn__law_take (X : K.In base) (G : base.Ns mainGlobals mg) (c : obsC chk dfs K = valC dfs) : ∃ fd, FnG ⟨P, w, K, mg, base⟩ 1 ((atG "_law_take") K) fd ["pot", "upto"] ct__law_take ∧ Binds K fd ["pot", "upto"] [] := by
  obtain ⟨fd, F⟩ := says_def c 9
  have F : FunD K "_law_take" "_law_take" (defArgs (top 27)) (defBody (top 27)) (defScope (top 27)) [] [] ((atG "_law_take") K) fd := F
  have ck : ∀ i b, (chkl K)[i]? = some b → b = true := fun i b e => chk_at (says_chk c) i e
  refine ⟨fd, fn_rule F fit__law_take len__law_take (nd__law_take (need_free X G (ck 12 _ rfl))) pure__law_take, F.bindsN fun _ _ _ _ _ _ us hl => match us, hl with | [_, _], _ => rfl⟩
theorem fn__law_cells (X : K.In base) (G : base.Ns mainGlobals mg) (c : obsC chk dfs K = valC dfs) : ∃ fd, FnG ⟨P, w, K, mg, base⟩ 1 ((atG "_law_cells") K) fd ["script", "limit"] ct__law_cells ∧ Binds K fd ["script", "limit"] [] := by
  obtain ⟨fd, F⟩ := says_def c 10
  have F : FunD K "_law_cells" "_law_cells" (defArgs (top 29)) (defBody (top 29)) (defScope (top 29)) [] [] ((atG "_law_cells") K) fd := F
  have ck : ∀ i b, (chkl K)[i]? = some b → b = true := fun i b e => chk_at (says_chk c) i e
  refine ⟨fd, fn_rule F fit__law_cells len__law_cells (nd__law_cells (need_free X G (ck 10 _ rfl)) (need_free X G (ck 13 _ rfl)) (need_free X G (ck 14 _ rfl)) (need_free X G (ck 15 _ rfl)) (need_free X G (ck 8 _ rfl))) pure__law_cells, F.bindsN fun _ _ _ _ _ _ us hl => match us, hl with | [_, _], _ => rfl⟩
theorem fn__law_merged (X : K.In base) (G : base.Ns mainGlobals mg) (c : obsC chk dfs K = valC dfs) : ∃ fd, FnG ⟨P, w, K, mg, base⟩ 1 ((atG "_law_merged") K) fd ["pairs", "least"] ct__law_merged ∧ Binds K fd ["pairs", "least"] [] := by
  obtain ⟨fd, F⟩ := says_def c 11
  have F : FunD K "_law_merged" "_law_merged" (defArgs (top 31)) (defBody (top 31)) (defScope (top 31)) [] [] ((atG "_law_merged") K) fd := F
  have ck : ∀ i b, (chkl K)[i]? = some b → b = true := fun i b e => chk_at (says_chk c) i e
  refine ⟨fd, fn_rule F fit__law_merged len__law_merged (nd__law_merged (need_free X G (ck 7 _ rfl)) (need_free X G (ck 16 _ rfl)) (need_free X G (ck 12 _ rfl)) (need_free X G (ck 17 _ rfl))) pure__law_merged, F.bindsN fun _ _ _ _ _ _ us hl => match us, hl with | [_, _], _ => rfl⟩
theorem fn__law_reach (X : K.In base) (G : base.Ns mainGlobals mg) (c : obsC chk dfs K = valC dfs) : ∃ fd, FnG ⟨P, w, K, mg, base⟩ 1 ((atG "_law_reach") K) fd ["row", "full"] ct__law_reach ∧ Binds K fd ["row", "full"] [] := by
  obtain ⟨fd, F⟩ := says_def c 12
  have F : FunD K "_law_reach" "_law_reach" (defArgs (top 32)) (defBody (top 32)) (defScope (top 32)) [] [] ((atG "_law_reach") K) fd := F
  have ck : ∀ i b, (chkl K)[i]? = some b → b = true := fun i b e => chk_at (says_chk c) i e
  refine ⟨fd, fn_rule F fit__law_reach len__law_reach (nd__law_reach (need_free X G (ck 18 _ rfl))) pure__law_reach, F.bindsN fun _ _ _ _ _ _ us hl => match us, hl with | [_, _], _ => rfl⟩
theorem fn__law_fulls (X : K.In base) (G : base.Ns mainGlobals mg) (c : obsC chk dfs K = valC dfs) : ∃ fd, FnG ⟨P, w, K, mg, base⟩ 1 ((atG "_law_fulls") K) fd ["many"] ct__law_fulls ∧ Binds K fd ["many"] [] := by
  obtain ⟨fd, F⟩ := says_def c 13
  have F : FunD K "_law_fulls" "_law_fulls" (defArgs (top 33)) (defBody (top 33)) (defScope (top 33)) [] [] ((atG "_law_fulls") K) fd := F
  have ck : ∀ i b, (chkl K)[i]? = some b → b = true := fun i b e => chk_at (says_chk c) i e
  refine ⟨fd, fn_rule F fit__law_fulls len__law_fulls (nd__law_fulls (need_free X G (ck 13 _ rfl)) (need_free X G (ck 18 _ rfl))) pure__law_fulls, F.bindsN fun _ _ _ _ _ _ us hl => match us, hl with | [_], _ => rfl⟩
theorem fn__law_forced (X : K.In base) (G : base.Ns mainGlobals mg) (c : obsC chk dfs K = valC dfs) : ∃ fd, FnG ⟨P, w, K, mg, base⟩ 1 ((atG "_law_forced") K) fd ["rows", "literals"] ct__law_forced ∧ Binds K fd ["rows", "literals"] [] := by
  obtain ⟨fd, F⟩ := says_def c 14
  have F : FunD K "_law_forced" "_law_forced" (defArgs (top 36)) (defBody (top 36)) (defScope (top 36)) [] [] ((atG "_law_forced") K) fd := F
  have ck : ∀ i b, (chkl K)[i]? = some b → b = true := fun i b e => chk_at (says_chk c) i e
  refine ⟨fd, fn_rule F fit__law_forced len__law_forced (nd__law_forced (need_free X G (ck 10 _ rfl)) (need_free X G (ck 18 _ rfl)) (need_free X G (ck 17 _ rfl)) (need_free X G (ck 16 _ rfl)) (need_free X G (ck 7 _ rfl))) pure__law_forced, F.bindsN fun _ _ _ _ _ _ us hl => match us, hl with | [_, _], _ => rfl⟩
theorem fn_is_between (X : K.In base) (G : base.Ns mainGlobals mg) (c : obsC chk dfs K = valC dfs) : ∃ fd, FnG ⟨P, w, K, mg, base⟩ 2 ((atG "is_between") K) fd ["value", "least", "most"] ct_is_between ∧ Binds K fd ["value", "least", "most"] [] := by
  obtain ⟨fd, F⟩ := says_def c 15
  have F : FunD K "is_between" "is_between" (defArgs (top 9)) (defBody (top 9)) (defScope (top 9)) [] [] ((atG "is_between") K) fd := F
  have ck : ∀ i b, (chkl K)[i]? = some b → b = true := fun i b e => chk_at (says_chk c) i e
  obtain ⟨fd_is_integer, f_is_integer, b_is_integer⟩ := fn_is_integer (P := P) (w := w) X G c
  refine ⟨fd, fn_rule F fit_is_between len_is_between (nd_is_between (need_fn X G (ck 19 _ rfl) f_is_integer (by decide) b_is_integer)) pure_is_between, F.bindsN fun _ _ _ _ _ _ us hl => match us, hl with | [_, _, _], _ => rfl⟩
theorem fn_is_literal (X : K.In base) (G : base.Ns mainGlobals mg) (c : obsC chk dfs K = valC dfs) : ∃ fd, FnG ⟨P, w, K, mg, base⟩ 2 ((atG "is_literal") K) fd ["value"] ct_is_literal ∧ Binds K fd ["value"] [] := by
  obtain ⟨fd, F⟩ := says_def c 16
  have F : FunD K "is_literal" "is_literal" (defArgs (top 13)) (defBody (top 13)) (defScope (top 13)) [] [] ((atG "is_literal") K) fd := F
  have ck : ∀ i b, (chkl K)[i]? = some b → b = true := fun i b e => chk_at (says_chk c) i e
  obtain ⟨fd_is_integer, f_is_integer, b_is_integer⟩ := fn_is_integer (P := P) (w := w) X G c
  refine ⟨fd, fn_rule F fit_is_literal len_is_literal (nd_is_literal (need_fn X G (ck 19 _ rfl) f_is_integer (by decide) b_is_integer) (need_free X G (ck 7 _ rfl)) (need_glob X G (ck 20 _ rfl))) pure_is_literal, F.bindsN fun _ _ _ _ _ _ us hl => match us, hl with | [_], _ => rfl⟩
theorem fn_Engine_have (X : K.In base) (G : base.Ns mainGlobals mg) (c : obsC chk dfs K = valC dfs) : ∃ fd, FnG ⟨P, w, K, mg, base⟩ 2 ((atM "Engine" "have") K) fd ["self", "row"] ct_Engine_have ∧ Binds K fd ["self", "row"] [] := by
  obtain ⟨fd, F⟩ := says_def c 17
  have F : FunD K "have" "Engine.have" (defArgs (inC 19 1)) (defBody (inC 19 1)) (defScope (inC 19 1)) [] [] ((atM "Engine" "have") K) fd := F
  have ck : ∀ i b, (chkl K)[i]? = some b → b = true := fun i b e => chk_at (says_chk c) i e
  obtain ⟨fd_Engine_is_off, f_Engine_is_off, b_Engine_is_off⟩ := fn_Engine_is_off (P := P) (w := w) X G c
  refine ⟨fd, fn_rule F fit_Engine_have len_Engine_have (nd_Engine_have (need_free X G (ck 8 _ rfl)) (need_fld X G (ck 21 _ rfl)) (need_fld X G (ck 22 _ rfl)) (need_free X G (ck 18 _ rfl)) (need_mth X G (ck 23 _ rfl) f_Engine_is_off (by decide) b_Engine_is_off) (need_fld X G (ck 24 _ rfl)) (need_fld X G (ck 25 _ rfl))) pure_Engine_have, F.bindsN fun _ _ _ _ _ _ us hl => match us, hl with | [_, _], _ => rfl⟩
theorem fn_Engine_put_on (X : K.In base) (G : base.Ns mainGlobals mg) (c : obsC chk dfs K = valC dfs) : ∃ fd, FnG ⟨P, w, K, mg, base⟩ 2 ((atM "Engine" "put_on") K) fd ["self", "literal", "reason"] ct_Engine_put_on ∧ Binds K fd ["self", "literal", "reason"] [] := by
  obtain ⟨fd, F⟩ := says_def c 18
  have F : FunD K "put_on" "Engine.put_on" (defArgs (inC 19 10)) (defBody (inC 19 10)) (defScope (inC 19 10)) [] [] ((atM "Engine" "put_on") K) fd := F
  have ck : ∀ i b, (chkl K)[i]? = some b → b = true := fun i b e => chk_at (says_chk c) i e
  obtain ⟨fd_Engine_levels, f_Engine_levels, b_Engine_levels⟩ := fn_Engine_levels (P := P) (w := w) X G c
  refine ⟨fd, fn_rule F fit_Engine_put_on len_Engine_put_on (nd_Engine_put_on (need_fld X G (ck 6 _ rfl)) (need_free X G (ck 7 _ rfl)) (need_fld X G (ck 26 _ rfl)) (need_mth X G (ck 27 _ rfl) f_Engine_levels (by decide) b_Engine_levels) (need_fld X G (ck 28 _ rfl)) (need_fld X G (ck 11 _ rfl)) (need_fld X G (ck 24 _ rfl)) (need_fld X G (ck 22 _ rfl)) (need_fld X G (ck 25 _ rfl))) pure_Engine_put_on, F.bindsN fun _ _ _ _ _ _ us hl => match us, hl with | [_, _, _], _ => rfl⟩
theorem fn__law_of (X : K.In base) (G : base.Ns mainGlobals mg) (c : obsC chk dfs K = valC dfs) : ∃ fd, FnG ⟨P, w, K, mg, base⟩ 2 ((atG "_law_of") K) fd ["pot", "some"] ct__law_of ∧ Binds K fd ["pot", "some"] [] := by
  obtain ⟨fd, F⟩ := says_def c 19
  have F : FunD K "_law_of" "_law_of" (defArgs (top 28)) (defBody (top 28)) (defScope (top 28)) [] [] ((atG "_law_of") K) fd := F
  have ck : ∀ i b, (chkl K)[i]? = some b → b = true := fun i b e => chk_at (says_chk c) i e
  obtain ⟨fd__law_take, f__law_take, b__law_take⟩ := fn__law_take (P := P) (w := w) X G c
  refine ⟨fd, fn_rule F fit__law_of len__law_of (nd__law_of (need_fn X G (ck 29 _ rfl) f__law_take (by decide) b__law_take) (need_free X G (ck 8 _ rfl))) pure__law_of, F.bindsN fun _ _ _ _ _ _ us hl => match us, hl with | [_, _], _ => rfl⟩
theorem fn__law_some (X : K.In base) (G : base.Ns mainGlobals mg) (c : obsC chk dfs K = valC dfs) : ∃ fd, FnG ⟨P, w, K, mg, base⟩ 2 ((atG "_law_some") K) fd ["pot", "pool", "amount"] ct__law_some ∧ Binds K fd ["pot", "pool", "amount"] [] := by
  obtain ⟨fd, F⟩ := says_def c 20
  have F : FunD K "_law_some" "_law_some" (defArgs (top 30)) (defBody (top 30)) (defScope (top 30)) [] [] ((atG "_law_some") K) fd := F
  have ck : ∀ i b, (chkl K)[i]? = some b → b = true := fun i b e => chk_at (says_chk c) i e
  obtain ⟨fd__law_take, f__law_take, b__law_take⟩ := fn__law_take (P := P) (w := w) X G c
  refine ⟨fd, fn_rule F fit__law_some len__law_some (nd__law_some (need_free X G (ck 10 _ rfl)) (need_free X G (ck 13 _ rfl)) (need_fn X G (ck 29 _ rfl) f__law_take (by decide) b__law_take) (need_free X G (ck 8 _ rfl))) pure__law_some, F.bindsN fun _ _ _ _ _ _ us hl => match us, hl with | [_, _, _], _ => rfl⟩
theorem fn__law_fits (X : K.In base) (G : base.Ns mainGlobals mg) (c : obsC chk dfs K = valC dfs) : ∃ fd, FnG ⟨P, w, K, mg, base⟩ 2 ((atG "_law_fits") K) fd ["rows", "full"] ct__law_fits ∧ Binds K fd ["rows", "full"] [] := by
  obtain ⟨fd, F⟩ := says_def c 21
  have F : FunD K "_law_fits" "_law_fits" (defArgs (top 34)) (defBody (top 34)) (defScope (top 34)) [] [] ((atG "_law_fits") K) fd := F
  have ck : ∀ i b, (chkl K)[i]? = some b → b = true := fun i b e => chk_at (says_chk c) i e
  obtain ⟨fd__law_reach, f__law_reach, b__law_reach⟩ := fn__law_reach (P := P) (w := w) X G c
  refine ⟨fd, fn_rule F fit__law_fits len__law_fits (nd__law_fits (need_free X G (ck 30 _ rfl)) (need_fn X G (ck 31 _ rfl) f__law_reach (by decide) b__law_reach)) pure__law_fits, F.bindsN fun _ _ _ _ _ _ us hl => match us, hl with | [_, _], _ => rfl⟩
theorem fn_are_terms (X : K.In base) (G : base.Ns mainGlobals mg) (c : obsC chk dfs K = valC dfs) : ∃ fd, FnG ⟨P, w, K, mg, base⟩ 3 ((atG "are_terms") K) fd ["value"] ct_are_terms ∧ Binds K fd ["value"] [] := by
  obtain ⟨fd, F⟩ := says_def c 22
  have F : FunD K "are_terms" "are_terms" (defArgs (top 14)) (defBody (top 14)) (defScope (top 14)) [] [] ((atG "are_terms") K) fd := F
  have ck : ∀ i b, (chkl K)[i]? = some b → b = true := fun i b e => chk_at (says_chk c) i e
  obtain ⟨fd_is_integer, f_is_integer, b_is_integer⟩ := fn_is_integer (P := P) (w := w) X G c
  obtain ⟨fd_is_literal, f_is_literal, b_is_literal⟩ := fn_is_literal (P := P) (w := w) X G c
  refine ⟨fd, fn_rule F fit_are_terms len_are_terms (nd_are_terms (need_free X G (ck 0 _ rfl)) (need_isi X G (ck 32 _ rfl)) (need_free X G (ck 8 _ rfl)) (need_fn X G (ck 19 _ rfl) f_is_integer (by decide) b_is_integer) (need_fn X G (ck 33 _ rfl) f_is_literal (by decide) b_is_literal) (need_free X G (ck 7 _ rfl))) pure_are_terms, F.bindsN fun _ _ _ _ _ _ us hl => match us, hl with | [_], _ => rfl⟩
theorem fn_Engine___init__ (X : K.In base) (G : base.Ns mainGlobals mg) (c : obsC chk dfs K = valC dfs) : ∃ fd, FnG ⟨P, w, K, mg, base⟩ 3 ((atM "Engine" "__init__") K) fd ["self", "rows"] ct_Engine___init__ ∧ Binds K fd ["self", "rows"] [] := by
  obtain ⟨fd, F⟩ := says_def c 23
  have F : FunD K "__init__" "Engine.__init__" (defArgs (inC 19 0)) (defBody (inC 19 0)) (defScope (inC 19 0)) [] [] ((atM "Engine" "__init__") K) fd := F
  have ck : ∀ i b, (chkl K)[i]? = some b → b = true := fun i b e => chk_at (says_chk c) i e
  obtain ⟨fd_Engine_have, f_Engine_have, b_Engine_have⟩ := fn_Engine_have (P := P) (w := w) X G c
  refine ⟨fd, fn_rule F fit_Engine___init__ len_Engine___init__ (nd_Engine___init__ (need_fld X G (ck 21 _ rfl)) (need_fld X G (ck 22 _ rfl)) (need_fld X G (ck 24 _ rfl)) (need_fld X G (ck 6 _ rfl)) (need_fld X G (ck 26 _ rfl)) (need_fld X G (ck 28 _ rfl)) (need_fld X G (ck 11 _ rfl)) (need_fld X G (ck 9 _ rfl)) (need_fld X G (ck 25 _ rfl)) (need_mth X G (ck 34 _ rfl) f_Engine_have (by decide) b_Engine_have)) pure_Engine___init__, F.bindsN fun _ _ _ _ _ _ us hl => match us, hl with | [_, _], _ => rfl⟩
theorem fn_Engine_force (X : K.In base) (G : base.Ns mainGlobals mg) (c : obsC chk dfs K = valC dfs) : ∃ fd, FnG ⟨P, w, K, mg, base⟩ 3 ((atM "Engine" "force") K) fd ["self"] ct_Engine_force ∧ Binds K fd ["self"] [] := by
  obtain ⟨fd, F⟩ := says_def c 24
  have F : FunD K "force" "Engine.force" (defArgs (inC 19 14)) (defBody (inC 19 14)) (defScope (inC 19 14)) [] [] ((atM "Engine" "force") K) fd := F
  have ck : ∀ i b, (chkl K)[i]? = some b → b = true := fun i b e => chk_at (says_chk c) i e
  obtain ⟨fd_Engine_is_open, f_Engine_is_open, b_Engine_is_open⟩ := fn_Engine_is_open (P := P) (w := w) X G c
  obtain ⟨fd_Engine_put_on, f_Engine_put_on, b_Engine_put_on⟩ := fn_Engine_put_on (P := P) (w := w) X G c
  refine ⟨fd, fn_rule F fit_Engine_force len_Engine_force (nd_Engine_force (need_fld X G (ck 25 _ rfl)) (need_fld X G (ck 22 _ rfl)) (need_fld X G (ck 21 _ rfl)) (need_mth X G (ck 35 _ rfl) f_Engine_is_open (by decide) b_Engine_is_open) (need_mth X G (ck 36 _ rfl) f_Engine_put_on (by decide) b_Engine_put_on)) pure_Engine_force, F.bindsN fun _ _ _ _ _ _ us hl => match us, hl with | [_], _ => rfl⟩
theorem fn_are_literals (X : K.In base) (G : base.Ns mainGlobals mg) (c : obsC chk dfs K = valC dfs) : ∃ fd, FnG ⟨P, w, K, mg, base⟩ 3 ((atG "are_literals") K) fd ["rows", "value"] ct_are_literals ∧ Binds K fd ["rows", "value"] [] := by
  obtain ⟨fd, F⟩ := says_def c 25
  have F : FunD K "are_literals" "are_literals" (defArgs (top 20)) (defBody (top 20)) (defScope (top 20)) [] [] ((atG "are_literals") K) fd := F
  have ck : ∀ i b, (chkl K)[i]? = some b → b = true := fun i b e => chk_at (says_chk c) i e
  obtain ⟨fd_is_literal, f_is_literal, b_is_literal⟩ := fn_is_literal (P := P) (w := w) X G c
  obtain ⟨fd_Rows_switches, f_Rows_switches, b_Rows_switches⟩ := fn_Rows_switches (P := P) (w := w) X G c
  refine ⟨fd, fn_rule F fit_are_literals len_are_literals (nd_are_literals (need_free X G (ck 0 _ rfl)) (need_isi X G (ck 32 _ rfl)) (need_free X G (ck 30 _ rfl)) (need_fn X G (ck 33 _ rfl) f_is_literal (by decide) b_is_literal) (need_free X G (ck 7 _ rfl)) (need_free X G (ck 8 _ rfl)) (need_free X G (ck 37 _ rfl)) (need_prp X G (ck 38 _ rfl) f_Rows_switches (by decide) b_Rows_switches)) pure_are_literals, F.bindsN fun _ _ _ _ _ _ us hl => match us, hl with | [_, _], _ => rfl⟩
theorem fn__law_drawn (X : K.In base) (G : base.Ns mainGlobals mg) (c : obsC chk dfs K = valC dfs) : ∃ fd, FnG ⟨P, w, K, mg, base⟩ 3 ((atG "_law_drawn") K) fd ["pot", "many", "rows"] ct__law_drawn ∧ Binds K fd ["pot", "many", "rows"] [] := by
  obtain ⟨fd, F⟩ := says_def c 26
  have F : FunD K "_law_drawn" "_law_drawn" (defArgs (top 35)) (defBody (top 35)) (defScope (top 35)) [] [] ((atG "_law_drawn") K) fd := F
  have ck : ∀ i b, (chkl K)[i]? = some b → b = true := fun i b e => chk_at (says_chk c) i e
  obtain ⟨fd__law_some, f__law_some, b__law_some⟩ := fn__law_some (P := P) (w := w) X G c
  obtain ⟨fd__law_take, f__law_take, b__law_take⟩ := fn__law_take (P := P) (w := w) X G c
  obtain ⟨fd__law_of, f__law_of, b__law_of⟩ := fn__law_of (P := P) (w := w) X G c
  obtain ⟨fd__law_merged, f__law_merged, b__law_merged⟩ := fn__law_merged (P := P) (w := w) X G c
  refine ⟨fd, fn_rule F fit__law_drawn len__law_drawn (nd__law_drawn (need_free X G (ck 13 _ rfl)) (need_fn X G (ck 39 _ rfl) f__law_some (by decide) b__law_some) (need_free X G (ck 10 _ rfl)) (need_fn X G (ck 29 _ rfl) f__law_take (by decide) b__law_take) (need_fn X G (ck 40 _ rfl) f__law_of (by decide) b__law_of) (need_free X G (ck 18 _ rfl)) (need_fn X G (ck 41 _ rfl) f__law_merged (by decide) b__law_merged) (need_free X G (ck 12 _ rfl)) (need_free X G (ck 14 _ rfl))) pure__law_drawn, F.bindsN fun _ _ _ _ _ _ us hl => match us, hl with | [_, _, _], _ => rfl⟩
theorem fn_is_row (X : K.In base) (G : base.Ns mainGlobals mg) (c : obsC chk dfs K = valC dfs) : ∃ fd, FnG ⟨P, w, K, mg, base⟩ 4 ((atG "is_row") K) fd ["value"] ct_is_row ∧ Binds K fd ["value"] [] := by
  obtain ⟨fd, F⟩ := says_def c 27
  have F : FunD K "is_row" "is_row" (defArgs (top 15)) (defBody (top 15)) (defScope (top 15)) [] [] ((atG "is_row") K) fd := F
  have ck : ∀ i b, (chkl K)[i]? = some b → b = true := fun i b e => chk_at (says_chk c) i e
  obtain ⟨fd_are_terms, f_are_terms, b_are_terms⟩ := fn_are_terms (P := P) (w := w) X G c
  obtain ⟨fd_is_integer, f_is_integer, b_is_integer⟩ := fn_is_integer (P := P) (w := w) X G c
  refine ⟨fd, fn_rule F fit_is_row len_is_row (nd_is_row (need_free X G (ck 0 _ rfl)) (need_isi X G (ck 32 _ rfl)) (need_free X G (ck 8 _ rfl)) (need_fn X G (ck 42 _ rfl) f_are_terms (by decide) b_are_terms) (need_fn X G (ck 19 _ rfl) f_is_integer (by decide) b_is_integer)) pure_is_row, F.bindsN fun _ _ _ _ _ _ us hl => match us, hl with | [_], _ => rfl⟩
theorem fn_check_literals (X : K.In base) (G : base.Ns mainGlobals mg) (c : obsC chk dfs K = valC dfs) : ∃ fd, FnG ⟨P, w, K, mg, base⟩ 4 ((atG "check_literals") K) fd ["rows", "literals"] ct_check_literals ∧ Binds K fd ["rows", "literals"] [] := by
  obtain ⟨fd, F⟩ := says_def c 28
  have F : FunD K "check_literals" "check_literals" (defArgs (top 21)) (defBody (top 21)) (defScope (top 21)) [] [] ((atG "check_literals") K) fd := F
  have ck : ∀ i b, (chkl K)[i]? = some b → b = true := fun i b e => chk_at (says_chk c) i e
  obtain ⟨fd_check_rows, f_check_rows, b_check_rows⟩ := fn_check_rows (P := P) (w := w) X G c
  obtain ⟨fd_are_literals, f_are_literals, b_are_literals⟩ := fn_are_literals (P := P) (w := w) X G c
  refine ⟨fd, fn_rule F fit_check_literals len_check_literals (nd_check_literals (need_fn X G (ck 43 _ rfl) f_check_rows (by decide) b_check_rows) (need_fn X G (ck 44 _ rfl) f_are_literals (by decide) b_are_literals)) pure_check_literals, F.bindsN fun _ _ _ _ _ _ us hl => match us, hl with | [_, _], _ => rfl⟩
theorem fn_Rows___init__ (X : K.In base) (G : base.Ns mainGlobals mg) (c : obsC chk dfs K = valC dfs) : ∃ fd, FnG ⟨P, w, K, mg, base⟩ 5 ((atM "Rows" "__init__") K) fd ["self", "switches", "rows"] ct_Rows___init__ ∧ Binds K fd ["self", "switches", "rows"] [] := by
  obtain ⟨fd, F⟩ := says_def c 29
  have F : FunD K "__init__" "Rows.__init__" (defArgs (inC 16 0)) (defBody (inC 16 0)) (defScope (inC 16 0)) [] [] ((atM "Rows" "__init__") K) fd := F
  have ck : ∀ i b, (chkl K)[i]? = some b → b = true := fun i b e => chk_at (says_chk c) i e
  obtain ⟨fd_is_between, f_is_between, b_is_between⟩ := fn_is_between (P := P) (w := w) X G c
  obtain ⟨fd_is_row, f_is_row, b_is_row⟩ := fn_is_row (P := P) (w := w) X G c
  refine ⟨fd, fn_rule F fit_Rows___init__ len_Rows___init__ (nd_Rows___init__ (need_fn X G (ck 45 _ rfl) f_is_between (by decide) b_is_between) (need_glob X G (ck 20 _ rfl)) (need_free X G (ck 0 _ rfl)) (need_isi X G (ck 32 _ rfl)) (need_free X G (ck 8 _ rfl)) (need_glob X G (ck 46 _ rfl)) (need_fn X G (ck 47 _ rfl) f_is_row (by decide) b_is_row) (need_free X G (ck 7 _ rfl)) (need_fld X G (ck 3 _ rfl)) (need_fld X G (ck 4 _ rfl))) pure_Rows___init__, F.bindsN fun _ _ _ _ _ _ us hl => match us, hl with | [_, _, _], _ => rfl⟩
theorem fn_forced_by (X : K.In base) (G : base.Ns mainGlobals mg) (c : obsC chk dfs K = valC dfs) : ∃ fd, FnG ⟨P, w, K, mg, base⟩ 5 ((atG "forced_by") K) fd ["rows", "literals"] ct_forced_by ∧ Binds K fd ["rows", "literals"] [] := by
  obtain ⟨fd, F⟩ := says_def c 30
  have F : FunD K "forced_by" "forced_by" (defArgs (top 22)) (defBody (top 22)) (defScope (top 22)) [] [] ((atG "forced_by") K) fd := F
  have ck : ∀ i b, (chkl K)[i]? = some b → b = true := fun i b e => chk_at (says_chk c) i e
  obtain ⟨fd_Engine___init__, f_Engine___init__, b_Engine___init__⟩ := fn_Engine___init__ (P := P) (w := w) X G c
  obtain ⟨fd_Rows_rows, f_Rows_rows, b_Rows_rows⟩ := fn_Rows_rows (P := P) (w := w) X G c
  obtain ⟨fd_Engine_is_off, f_Engine_is_off, b_Engine_is_off⟩ := fn_Engine_is_off (P := P) (w := w) X G c
  obtain ⟨fd_Engine_is_open, f_Engine_is_open, b_Engine_is_open⟩ := fn_Engine_is_open (P := P) (w := w) X G c
  obtain ⟨fd_Engine_put_on, f_Engine_put_on, b_Engine_put_on⟩ := fn_Engine_put_on (P := P) (w := w) X G c
  obtain ⟨fd_Engine_force, f_Engine_force, b_Engine_force⟩ := fn_Engine_force (P := P) (w := w) X G c
  obtain ⟨fd_Engine_trail, f_Engine_trail, b_Engine_trail⟩ := fn_Engine_trail (P := P) (w := w) X G c
  refine ⟨fd, fn_rule F fit_forced_by len_forced_by (nd_forced_by (need_mk X G (ck 48 _ rfl) f_Engine___init__ (by decide) b_Engine___init__) (need_prp X G (ck 49 _ rfl) f_Rows_rows (by decide) b_Rows_rows) (need_mth X G (ck 23 _ rfl) f_Engine_is_off (by decide) b_Engine_is_off) (need_mth X G (ck 35 _ rfl) f_Engine_is_open (by decide) b_Engine_is_open) (need_mth X G (ck 36 _ rfl) f_Engine_put_on (by decide) b_Engine_put_on) (need_mth X G (ck 50 _ rfl) f_Engine_force (by decide) b_Engine_force) (need_free X G (ck 17 _ rfl)) (need_free X G (ck 16 _ rfl)) (need_free X G (ck 7 _ rfl)) (need_mth X G (ck 51 _ rfl) f_Engine_trail (by decide) b_Engine_trail)) pure_forced_by, F.bindsN fun _ _ _ _ _ _ us hl => match us, hl with | [_, _], _ => rfl⟩
theorem fn_forced (X : K.In base) (G : base.Ns mainGlobals mg) (c : obsC chk dfs K = valC dfs) : ∃ fd, FnG ⟨P, w, K, mg, base⟩ 6 ((atG "forced") K) fd ["rows", "literals"] ct_forced ∧ Binds K fd ["rows", "literals"] [] ∧ KwB K fd ["rows", "literals"] 0 ["rows", "literals"] [0, 1] := by
  obtain ⟨fd, F⟩ := says_def c 31
  have F : FunD K "forced" "forced" (defArgs (top 23)) (defBody (top 23)) (defScope (top 23)) [] [] ((atG "forced") K) fd := F
  have ck : ∀ i b, (chkl K)[i]? = some b → b = true := fun i b e => chk_at (says_chk c) i e
  obtain ⟨fd_check_literals, f_check_literals, b_check_literals⟩ := fn_check_literals (P := P) (w := w) X G c
  obtain ⟨fd_forced_by, f_forced_by, b_forced_by⟩ := fn_forced_by (P := P) (w := w) X G c
  refine ⟨fd, fn_rule F fit_forced len_forced (nd_forced (need_fn X G (ck 52 _ rfl) f_check_literals (by decide) b_check_literals) (need_fn X G (ck 53 _ rfl) f_forced_by (by decide) b_forced_by)) pure_forced, F.bindsN fun _ _ _ _ _ _ us hl => match us, hl with | [_, _], _ => rfl, kwB_of F rfl (by decide) fun _ _ _ _ _ _ us ws h1 h2 => match us, ws, h1, h2 with | [], [_, _], _, _ => rfl⟩
theorem fn_forced_more (X : K.In base) (G : base.Ns mainGlobals mg) (c : obsC chk dfs K = valC dfs) : ∃ fd, FnG ⟨P, w, K, mg, base⟩ 6 ((atG "forced_more") K) fd ["rows", "literals"] ct_forced_more ∧ Binds K fd ["rows", "literals"] [] ∧ KwB K fd ["rows", "literals"] 0 ["rows", "literals"] [0, 1] := by
  obtain ⟨fd, F⟩ := says_def c 32
  have F : FunD K "forced_more" "forced_more" (defArgs (top 24)) (defBody (top 24)) (defScope (top 24)) [] [] ((atG "forced_more") K) fd := F
  have ck : ∀ i b, (chkl K)[i]? = some b → b = true := fun i b e => chk_at (says_chk c) i e
  obtain ⟨fd_check_literals, f_check_literals, b_check_literals⟩ := fn_check_literals (P := P) (w := w) X G c
  obtain ⟨fd_forced_by, f_forced_by, b_forced_by⟩ := fn_forced_by (P := P) (w := w) X G c
  refine ⟨fd, fn_rule F fit_forced_more len_forced_more (nd_forced_more (need_fn X G (ck 52 _ rfl) f_check_literals (by decide) b_check_literals) (need_fn X G (ck 53 _ rfl) f_forced_by (by decide) b_forced_by) (need_free X G (ck 17 _ rfl))) pure_forced_more, F.bindsN fun _ _ _ _ _ _ us hl => match us, hl with | [_, _], _ => rfl, kwB_of F rfl (by decide) fun _ _ _ _ _ _ us ws h1 h2 => match us, ws, h1, h2 with | [], [_, _], _, _ => rfl⟩
theorem fn__law_right (X : K.In base) (G : base.Ns mainGlobals mg) (c : obsC chk dfs K = valC dfs) : ∃ fd, FnG ⟨P, w, K, mg, base⟩ 7 ((atG "_law_right") K) fd ["pot"] ct__law_right ∧ Binds K fd ["pot"] [] := by
  obtain ⟨fd, F⟩ := says_def c 33
  have F : FunD K "_law_right" "_law_right" (defArgs (top 37)) (defBody (top 37)) (defScope (top 37)) [] [] ((atG "_law_right") K) fd := F
  have ck : ∀ i b, (chkl K)[i]? = some b → b = true := fun i b e => chk_at (says_chk c) i e
  obtain ⟨fd__law_take, f__law_take, b__law_take⟩ := fn__law_take (P := P) (w := w) X G c
  obtain ⟨fd__law_drawn, f__law_drawn, b__law_drawn⟩ := fn__law_drawn (P := P) (w := w) X G c
  obtain ⟨fd_Rows___init__, f_Rows___init__, b_Rows___init__⟩ := fn_Rows___init__ (P := P) (w := w) X G c
  obtain ⟨fd__law_some, f__law_some, b__law_some⟩ := fn__law_some (P := P) (w := w) X G c
  obtain ⟨fd__law_of, f__law_of, b__law_of⟩ := fn__law_of (P := P) (w := w) X G c
  obtain ⟨fd_forced, f_forced, b_forced, k0_forced⟩ := fn_forced (P := P) (w := w) X G c
  obtain ⟨fd__law_forced, f__law_forced, b__law_forced⟩ := fn__law_forced (P := P) (w := w) X G c
  obtain ⟨fd_forced_more, f_forced_more, b_forced_more, k0_forced_more⟩ := fn_forced_more (P := P) (w := w) X G c
  obtain ⟨fd__law_fulls, f__law_fulls, b__law_fulls⟩ := fn__law_fulls (P := P) (w := w) X G c
  obtain ⟨fd__law_fits, f__law_fits, b__law_fits⟩ := fn__law_fits (P := P) (w := w) X G c
  refine ⟨fd, fn_rule F fit__law_right len__law_right (nd__law_right (need_fn X G (ck 29 _ rfl) f__law_take (by decide) b__law_take) (need_fn X G (ck 54 _ rfl) f__law_drawn (by decide) b__law_drawn) (need_mk X G (ck 55 _ rfl) f_Rows___init__ (by decide) b_Rows___init__) (need_free X G (ck 17 _ rfl)) (need_fn X G (ck 39 _ rfl) f__law_some (by decide) b__law_some) (need_free X G (ck 10 _ rfl)) (need_free X G (ck 13 _ rfl)) (need_free X G (ck 12 _ rfl)) (need_fn X G (ck 40 _ rfl) f__law_of (by decide) b__law_of) (need_fnk X G (ck 56 _ rfl) f_forced (by decide) k0_forced) (need_fn X G (ck 57 _ rfl) f__law_forced (by decide) b__law_forced) (need_free X G (ck 58 _ rfl)) (need_fnk X G (ck 59 _ rfl) f_forced_more (by decide) k0_forced_more) (need_fn X G (ck 56 _ rfl) f_forced (by decide) b_forced) (need_fn X G (ck 60 _ rfl) f__law_fulls (by decide) b__law_fulls) (need_fn X G (ck 61 _ rfl) f__law_fits (by decide) b__law_fits) (need_free X G (ck 30 _ rfl))) pure__law_right, F.bindsN fun _ _ _ _ _ _ us hl => match us, hl with | [_], _ => rfl⟩
theorem fn_law (X : K.In base) (G : base.Ns mainGlobals mg) (c : obsC chk dfs K = valC dfs) : ∃ fd, FunD K "law" "law" (defArgs (top 38)) (defBody (top 38)) (defScope (top 38)) [] [] ((atG "law") K) fd ∧ FnG ⟨P, w, K, mg, base⟩ 8 ((atG "law") K) fd ["script"] ct_law ∧ Binds K fd ["script"] [] := by
  obtain ⟨fd, F⟩ := says_def c 34
  have F : FunD K "law" "law" (defArgs (top 38)) (defBody (top 38)) (defScope (top 38)) [] [] ((atG "law") K) fd := F
  have ck : ∀ i b, (chkl K)[i]? = some b → b = true := fun i b e => chk_at (says_chk c) i e
  obtain ⟨fd__law_cells, f__law_cells, b__law_cells⟩ := fn__law_cells (P := P) (w := w) X G c
  obtain ⟨fd__law_pot, f__law_pot, b__law_pot⟩ := fn__law_pot (P := P) (w := w) X G c
  obtain ⟨fd__law_right, f__law_right, b__law_right⟩ := fn__law_right (P := P) (w := w) X G c
  refine ⟨fd, F, fn_rule F fit_law len_law (nd_law (need_fn X G (ck 62 _ rfl) f__law_cells (by decide) b__law_cells) (need_fn X G (ck 63 _ rfl) f__law_pot (by decide) b__law_pot) (need_free X G (ck 30 _ rfl)) (need_free X G (ck 13 _ rfl)) (need_fn X G (ck 64 _ rfl) f__law_right (by decide) b__law_right)) pure_law, F.bindsN fun _ _ _ _ _ _ us hl => match us, hl with | [_], _ => rfl⟩
end
abbrev R : PySem.W.OpenRow := PySem.W.OpenLaw.row PySem.Challenge.rw_yesorrefuted_k12_whole_what_rows_force
abbrev hk : PySem.W.Hook := hookC 7 chk dfs
def ob (s : PySem.W.SharedT) : AlC := obsCG 7 chk dfs (HandSHeadRun.getT s)
theorem ob_eq (s : PySem.W.SharedT) : ob s = hk.obs s.abs := obsCG_eq (HandSHeadRun.getT_eq s)
def loose : List Str := (["_wall", "RefutedError", "BadNumber", "BadRows", "NoRows", "BadLiterals", "is_integer", "is_between", "is_literal", "are_terms", "is_row", "Rows", "check_rows", "Engine", "are_literals", "check_literals", "forced_by", "forced", "forced_more", "_law_pot", "_law_take", "_law_of", "_law_cells", "_law_some", "_law_merged", "_law_reach", "_law_fulls", "_law_fits", "_law_drawn", "_law_forced"] : List Str) ++ (["_law_right", "MOST_INNER", "MOST_ROWS"] : List Str)
theorem run (w : World) : HandSHeadRun.RunEq R (PySem.W.view R.prog [38]) hk ob 100000 loose w := by
  intro os
  kernel_rfl
end K12
open PySem PySem.W PySem.Calls PyProof.Rows
set_option maxRecDepth 100000 in
set_option maxHeartbeats 0 in
theorem PySem.Challenge.cw_yesorrefuted_k12_whole_what_rows_force_holds : PySem.Challenge.rw_yesorrefuted_k12_whole_what_rows_force.Holds := by
  w_on; o_law
  refine HandSHeadRun.head_any (r := K12.R) (q := view K12.R.prog [38]) (H := K12.hk) (ob := K12.ob) (M := 100000) (loose := K12.loose) (d := HandSHeadRun.topDef K12.R.prog 38) (kwd := []) K12.ob_eq
    (by kernel_rfl) (fun s => by kernel_rfl) K12.run (by kernel_rfl) (by kernel_rfl) (by kernel_rfl) (by rfl) (by first | assumption | decide +kernel) (by decide +kernel) ⟨rfl, rfl, rfl, rfl, rfl, by decide +kernel⟩ ?hw ?hc
  case hw => w_witness2
  case hc =>
    refine TL.walk_end (l := PySem.Challenge.rw_yesorrefuted_k12_whole_what_rows_force) (n := 63) (k := 8) (x := "script") rfl (by decide) (by kernel_rfl) ⟨rfl, by decide, by decide⟩ ?F
    intro w mg fa h Y G hmg0
    obtain ⟨K, KX, c⟩ := Y
    have hmg : mg ("law" : PySem.Str) = some (.ref fa) := (show (HandSHeadRun.topDef K12.R.prog 38).name = ("law" : PySem.Str) from by kernel_rfl) ▸ hmg0
    have e := hmg.symm.trans (He.glo_ok KX G (TL.chk_at (TL.says_chk c) 65 rfl))
    cases e
    obtain ⟨fd, F⟩ := TL.says_def c 34
    obtain ⟨fd0, F0, f0, b0⟩ := K12.fn_law (P := (PySem.Challenge.rw_yesorrefuted_k12_whole_what_rows_force).prog) (w := w) KX G c
    cases TL.funD_fd F F0
    refine ⟨K, fd, K12.ct_law, KX, fun s u => TL.bind_one F0 (fun _ _ _ _ _ _ us hl => match us, hl with | [_], _ => rfl) s u, K12.law_true, fun base X2 G2 => ?_⟩
    obtain ⟨fd1, F1, f1, b1⟩ := K12.fn_law (P := (PySem.Challenge.rw_yesorrefuted_k12_whole_what_rows_force).prog) (w := w) X2 G2 c
    cases TL.funD_fd F0 F1
    exact f1
