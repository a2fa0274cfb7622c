import PyProof.Rows.All
import Wide.All
import OpenK.AllK
import Wide.FinOn
import HandS.Call
import HandS.Comp
import HandS.Words
import HandS.List
import HandS.Exc
import KE.SortData
import KE.DataFind
import KE.DataAny
import KE.DataCmp
import HandS.Walk
import HandS.WordsExc
import HandS.CallSlots
import HandS.TryOnly
import HandS.Flow
import HandS.Iter
import HandS.Zip
import KE.GoesEnum
import HandS.TupAny
import HandS.Wide
import HandS.TupMul
import HandS.IsInst
import HandS.Text
import HandS.More
import KE.DataMinMax
import KE.KDictSum
import PyProof.StrOps2
import PyProof.ReprRoads
import HandS.RaiseMore
import HandS.Small
import HandS.EndBits
import HandS.Style
import HandS.TryMany
import HandS.ExcOwn
import PyProof.ExcBaseAll.ValueError
import KE.KRevSl
import KE.KDictPairs
import HandS.Strs
import HandS.TupLe
import HandS.SetFor
import HandS.DictComp
import HandS.TupSets
import PyProof.SeqIndex
import PySem.Challenge.RW_rootsagree_k56_merges_judged
set_option Elab.async false
set_option linter.all false
set_option maxRecDepth 100000
set_option maxHeartbeats 4000000
namespace Dp
open PySem PySem.Spec PyProof.Rows L2

/-- plain data; a mutable object by its place in the memory -/
inductive D where
  | non | bl (b : Bool) | int (i : Int) | str (x : Str) | tup (xs : List D) | lst (xs : List D) | dct (ks : List Key) (xs : List D) | ref (i : Nat) | adr (a : Addr) | ty (n : String) | scr (ns : List Int)
instance : Inhabited D := ⟨.non⟩
/-- what stands in the memory -/
inductive MO where
  | lst (xs : List D) | dct (ks : List Key) (xs : List D) | ins (C : Addr) (ks : List Str) (xs : List D) | gone | flst (xs : List D)
abbrev Mem := List MO
/-- the program's error classes, by number -/
def excNames : List String := ["ShapeError", "InvalidRanking", "InvalidContent", "InvalidTree", "InvalidKey", "InvalidCount", "InvalidLevels", "InvalidPage", "InvalidStretch", "InvalidOrder", "InvalidTrees", "InvalidContents", "InvalidWalk", "InvalidStore", "InvalidViews", "InvalidTold", "InvalidPlan", "InvalidLot", "InvalidChoices", "InvalidEdition", "InvalidPaper", "InvalidWorth", "InvalidCommand", "Refused", "NothingToUndo", "NoSpan", "NotReady", "InvalidText", "InvalidEditions", "InvalidDeeds", "TooMany", "NotShown", "Clash", "TooHigh", "NotOne", "NoRanking", "InvalidPairs", "InvalidMap", "InvalidMeasured", "InvalidBook", "InvalidRule", "InvalidDigest", "InvalidTable", "InvalidTables", "InvalidRow", "InvalidQuery", "InvalidIndexes", "InvalidHistory", "InvalidDeed", "InvalidLine", "Unreadable", "NoCommit", "NoCopy", "NoColumn", "NoTable", "InvalidParents", "InvalidTransactions", "NoNumber", "NoMessage"]
def excName (i : Nat) : Str := Str.ofString (excNames.getD i "")
/-- an exception: the number of its class, its fields -/
structure Exn where
  cls : Nat
  fld : Option (List (Str × D))
inductive Res (α : Type) where
  | ok (a : α) (μ : Mem) | err (x : Exn) (μ : Mem) | bad
def Res.bind {α β : Type} : Res α → (α → Mem → Res β) → Res β
  | .ok a μ, f => f a μ
  | .err x μ, _ => .err x μ
  | .bad, _ => .bad
abbrev Loc := List (Option D)
abbrev EE := Loc → Mem → Res D
abbrev EB := Loc → Mem → Res Bool
abbrev EA := Loc → Mem → Res (List D)
inductive Fl where
  | next (ρ : Loc) | ret (d : D) | brk (ρ : Loc) | cont (ρ : Loc) | exc (x : Exn) (ρ : Loc)
abbrev ES := Loc → Mem → Option (Fl × Mem)

/-- the places of the memory; the addresses that others may write -/
structure Pl where
  pl : List Addr
  av : Addr → Prop
abbrev Pl.out (φ : Pl) (p : Addr) : Prop := p ∉ φ.pl ∧ ¬ φ.av p
abbrev Pl.push (φ : Pl) (p : Addr) : Pl := ⟨φ.pl ++ [p], φ.av⟩
/-! ### how data lie -/
/-- a list that nobody writes: the script -/
def SqF (K : PySem.W.Frag) (H : Hp) (a : Addr) (xs : List V) : Prop :=
  (∃ o, H a = some (.frz o (.lst xs))) ∨ ∃ (o : Obj) (its : Array Value) (n : Nat), K.lookup a = some o ∧ o.cls = .type "list" ∧ o.dict = none ∧ o.data = .seq its n ∧ its.size ≤ sizeLine ∧ Vals xs its.toList
theorem SqF.sq {K : PySem.W.Frag} {H : Hp} {a : Addr} {xs : List V} (h : SqF K H a xs) : SqL K H a xs := h.elim (fun h => .inl (.inr h)) .inr
/-- pairs, a number first in each -/
def pairsh (ds : List D) : Bool := ds.all fun d => match d with
  | .tup [.int _, _] => true
  | _ => false
/-- a dict that nobody writes any more -/
def FzK (H : Hp) (p : Addr) (kvs : List (Key × V)) : Prop := ∃ o, H p = some (.frz o (.dK kvs))
/-- a tuple that is known to the letter -/
def ExT (H : Hp) (p : Addr) : Prop := ∃ o vs, H p = some (.frz o (.tup vs)) ∧ o.dict = none
section
variable (K : PySem.W.Frag) (φ : Pl) (H : Hp)
mutual
def Rep (v : V) : D → Prop
  | .non => v = .non
  | .bl b => v = .bl b
  | .int i => v = .int i
  | .str x => v = .str x
  | .tup ds => ∃ p vs, v = .ref p ∧ (SqT K H p vs ∧ (pairsh ds = true → ExT H p)) ∧ RepAll vs ds
  | .lst ds => ∃ p vs, v = .ref p ∧ (H p = some (.lst vs) ∧ φ.out p) ∧ RepAll vs ds
  | .dct ks ds => ∃ p vs, v = .ref p ∧ (FzK H p (ks.zip vs) ∧ ks.length = ds.length) ∧ RepAll vs ds
  | .ref i => ∃ a, v = .ref a ∧ φ.pl[i]? = some a
  | .adr a => v = .ref a
  | .ty n => v = .ty n
  | .scr ns => ∃ p, v = .ref p ∧ SqF K H p (ns.map V.int)
def RepAll (vs : List V) : List D → Prop
  | [] => vs = []
  | d :: ds => ∃ v r, vs = v :: r ∧ Rep v d ∧ RepAll r ds
end
def ObjRep (a : Addr) : MO → Prop
  | .lst xs => ∃ vs, H a = some (.lst vs) ∧ RepAll K φ H vs xs
  | .dct ks xs => ∃ vs, H a = some (.dK (ks.zip vs)) ∧ ks.length = xs.length ∧ RepAll K φ H vs xs
  | .ins C ks xs => ∃ dx vs, H a = some (.ins C dx (ks.zip vs)) ∧ ks.length = xs.length ∧ RepAll K φ H vs xs
  | .gone => ∃ u, H a = some u
  | .flst xs => ∃ o vs, H a = some (.frz o (.lst vs)) ∧ RepAll K φ H vs xs
structure Rel (μ : Mem) : Prop where
  len : φ.pl.length = μ.length
  nd : φ.pl.Nodup
  av : ∀ b, φ.av b → b ∉ φ.pl ∧ ∃ o, H b = some o
  obj : ∀ (i : Nat) (a : Addr) (o : MO), φ.pl[i]? = some a → μ[i]? = some o → ObjRep K φ H a o
/-- the slots -/
structure RepL (σ : L2.St) (ρ : Loc) : Prop where
  len : σ.length = ρ.length
  at_ : ∀ (i : Nat) (d : D), ρ[i]? = some (some d) → ∃ v, σ[i]? = some (some v) ∧ Rep K φ H v d
end

/-- the heap goes on: what is not of the memory stays -/
structure Ext (φ : Pl) (H : Hp) (φ' : Pl) (H' : Hp) : Prop where
  pre : ∃ t, φ' = ⟨φ.pl ++ t, φ.av⟩
  keep : ∀ b o, H b = some o → b ∉ φ.pl → H' b = some o
  tups : ∀ b xs, H b = some (.tup xs) → H' b = some (.tup xs)
  frzs : ∀ b o u, H b = some (.frz o u) → H' b = some (.frz o u)
  new : ∀ b, b ∈ φ'.pl → b ∉ φ.pl → H b = none

section
variable {K : PySem.W.Frag} {φ φ' φ1 φ2 : Pl} {H H' H1 H2 : Hp} {μ μ' : Mem} {σ : L2.St} {ρ : Loc}
theorem Ext.refl : Ext φ H φ H := ⟨⟨[], by simp⟩, fun _ _ h _ => h, fun _ _ h => h, fun _ _ _ h => h, fun _ h n => absurd h n⟩
theorem Ext.trans (a : Ext φ H φ1 H1) (b : Ext φ1 H1 φ2 H2) : Ext φ H φ2 H2 := by
  obtain ⟨t1, e1⟩ := a.pre
  obtain ⟨t2, e2⟩ := b.pre
  refine ⟨⟨t1 ++ t2, by rw [e2, e1, List.append_assoc]⟩, fun c o h n => ?_, fun c xs h => b.tups c xs (a.tups c xs h), fun c o u h => b.frzs c o u (a.frzs c o u h), fun c h n => ?_⟩
  · refine b.keep c o (a.keep c o h n) fun h1 => ?_
    have := a.new c h1 n
    rw [h] at this; cases this
  · by_cases h1 : c ∈ φ1.pl
    · exact a.new c h1 n
    · have h2 := b.new c h h1
      cases q : H c with
      | none => rfl
      | some o =>
        have := a.keep c o q n
        rw [h2] at this; cases this
theorem Ext.get (e : Ext φ H φ' H') {i : Nat} {a : Addr} (h : φ.pl[i]? = some a) : φ'.pl[i]? = some a := by
  obtain ⟨t, rfl⟩ := e.pre
  show (φ.pl ++ t)[i]? = some a
  rw [List.getElem?_append_left (List.getElem?_eq_some_iff.mp h).1]; exact h
theorem Ext.av (e : Ext φ H φ' H') : φ'.av = φ.av := by obtain ⟨t, rfl⟩ := e.pre; rfl
theorem Ext.sqT (e : Ext φ H φ' H') {p : Addr} {vs : List V} (h : SqT K H p vs) : SqT K H' p vs := by
  rcases h with (h | ⟨o, h⟩) | h
  · exact .inl (.inl (e.tups _ _ h))
  · exact .inl (.inr ⟨o, e.frzs _ _ _ h⟩)
  · exact .inr h
theorem Ext.rdK (e : Ext φ H φ' H') {p : Addr} {u : HO} (n : p ∉ φ.pl) (h : H p = some u) : H' p = some u := by
  exact e.keep _ _ h n
/-- what Rep leans on -/
structure Leans (K : PySem.W.Frag) (φ : Pl) (H : Hp) (φ' : Pl) (H' : Hp) : Prop where
  pl : ∀ (i : Nat) a, φ.pl[i]? = some a → φ'.pl[i]? = some a
  tup : ∀ p vs, SqT K H p vs → SqT K H' p vs
  obj : ∀ p u, H p = some u → φ.out p → H' p = some u ∧ φ'.out p
  fz : ∀ p vs, SqF K H p vs → SqF K H' p vs
  ex : ∀ p, ExT H p → ExT H' p
  fd : ∀ p kvs, FzK H p kvs → FzK H' p kvs
mutual
theorem Rep.mono (l : Leans K φ H φ' H') : ∀ (d : D) {v : V}, Rep K φ H v d → Rep K φ' H' v d
  | .non, _, h => by unfold Rep at h ⊢; exact h
  | .bl _, _, h => by unfold Rep at h ⊢; exact h
  | .int _, _, h => by unfold Rep at h ⊢; exact h
  | .str _, _, h => by unfold Rep at h ⊢; exact h
  | .tup ds, _, h => by
    unfold Rep at h ⊢
    obtain ⟨p, vs, e, q, r⟩ := h
    exact ⟨p, vs, e, ⟨l.tup p vs q.1, fun z => l.ex p (q.2 z)⟩, RepAll.mono l ds r⟩
  | .lst ds, _, h => by
    unfold Rep at h ⊢
    obtain ⟨p, vs, e, ⟨q, n⟩, r⟩ := h
    exact ⟨p, vs, e, l.obj p _ q n, RepAll.mono l ds r⟩
  | .dct ks ds, _, h => by
    unfold Rep at h ⊢
    obtain ⟨p, vs, e, ⟨q, z⟩, r⟩ := h
    exact ⟨p, vs, e, ⟨l.fd p _ q, z⟩, RepAll.mono l ds r⟩
  | .ref i, _, h => by
    unfold Rep at h ⊢
    obtain ⟨a, e, q⟩ := h
    exact ⟨a, e, l.pl i a q⟩
  | .adr _, _, h => by unfold Rep at h ⊢; exact h
  | .ty _, _, h => by unfold Rep at h ⊢; exact h
  | .scr ns, _, h => by
    unfold Rep at h ⊢
    obtain ⟨p, e, q⟩ := h
    exact ⟨p, e, l.fz p _ q⟩
theorem RepAll.mono (l : Leans K φ H φ' H') : ∀ (ds : List D) {vs : List V}, RepAll K φ H vs ds → RepAll K φ' H' vs ds
  | [], _, h => by unfold RepAll at h ⊢; exact h
  | d :: ds, _, h => by
    unfold RepAll at h ⊢
    obtain ⟨v, r, e, h1, h2⟩ := h
    exact ⟨v, r, e, Rep.mono l d h1, RepAll.mono l ds h2⟩
end
theorem Ext.sqF (e : Ext φ H φ' H') {p : Addr} {vs : List V} (h : SqF K H p vs) : SqF K H' p vs := by
  rcases h with ⟨o, h⟩ | h
  · exact .inl ⟨o, e.frzs _ _ _ h⟩
  · exact .inr h
theorem Ext.exT (e : Ext φ H φ' H') {p : Addr} (h : ExT H p) : ExT H' p := let ⟨o, vs, a, b⟩ := h; ⟨o, vs, e.frzs _ _ _ a, b⟩
theorem Ext.fzK (e : Ext φ H φ' H') {p : Addr} {kvs : List (Key × V)} (h : FzK H p kvs) : FzK H' p kvs := let ⟨o, a⟩ := h; ⟨o, e.frzs _ _ _ a⟩
theorem Ext.leans (e : Ext φ H φ' H') : Leans K φ H φ' H' := by
  refine ⟨fun _ _ => e.get, fun _ _ => e.sqT, fun p u h n => ⟨e.rdK n.1 h, fun m => ?_, by rw [e.av]; exact n.2⟩, fun _ _ => e.sqF, fun _ => e.exT, fun _ _ => e.fzK⟩
  have z := e.new p m n.1
  rw [z] at h; cases h
theorem Rep.ext (e : Ext φ H φ' H') {d : D} {v : V} (h : Rep K φ H v d) : Rep K φ' H' v d := Rep.mono e.leans d h
theorem RepAll.ext (e : Ext φ H φ' H') {ds : List D} {vs : List V} (h : RepAll K φ H vs ds) : RepAll K φ' H' vs ds := RepAll.mono e.leans ds h
theorem RepL.ext (e : Ext φ H φ' H') (h : RepL K φ H σ ρ) : RepL K φ' H' σ ρ := ⟨h.len, fun i d q => let ⟨v, a, b⟩ := h.at_ i d q; ⟨v, a, b.ext e⟩⟩
theorem RepAll.length : ∀ {ds : List D} {vs : List V}, RepAll K φ H vs ds → vs.length = ds.length
  | [], _, h => by unfold RepAll at h; subst h; rfl
  | d :: ds, _, h => by
    unfold RepAll at h
    obtain ⟨v, r, rfl, _, h2⟩ := h
    simp [RepAll.length h2]
theorem RepAll.get : ∀ {ds : List D} {vs : List V} {i : Nat} {d : D}, RepAll K φ H vs ds → ds[i]? = some d → ∃ v, vs[i]? = some v ∧ Rep K φ H v d
  | [], _, _, _, _, e => by simp at e
  | d :: ds, _, 0, _, h, e => by
    unfold RepAll at h
    obtain ⟨v, r, rfl, h1, _⟩ := h
    simp at e; subst e
    exact ⟨v, rfl, h1⟩
  | d :: ds, _, i + 1, _, h, e => by
    unfold RepAll at h
    obtain ⟨v, r, rfl, _, h2⟩ := h
    obtain ⟨w, e1, e2⟩ := RepAll.get (i := i) h2 (by simpa using e)
    exact ⟨w, by simpa using e1, e2⟩
theorem RepAll.nil_ : RepAll K φ H [] [] := by unfold RepAll; rfl
theorem RepAll.cons_ {v : V} {d : D} {vs : List V} {ds : List D} (h : Rep K φ H v d) (t : RepAll K φ H vs ds) : RepAll K φ H (v :: vs) (d :: ds) := by
  unfold RepAll; exact ⟨v, vs, rfl, h, t⟩
theorem RepAll.append : ∀ {ds es : List D} {vs ws : List V}, RepAll K φ H vs ds → RepAll K φ H ws es → RepAll K φ H (vs ++ ws) (ds ++ es)
  | [], _, _, _, h, t => by unfold RepAll at h; subst h; exact t
  | d :: ds, _, _, _, h, t => by
    unfold RepAll at h
    obtain ⟨v, r, rfl, h1, h2⟩ := h
    exact RepAll.cons_ h1 (RepAll.append h2 t)
theorem RepAll.take : ∀ {ds : List D} {vs : List V} (n : Nat), RepAll K φ H vs ds → RepAll K φ H (vs.take n) (ds.take n)
  | _, _, 0, _ => by simpa using RepAll.nil_
  | [], _, _ + 1, h => by unfold RepAll at h; subst h; simpa using RepAll.nil_
  | d :: ds, _, n + 1, h => by
    unfold RepAll at h
    obtain ⟨v, r, rfl, h1, h2⟩ := h
    exact RepAll.cons_ h1 (RepAll.take n h2)
theorem RepAll.drop : ∀ {ds : List D} {vs : List V} (n : Nat), RepAll K φ H vs ds → RepAll K φ H (vs.drop n) (ds.drop n)
  | _, _, 0, h => h
  | [], _, _ + 1, h => by unfold RepAll at h; subst h; simpa using RepAll.nil_
  | d :: ds, _, n + 1, h => by
    unfold RepAll at h
    obtain ⟨v, r, rfl, h1, h2⟩ := h
    exact RepAll.drop n h2
theorem RepAll.set {v : V} {d : D} (h0 : Rep K φ H v d) : ∀ {ds : List D} {vs : List V} (n : Nat), RepAll K φ H vs ds → RepAll K φ H (vs.set n v) (ds.set n d)
  | [], _, _, h => by unfold RepAll at h; subst h; simpa using RepAll.nil_
  | e :: ds, _, 0, h => by
    unfold RepAll at h
    obtain ⟨w, r, rfl, h1, h2⟩ := h
    exact RepAll.cons_ h0 h2
  | e :: ds, _, n + 1, h => by
    unfold RepAll at h
    obtain ⟨w, r, rfl, h1, h2⟩ := h
    exact RepAll.cons_ h1 (RepAll.set h0 n h2)
theorem RepAll.reverse : ∀ {ds : List D} {vs : List V}, RepAll K φ H vs ds → RepAll K φ H vs.reverse ds.reverse
  | [], _, h => by unfold RepAll at h; subst h; exact RepAll.nil_
  | e :: ds, _, h => by
    unfold RepAll at h
    obtain ⟨w, r, rfl, h1, h2⟩ := h
    rw [List.reverse_cons, List.reverse_cons]
    exact RepAll.append (RepAll.reverse h2) (RepAll.cons_ h1 RepAll.nil_)
theorem RepL.set (h : RepL K φ H σ ρ) {i : Nat} {v : V} {d : D} (r : Rep K φ H v d) : RepL K φ H (σ.set i (some v)) (ρ.set i (some d)) := by
  refine ⟨by simp [h.len], fun j e q => ?_⟩
  by_cases hj : i = j
  · subst hj
    by_cases hl : i < ρ.length
    · rw [List.getElem?_set_self hl] at q
      cases q
      exact ⟨v, List.getElem?_set_self (by rw [h.len]; exact hl), r⟩
    · rw [List.getElem?_eq_none (by simpa using hl)] at q; cases q
  · rw [List.getElem?_set_ne hj] at q ⊢
    exact h.at_ j e q
/-- a new object, not of the memory -/
theorem Ext.fresh {p : Addr} {o : HO} (h : H p = none) : Ext φ H φ (upd H p o) :=
  ⟨⟨[], by simp⟩, fun b u q _ => by rw [upd_ne (ne_of_none q h)]; exact q, fun b u q => by rw [upd_ne (ne_of_none q h)]; exact q, fun b u x q => by rw [upd_ne (ne_of_none q h)]; exact q, fun _ q n => absurd q n⟩
theorem ObjRep.tracked {a : Addr} {o : MO} (h : ObjRep K φ H a o) : ∃ u, H a = some u := by
  cases o with
  | lst xs => obtain ⟨vs, e, _⟩ := h; exact ⟨_, e⟩
  | dct ks xs => obtain ⟨vs, e, _⟩ := h; exact ⟨_, e⟩
  | ins C ks xs => obtain ⟨dx, vs, e, _⟩ := h; exact ⟨_, e⟩
  | gone => exact h
  | flst xs => obtain ⟨od, vs, e, _⟩ := h; exact ⟨_, e⟩
theorem Rel.tracked (r : Rel K φ H μ) {b : Addr} (h : b ∈ φ.pl) : ∃ u, H b = some u := by
  obtain ⟨i, hi, e⟩ := List.mem_iff_getElem.mp h
  have hm : i < μ.length := by rw [← r.len]; exact hi
  exact (r.obj i b μ[i] (by rw [List.getElem?_eq_getElem hi, e]) (List.getElem?_eq_getElem hm)).tracked
theorem Rel.notin (r : Rel K φ H μ) {p : Addr} (h : H p = none) : p ∉ φ.pl := fun q => by
  obtain ⟨u, e⟩ := r.tracked q
  rw [h] at e; cases e
theorem Rel.out (r : Rel K φ H μ) {p : Addr} (h : H p = none) : φ.out p := ⟨r.notin h, fun q => by
  obtain ⟨_, o, e⟩ := r.av p q
  rw [h] at e; cases e⟩
theorem ObjRep.ext {a : Addr} {o : MO} (h : ObjRep K φ H a o) (e : Ext φ H φ' H') (k : H' a = H a) : ObjRep K φ' H' a o := by
  cases o with
  | lst xs => obtain ⟨vs, q, r⟩ := h; exact ⟨vs, by rw [k]; exact q, r.ext e⟩
  | dct ks xs => obtain ⟨vs, q, z, r⟩ := h; exact ⟨vs, by rw [k]; exact q, z, r.ext e⟩
  | ins C ks xs => obtain ⟨dx, vs, q, z, r⟩ := h; exact ⟨dx, vs, by rw [k]; exact q, z, r.ext e⟩
  | gone => exact ⟨h.choose, by rw [k]; exact h.choose_spec⟩
  | flst xs => obtain ⟨od, vs, q, r⟩ := h; exact ⟨od, vs, by rw [k]; exact q, r.ext e⟩
/-- a new untracked-by-memory object -/
theorem Rel.fresh (r : Rel K φ H μ) {p : Addr} {o : HO} (h : H p = none) : Rel K φ (upd H p o) μ :=
  ⟨r.len, r.nd, fun b q => ⟨(r.av b q).1, by obtain ⟨_, o', e⟩ := r.av b q; exact ⟨o', by rw [upd_ne (ne_of_none e h)]; exact e⟩⟩, fun i a u e1 e2 => (r.obj i a u e1 e2).ext (Ext.fresh h) (upd_ne (fun z => r.notin h (by rw [← z]; exact List.mem_of_getElem? e1)))⟩
/-- a new object of the memory -/
theorem Ext.push (r : Rel K φ H μ) {p : Addr} {o : HO} (h : H p = none) : Ext φ H (φ.push p) (upd H p o) := by
  refine ⟨⟨[p], rfl⟩, fun b u q _ => by rw [upd_ne (ne_of_none q h)]; exact q, fun b u q => by rw [upd_ne (ne_of_none q h)]; exact q, fun b u x q => by rw [upd_ne (ne_of_none q h)]; exact q, fun b q n => ?_⟩
  rcases List.mem_append.mp q with q | q
  · exact absurd q n
  · have e : b = p := by simpa using q
    rw [e]; exact h
theorem Rel.push (r : Rel K φ H μ) {p : Addr} {o : HO} {m : MO} (h : H p = none) (hm : ObjRep K (φ.push p) (upd H p o) p m) : Rel K (φ.push p) (upd H p o) (μ ++ [m]) := by
  refine ⟨by simp [r.len], ?_, fun b q => ⟨fun z => ?_, ?_⟩, fun i a u e1 e2 => ?_⟩
  rotate_left
  · rcases List.mem_append.mp z with z | z
    · exact (r.av b q).1 z
    · have e : b = p := by simpa using z
      obtain ⟨_, o', e'⟩ := r.av b q
      rw [e, h] at e'; cases e'
  · obtain ⟨_, o', e'⟩ := r.av b q
    exact ⟨o', by rw [upd_ne (ne_of_none e' h)]; exact e'⟩
  rotate_left
  · exact List.nodup_append.mpr ⟨r.nd, by simp, fun a ha b hb => by
      have e : b = p := by simpa using hb
      rw [e]; intro z; exact r.notin h (by rw [← z]; exact ha)⟩
  · have e1 : (φ.pl ++ [p])[i]? = some a := e1
    by_cases hi : i < φ.pl.length
    · rw [List.getElem?_append_left hi] at e1
      rw [List.getElem?_append_left (by rw [← r.len]; exact hi)] at e2
      exact (r.obj i a u e1 e2).ext (Ext.push r h) (upd_ne (fun z => r.notin h (by rw [← z]; exact List.mem_of_getElem? e1)))
    · rw [List.getElem?_append_right (Nat.le_of_not_lt hi)] at e1
      rw [List.getElem?_append_right (by rw [← r.len]; exact Nat.le_of_not_lt hi), ← r.len] at e2
      have z : i - φ.pl.length = 0 := by
        cases q : i - φ.pl.length with
        | zero => rfl
        | succ n => rw [q] at e1; simp at e1
      rw [z] at e1 e2
      simp at e1 e2
      subst e1; subst e2
      exact hm
/-- an object of the memory is written -/
theorem Ext.write (r : Rel K φ H μ) {i : Nat} {a : Addr} {o : HO} (hi : φ.pl[i]? = some a) (hn : ∀ xs, H a ≠ some (.tup xs)) (hf : ∀ o u, H a ≠ some (.frz o u)) : Ext φ H φ (upd H a o) := by
  refine ⟨⟨[], by simp⟩, fun b u q n => ?_, fun b u q => ?_, fun b u x q => ?_, fun _ q n => absurd q n⟩
  · rw [upd_ne]; exact q
    intro z; exact n (by rw [z]; exact List.mem_of_getElem? hi)
  · rw [upd_ne]; exact q
    intro z; rw [z] at q; exact hn _ q
  · rw [upd_ne]; exact q
    intro z; rw [z] at q; exact hf _ _ q
theorem Rel.write (r : Rel K φ H μ) {i : Nat} {a : Addr} {o : HO} {m : MO} (hi : φ.pl[i]? = some a) (e : Ext φ H φ (upd H a o)) (hm : ObjRep K φ (upd H a o) a m) : Rel K φ (upd H a o) (μ.set i m) := by
  refine ⟨by simp [r.len], r.nd, fun b q => ⟨(r.av b q).1, by obtain ⟨n, o', e'⟩ := r.av b q; exact ⟨o', e.keep b o' e' n⟩⟩, fun j b u e1 e2 => ?_⟩
  by_cases hj : i = j
  · subst hj
    rw [hi] at e1; cases e1
    have hl : i < μ.length := by rw [← r.len]; exact (List.getElem?_eq_some_iff.mp hi).1
    rw [List.getElem?_set_self hl] at e2
    cases e2
    exact hm
  · rw [List.getElem?_set_ne hj] at e2
    refine (r.obj j b u e1 e2).ext e (upd_ne fun z => ?_)
    subst z
    obtain ⟨h1, q1⟩ := List.getElem?_eq_some_iff.mp hi
    obtain ⟨h2, q2⟩ := List.getElem?_eq_some_iff.mp e1
    exact hj ((List.getElem_inj r.nd).mp (q1.trans q2.symm))
end
end Dp

namespace Dp
open PySem PySem.Spec PyProof.Rows L2

/-! ### plain data as the library's -/
mutual
def D.py : D → PyData
  | .non => .none
  | .bl b => .bool b
  | .int i => .int i
  | .str x => .str x
  | .tup xs => .tuple (pyAll xs)
  | .lst xs => .list (pyAll xs)
  | .dct _ _ => .none
  | .ref _ => .none
  | .adr _ => .none
  | .ty _ => .none
  | .scr _ => .none
def pyAll : List D → List PyData
  | [] => []
  | x :: xs => x.py :: pyAll xs
end
mutual
def D.pl : D → Bool
  | .tup xs => plAll xs
  | .lst xs => plAll xs
  | .dct _ _ => false
  | .ref _ => false
  | .adr _ => false
  | .ty _ => false
  | .scr _ => false
  | .non => true
  | .bl _ => true
  | .int _ => true
  | .str _ => true
def plAll : List D → Bool
  | [] => true
  | x :: xs => x.pl && plAll xs
end
theorem pyAll_map : ∀ xs : List D, pyAll xs = xs.map D.py
  | [] => rfl
  | x :: xs => by rw [pyAll, List.map_cons, pyAll_map xs]
theorem plAll_all : ∀ xs : List D, plAll xs = xs.all D.pl
  | [] => rfl
  | x :: xs => by rw [plAll, List.all_cons, plAll_all xs]
mutual
theorem plain_py : ∀ d : D, d.py.plain = true
  | .non => rfl
  | .bl _ => rfl
  | .int _ => rfl
  | .str _ => rfl
  | .tup xs => by rw [D.py, PyData.plain]; exact plainAll_py xs
  | .lst xs => by rw [D.py, PyData.plain]; exact plainAll_py xs
  | .dct _ _ => rfl
  | .ref _ => rfl
  | .adr _ => rfl
  | .ty _ => rfl
  | .scr _ => rfl
theorem plainAll_py : ∀ xs : List D, PyData.plainAll (pyAll xs) = true
  | [] => rfl
  | x :: xs => by rw [pyAll, PyData.plainAll, plain_py x, plainAll_py xs]; rfl
end
section
variable {X : Cx} {pins : List (Addr × Obj)} {σ : L2.St} {H : Hp} {s : Shared} {φ : Pl}
mutual
theorem rep_reads (I : Inv X pins σ H s) : ∀ (d : D) {v : V} {u : Value}, d.pl = true → Rep X.K φ H v d → RelV v u → ∃ as, Reads s.heap u d.py as
  | .non, _, _, _, h, r => by unfold Rep at h; subst h; cases r; exact ⟨_, .none⟩
  | .bl b, _, _, _, h, r => by unfold Rep at h; subst h; cases r; exact ⟨_, .bool b⟩
  | .int i, _, _, _, h, r => by unfold Rep at h; subst h; obtain ⟨t, rfl⟩ := r; exact ⟨_, .int i t⟩
  | .str x, _, _, _, h, r => by unfold Rep at h; subst h; obtain ⟨t, rfl⟩ := r; exact ⟨_, .str x t⟩
  | .tup ds, _, _, p, h, r => by
    unfold Rep at h
    obtain ⟨a, vs, rfl, ⟨q, _⟩, rs⟩ := h
    cases r
    obtain ⟨its, rv, ⟨o, e1, e2, n, e3⟩, _⟩ := I.tuple q
    obtain ⟨as, ra⟩ := rep_readsAll I ds (by rw [D.pl] at p; exact p) rs rv
    exact ⟨as, by rw [D.py]; exact .tuple e1 e2 e3 (by simpa using ra)⟩
  | .lst ds, _, _, p, h, r => by
    unfold Rep at h
    obtain ⟨a, vs, rfl, ⟨q, _⟩, rs⟩ := h
    cases r
    obtain ⟨its, rv, ⟨o, n, e1, e2, _, e3⟩, _⟩ := I.list (.of q)
    obtain ⟨as, ra⟩ := rep_readsAll I ds (by rw [D.pl] at p; exact p) rs rv
    exact ⟨_, by rw [D.py]; exact .list e1 e2 e3 (by simpa using ra)⟩
  | .dct _ _, _, _, p, _, _ => by rw [D.pl] at p; cases p
  | .ref _, _, _, p, _, _ => by rw [D.pl] at p; cases p
  | .adr _, _, _, p, _, _ => by rw [D.pl] at p; cases p
  | .ty _, _, _, p, _, _ => by rw [D.pl] at p; cases p
  | .scr _, _, _, p, _, _ => by rw [D.pl] at p; cases p
theorem rep_readsAll (I : Inv X pins σ H s) : ∀ (ds : List D) {vs : List V} {us : List Value}, plAll ds = true → RepAll X.K φ H vs ds → Vals vs us → ∃ as, ReadsAll s.heap us (pyAll ds) as
  | [], _, _, _, h, r => by unfold RepAll at h; subst h; cases r; exact ⟨_, .nil⟩
  | d :: ds, _, _, p, h, r => by
    unfold RepAll at h
    obtain ⟨v, q, rfl, h1, h2⟩ := h
    cases r with
    | cons r rr =>
      rw [plAll, Bool.and_eq_true] at p
      obtain ⟨as, a1⟩ := rep_reads I d p.1 h1 r
      obtain ⟨bs, a2⟩ := rep_readsAll I ds p.2 h2 rr
      exact ⟨_, by rw [pyAll]; exact .cons a1 a2⟩
end
end

/-! ### readings -/
section
variable (K : PySem.W.Frag) (W : WX) (σ : L2.St) (φ : Pl) (H : Hp)
def XRep (φ : Pl) (H : Hp) (x : Exn) (cls : Value) (dx : Option Addr) : Prop :=
  PySem.W.nsIn K mainGlobals (excName x.cls) = some (some cls) ∧ match x.fld with
    | none => dx = none
    | some fs => ∃ a vs, dx = some a ∧ H a = some (.xd ((fs.map (·.1)).zip vs)) ∧ RepAll K φ H vs (fs.map (·.2))
def ErrW (x : Exn) (μ' : Mem) : Prop := ∀ φ' H' cls dx, Ext φ H φ' H' → Rel K φ' H' μ' → XRep K φ' H' x cls dx → W cls dx σ H'
def OutG {α : Type} (G : α → Mem → Pl → Hp → Prop) : Res α → Prop
  | .ok a μ' => ∀ φ' H', Ext φ H φ' H' → Rel K φ' H' μ' → G a μ' φ' H'
  | .err x μ' => ErrW K W σ φ H x μ'
  | .bad => False
abbrev GV (Q : VK) : D → Mem → Pl → Hp → Prop := fun d _ φ' H' => ∀ v, Rep K φ' H' v d → Q v H'
abbrev GB (Q : Bool → Hp → Prop) : Bool → Mem → Pl → Hp → Prop := fun b _ _ H' => Q b H'
abbrev GA (Q : List V → Hp → Prop) : List D → Mem → Pl → Hp → Prop := fun ds _ φ' H' => ∀ vs, RepAll K φ' H' vs ds → Q vs H'
def lift (m : EE) : TE := fun σ H Q => ∃ φ ρ μ, RepL K φ H σ ρ ∧ Rel K φ H μ ∧ OutG K W σ φ H (GV K Q) (m ρ μ)
def liftB (m : EB) : TT := fun σ H Q => ∃ φ ρ μ, RepL K φ H σ ρ ∧ Rel K φ H μ ∧ OutG K W σ φ H (GB Q) (m ρ μ)
def liftA (m : EA) : TA := fun σ H Q => ∃ φ ρ μ, RepL K φ H σ ρ ∧ Rel K φ H μ ∧ OutG K W σ φ H (GA K Q) (m ρ μ)
end
section
variable {K : PySem.W.Frag} {W : WX} {σ : L2.St} {φ φ' : Pl} {H H' : Hp} {μ : Mem} {α β : Type}
theorem ErrW.ext {x : Exn} {μ' : Mem} (e : Ext φ H φ' H') (h : ErrW K W σ φ H x μ') : ErrW K W σ φ' H' x μ' := fun φ2 H2 cls dx e2 r q => h φ2 H2 cls dx (e.trans e2) r q
theorem OutG.ext {G : α → Mem → Pl → Hp → Prop} {r : Res α} (e : Ext φ H φ' H') (h : OutG K W σ φ H G r) : OutG K W σ φ' H' G r := by
  cases r with
  | ok a μ' => exact fun φ2 H2 e2 r => h φ2 H2 (e.trans e2) r
  | err x μ' => exact ErrW.ext e h
  | bad => exact h
theorem OutG.imp {G G' : α → Mem → Pl → Hp → Prop} {r : Res α} (h : OutG K W σ φ H G r) (i : ∀ a μ' φ' H', Ext φ H φ' H' → Rel K φ' H' μ' → G a μ' φ' H' → G' a μ' φ' H') : OutG K W σ φ H G' r := by
  cases r with
  | ok a μ' => exact fun φ2 H2 e2 r => i a μ' φ2 H2 e2 r (h φ2 H2 e2 r)
  | err x μ' => exact h
  | bad => exact h
theorem OutG.bind {G : β → Mem → Pl → Hp → Prop} {r : Res α} {f : α → Mem → Res β} (h : OutG K W σ φ H G (r.bind f)) :
    OutG K W σ φ H (fun a μ' φ' H' => OutG K W σ φ' H' G (f a μ')) r := by
  cases r with
  | ok a μ' => exact fun φ2 H2 e2 _ => OutG.ext e2 h
  | err x μ' => exact h
  | bad => exact h
end
section
variable {X : Cx} {W : WX} {pins : List (Addr × Obj)} {σ : L2.St} {H : Hp} {s : Shared} {φ : Pl} {μ : Mem} {ρ : Loc}
/-- run an expression -/
theorem use {e : Expr} {m : EE} {G : D → Mem → Pl → Hp → Prop} {P : Value → Shared → Prop} (h : PE X e (lift X.K W m)) (I : Inv X pins σ H s) (hl : RepL X.K φ H σ ρ) (hm : Rel X.K φ H μ)
    (o : OutG X.K W σ φ H G (m ρ μ))
    (k : ∀ u s' v H' d μ' φ', Inv X pins σ H' s' → RelV v u → Ext φ H φ' H' → Rel X.K φ' H' μ' → Rep X.K φ' H' v d → G d μ' φ' H' → P u s') :
    wpAny (model X.prog X.w) X.A (eval e X.env) P X.xe s := by
  refine thn (h.run pins s σ H (fun v H' => ∃ d μ' φ', Ext φ H φ' H' ∧ Rel X.K φ' H' μ' ∧ Rep X.K φ' H' v d ∧ G d μ' φ' H') I ⟨φ, ρ, μ, hl, hm, o.imp fun a μ' φ' H' e r g v rv => ⟨a, μ', φ', e, r, rv, g⟩⟩) ?_
  rintro u s' ⟨v, H', I', rv, d, μ', φ', e, r, rp, g⟩
  exact k u s' v H' d μ' φ' I' rv e r rp g
theorem useB {e : Expr} {m : EB} {G : Bool → Mem → Pl → Hp → Prop} {P : Bool → Shared → Prop} (h : PT X e (liftB X.K W m)) (I : Inv X pins σ H s) (hl : RepL X.K φ H σ ρ) (hm : Rel X.K φ H μ)
    (o : OutG X.K W σ φ H G (m ρ μ))
    (k : ∀ b s' H' μ' φ', Inv X pins σ H' s' → Ext φ H φ' H' → Rel X.K φ' H' μ' → G b μ' φ' H' → P b s') :
    wpAny (model X.prog X.w) X.A (isTrue e X.env (eval e X.env)) P X.xe s := by
  refine thn (h.run pins s σ H (fun b H' => ∃ μ' φ', Ext φ H φ' H' ∧ Rel X.K φ' H' μ' ∧ G b μ' φ' H') I ⟨φ, ρ, μ, hl, hm, o.imp fun a μ' φ' H' e r g => ⟨μ', φ', e, r, g⟩⟩) ?_
  rintro b s' ⟨H', I', μ', φ', e, r, g⟩
  exact k b s' H' μ' φ' I' e r g
theorem useA {es : List Expr} {pos : Pos} {m : EA} {G : List D → Mem → Pl → Hp → Prop} {P : List Value → Shared → Prop} (h : PA X es (liftA X.K W m)) (I : Inv X pins σ H s) (hl : RepL X.K φ H σ ρ) (hm : Rel X.K φ H μ)
    (o : OutG X.K W σ φ H G (m ρ μ))
    (k : ∀ us s' vs H' ds μ' φ', Inv X pins σ H' s' → Vals vs us → Ext φ H φ' H' → Rel X.K φ' H' μ' → RepAll X.K φ' H' vs ds → G ds μ' φ' H' → P us s') :
    wpAny (model X.prog X.w) X.A (spliced (backTo pos (starEach es X.env))) P X.xe s := by
  refine thn (h.run pos pins s σ H (fun vs H' => ∃ ds μ' φ', Ext φ H φ' H' ∧ Rel X.K φ' H' μ' ∧ RepAll X.K φ' H' vs ds ∧ G ds μ' φ' H') I ⟨φ, ρ, μ, hl, hm, o.imp fun a μ' φ' H' e r g v rv => ⟨a, μ', φ', e, r, rv, g⟩⟩) ?_
  rintro u s' ⟨v, H', I', rv, d, μ', φ', e, r, rp, g⟩
  exact k u s' v H' d μ' φ' I' rv e r rp g
/-- the end of a step -/
theorem fin {Q : VK} {d : D} {μ' : Mem} {φ' : Pl} {H' : Hp} {s' : Shared} {v : V} {u : Value} (o : OutG X.K W σ φ H (GV X.K Q) (.ok d μ')) (I : Inv X pins σ H' s') (e : Ext φ H φ' H') (r : Rel X.K φ' H' μ') (rv : RelV v u) (rp : Rep X.K φ' H' v d) :
    EP X pins σ Q u s' := ⟨v, H', I, rv, o φ' H' e r v rp⟩
theorem fin0 {Q : VK} {d : D} {s' : Shared} {v : V} {u : Value} (o : OutG X.K W σ φ H (GV X.K Q) (.ok d μ)) (I : Inv X pins σ H s') (r : Rel X.K φ H μ) (rv : RelV v u) (rp : Rep X.K φ H v d) :
    EP X pins σ Q u s' := fin o I Ext.refl r rv rp
end

/-! ### expressions -/
namespace E
def var (i : Nat) : EE := fun ρ μ => match ρ[i]? with
  | some (some d) => .ok d μ
  | _ => .bad
def val (d : D) : EE := fun _ μ => .ok d μ
def op2 (g : D → D → Mem → Res D) (a b : EE) : EE := fun ρ μ => (a ρ μ).bind fun x μ => (b ρ μ).bind fun y μ => g x y μ
def op1 (g : D → Mem → Res D) (a : EE) : EE := fun ρ μ => (a ρ μ).bind fun x μ => g x μ
def tru (d : D) : Mem → Res Bool := fun μ => match d with
  | .bl b => .ok b μ
  | .non => .ok false μ
  | .int i => .ok (i != 0) μ
  | .str x => if x.length ≤ 16777216 then .ok ((x.length : Int) != 0) μ else .bad
  | .tup xs => .ok (!xs.isEmpty) μ
  | .lst xs => .ok (!xs.isEmpty) μ
  | .ref i => match μ[i]? with
    | some (.lst xs) => .ok (!xs.isEmpty) μ
    | _ => .bad
  | _ => .bad
def and (a b : EE) : EE := fun ρ μ => (a ρ μ).bind fun x μ => match x with
  | .bl true => b ρ μ
  | .bl false => .ok (.bl false) μ
  | _ => .bad
def or (a b : EE) : EE := fun ρ μ => (a ρ μ).bind fun x μ => match x with
  | .bl false => b ρ μ
  | .bl true => .ok (.bl true) μ
  | _ => .bad
def not (a : EE) : EE := fun ρ μ => (a ρ μ).bind fun x μ => match x with
  | .bl b => .ok (.bl (!b)) μ
  | _ => .bad
def ite (t : EB) (a b : EE) : EE := fun ρ μ => (t ρ μ).bind fun c μ => bif c then a ρ μ else b ρ μ
def tup (as : EA) : EE := fun ρ μ => (as ρ μ).bind fun ds μ => if ds.length ≤ 16777216 then .ok (.tup ds) μ else .bad
def lst (as : EA) : EE := fun ρ μ => (as ρ μ).bind fun ds μ => if ds.length ≤ 16777216 then .ok (.lst ds) μ else .bad
/-- a list of the memory -/
def mlst (as : EA) : EE := fun ρ μ => (as ρ μ).bind fun ds μ => if ds.length ≤ 16777216 then .ok (.ref μ.length) (μ ++ [.lst ds]) else .bad
def chain (g g' : D → D → Mem → Res D) (a b c : EE) : EE := fun ρ μ => (a ρ μ).bind fun x μ => (b ρ μ).bind fun y μ => (g x y μ).bind fun z μ => match z with
  | .bl true => (c ρ μ).bind fun w μ => g' y w μ
  | .bl false => .ok (.bl false) μ
  | _ => .bad
end E
namespace A
def nil : EA := fun _ μ => .ok [] μ
def cons (a : EE) (as : EA) : EA := fun ρ μ => (a ρ μ).bind fun x μ => (as ρ μ).bind fun xs μ => .ok (x :: xs) μ
end A
namespace T
def and (a b : EB) : EB := fun ρ μ => (a ρ μ).bind fun x μ => bif x then b ρ μ else .ok false μ
def or (a b : EB) : EB := fun ρ μ => (a ρ μ).bind fun x μ => bif x then .ok true μ else b ρ μ
def not (a : EB) : EB := fun ρ μ => (a ρ μ).bind fun x μ => .ok (!x) μ
def of (a : EE) : EB := fun ρ μ => (a ρ μ).bind fun x μ => E.tru x μ
/-- a comparison's answer -/
def ofB (a : EE) : EB := fun ρ μ => (a ρ μ).bind fun x μ => match x with
  | .bl b => .ok b μ
  | _ => .bad
end T

section
variable {X : Cx} {W : WX} {e a b c : Expr} {m ma mb mc : EE} {pos : Pos}
theorem pe_anti {t t' : TE} (h : PE X e t) (i : ∀ σ H Q, t' σ H Q → t σ H Q) : PE X e t' := ⟨fun pins s σ H Q I q => h.run pins s σ H Q I (i σ H Q q)⟩
theorem se_val {v : V} {d : D} (h : PE X e (tC v)) (r : ∀ φ H, Rep X.K φ H v d) : PE X e (lift X.K W (E.val d)) := pe_anti h fun σ H Q ⟨φ, ρ, μ, hl, hm, o⟩ => o φ H Ext.refl hm v (r φ H)
theorem se_var {i : Nat} (h : PE X e (tVar i)) : PE X e (lift X.K W (E.var i)) := pe_anti h fun σ H Q ⟨φ, ρ, μ, hl, hm, o⟩ => by
  unfold E.var at o
  split at o
  · rename_i d q
    obtain ⟨v, e1, r⟩ := hl.at_ i d q
    exact ⟨v, e1, o φ H Ext.refl hm v r⟩
  · exact o.elim
/-- a two-place operation on data -/
def OpS (X : Cx) (W : WX) (f : Value → Value → Sem Value) (g : D → D → Mem → Res D) : Prop :=
  ∀ (pins : List (Addr × Obj)) (s : Shared) (σ : L2.St) (H : Hp) (φ : Pl) (μ : Mem) (x y : V) (v u : Value) (dx dy : D) (Q : VK), Inv X pins σ H s → RelV x v → RelV y u → Rel X.K φ H μ → Rep X.K φ H x dx → Rep X.K φ H y dy →
    OutG X.K W σ φ H (GV X.K Q) (g dx dy μ) → wpAny (model X.prog X.w) X.A (f v u) (EP X pins σ Q) X.xe s
def OpS1 (X : Cx) (W : WX) (f : Value → Sem Value) (g : D → Mem → Res D) : Prop :=
  ∀ (pins : List (Addr × Obj)) (s : Shared) (σ : L2.St) (H : Hp) (φ : Pl) (μ : Mem) (x : V) (v : Value) (dx : D) (Q : VK), Inv X pins σ H s → RelV x v → Rel X.K φ H μ → Rep X.K φ H x dx →
    OutG X.K W σ φ H (GV X.K Q) (g dx μ) → wpAny (model X.prog X.w) X.A (f v) (EP X pins σ Q) X.xe s
/-- two in a row -/
theorem use2 {pins : List (Addr × Obj)} {σ : L2.St} {H : Hp} {s : Shared} {φ : Pl} {μ : Mem} {ρ : Loc} {Q : Value → Shared → Prop} {G : D → Mem → Pl → Hp → Prop} {g : D → D → Mem → Res D} {f : Value → Value → Sem Value}
    (ha : PE X a (lift X.K W ma)) (hb : PE X b (lift X.K W mb)) (I : Inv X pins σ H s) (hl : RepL X.K φ H σ ρ) (hm : Rel X.K φ H μ) (o : OutG X.K W σ φ H G (E.op2 g ma mb ρ μ))
    (k : ∀ v u s2 x y H2 φ2 μ2 dx dy, Inv X pins σ H2 s2 → RelV x v → RelV y u → Ext φ H φ2 H2 → Rel X.K φ2 H2 μ2 → Rep X.K φ2 H2 x dx → Rep X.K φ2 H2 y dy → OutG X.K W σ φ2 H2 G (g dx dy μ2) → wpAny (model X.prog X.w) X.A (f v u) Q X.xe s2) :
    wpAny (model X.prog X.w) X.A (eval a X.env) (fun v s₁ => wpAny (model X.prog X.w) X.A (eval b X.env) (fun u s₂ => wpAny (model X.prog X.w) X.A (f v u) Q X.xe s₂) X.xe s₁) X.xe s :=
  use ha I hl hm (OutG.bind o) fun u1 s1 v1 H1 d1 μ1 φ1 I1 r1 e1 m1 p1 o1 => use hb I1 (hl.ext e1) m1 (OutG.bind o1) fun u2 s2 v2 H2 d2 μ2 φ2 I2 r2 e2 m2 p2 o2 =>
    k u1 u2 s2 v1 v2 H2 φ2 μ2 d1 d2 I2 r1 r2 (e1.trans e2) m2 (p1.ext e2) p2 o2
theorem se_bin {op : Operator} {g : D → D → Mem → Res D} (ho : OpS X W (binaryOp op) g) (ha : PE X a (lift X.K W ma)) (hb : PE X b (lift X.K W mb)) : PE X (.BinOp a op b pos) (lift X.K W (E.op2 g ma mb)) := by
  refine ⟨fun pins s σ H Q I ⟨φ, ρ, μ, hl, hm, o⟩ => wpAny_BinOp (use2 ha hb I hl hm o fun v u s2 x y H2 φ2 μ2 dx dy I2 rx ry e2 m2 px py o2 => ?_)⟩
  exact ho pins s2 σ H2 φ2 μ2 x y v u dx dy Q I2 rx ry m2 px py o2
theorem se_un {op : UnaryOp} {g : D → Mem → Res D} (ho : OpS1 X W (unaryOp op) g) (ha : PE X a (lift X.K W ma)) : PE X (.UnaryOp op a pos) (lift X.K W (E.op1 g ma)) := by
  refine ⟨fun pins s σ H Q I ⟨φ, ρ, μ, hl, hm, o⟩ => UnaryOp_ (use ha I hl hm (OutG.bind o) fun u s1 v H1 d μ1 φ1 I1 r1 e1 m1 p1 o1 => ?_)⟩
  exact ho pins s1 σ H1 φ1 μ1 v u d Q I1 r1 m1 p1 o1
theorem se_cmp {op : CmpOp} {g : D → D → Mem → Res D} (ho : OpS X W (compareOp op) g) (ha : PE X a (lift X.K W ma)) (hb : PE X b (lift X.K W mb)) (hm : behindInMarks op b = false) : PE X (.Compare a [op] [b] pos) (lift X.K W (E.op2 g ma mb)) := by
  refine ⟨fun pins s σ H Q I ⟨φ, ρ, μ, hl, hr, o⟩ => wpAny_Compare1 (use2 ha hb I hl hr o fun v u s2 x y H2 φ2 μ2 dx dy I2 rx ry e2 m2 px py o2 => ?_) hm⟩
  exact ho pins s2 σ H2 φ2 μ2 x y v u dx dy Q I2 rx ry m2 px py o2
theorem rep_bl {K : PySem.W.Frag} {φ : Pl} {H : Hp} {v : V} {b : Bool} (h : Rep K φ H v (.bl b)) : v = .bl b := by unfold Rep at h; exact h
theorem st_cmp {op : CmpOp} {g : D → D → Mem → Res D} (ho : OpS X W (compareOp op) g) (ha : PE X a (lift X.K W ma)) (hb : PE X b (lift X.K W mb)) (hm : behindInMarks op b = false) : PT X (.Compare a [op] [b] pos) (liftB X.K W (T.ofB (E.op2 g ma mb))) := by
  refine ⟨fun pins s σ H Q I ⟨φ, ρ, μ, hl, hr, o⟩ => wpAny_isTrue_Compare1 (use2 (Q := fun c s' => wpAny (model X.prog X.w) X.A (truthy c) (TP X pins σ Q) X.xe s') (f := compareOp op) ha hb I hl hr (OutG.bind o) fun v u s2 x y H2 φ2 μ2 dx dy I2 rx ry e2 m2 px py o2 => ?_) hm⟩
  refine thn (ho pins s2 σ H2 φ2 μ2 x y v u dx dy (fun z H' => ∃ k, z = .bl k ∧ Q k H') I2 rx ry m2 px py (o2.imp fun d μ' φ' H' e' r' o' w hw => ?_)) ?_
  · cases d with
    | bl k => exact ⟨k, rep_bl hw, o' φ' H' Ext.refl r'⟩
    | _ => exact o'.elim
  · rintro z s3 ⟨w, H', I3, r3, k, rfl, q⟩
    cases r3
    exact wpAny_truthy_bool ⟨H', I3, q⟩
theorem chain_run {op op' : CmpOp} {g g' : D → D → Mem → Res D} (ho : OpS X W (compareOp op) g) (ho' : OpS X W (compareOp op') g') (ha : PE X a (lift X.K W ma)) (hb : PE X b (lift X.K W mb)) (hc : PE X c (lift X.K W mc))
    (hm : lastMarks [op, op'] [b, c] = false) : PE X (.Compare a [op, op'] [b, c] pos) (lift X.K W (E.chain g g' ma mb mc)) := by
  refine ⟨fun pins s σ H Q I ⟨φ, ρ, μ, hl, hr, o⟩ => ?_⟩
  refine Compare_chain (use ha I hl hr (OutG.bind o) fun v s1 x H1 d1 μ1 φ1 I1 r1 e1 m1 p1 o1 => chain_link (use hb I1 (hl.ext e1) m1 (OutG.bind o1) fun u s2 y H2 d2 μ2 φ2 I2 r2 e2 m2 p2 o2 => ?_)) hm
  refine thn (ho pins s2 σ H2 φ2 μ2 x y v u d1 d2 (fun z H' => ∃ k μ' φ', z = .bl k ∧ Ext φ2 H2 φ' H' ∧ Rel X.K φ' H' μ' ∧ (if k = true then OutG X.K W σ φ' H' (GV X.K Q) ((mc ρ μ').bind fun w μ => g' d2 w μ) else Q (.bl false) H')) I2 r1 r2 m2 (p1.ext e2) p2 ((OutG.bind o2).imp fun d μ' φ' H' e' r' o' w hw => ?_)) ?_
  · cases d with
    | bl k =>
      cases k with
      | true => exact ⟨true, μ', φ', rep_bl hw, e', r', by simpa using o'⟩
      | false => exact ⟨false, μ', φ', rep_bl hw, e', r', by simpa using o' φ' H' Ext.refl r' (.bl false) (by unfold Rep; rfl)⟩
    | _ => exact o'.elim
  · rintro z s3 ⟨w, H3, I3, r3, k, μ3, φ3, rfl, e3, m3, q⟩
    cases r3
    refine wpAny_truthy_bool ?_
    cases k with
    | false => exact ite_ff ⟨.bl false, H3, I3, rfl, by simpa using q⟩
    | true =>
      have q' : OutG X.K W σ φ3 H3 (GV X.K Q) ((mc ρ μ3).bind fun w μ => g' d2 w μ) := by simpa using q
      exact ite_tt (chain_last (use hc I3 ((hl.ext e1).ext (e2.trans e3)) m3 (OutG.bind q') fun w' s4 z' H4 d4 μ4 φ4 I4 r4 e4 m4 p4 o4 => ho' pins s4 σ H4 φ4 μ4 y z' u w' d2 d4 Q I4 r2 r4 m4 (p2.ext (e3.trans e4)) p4 o4))
theorem se_and {rest : List Expr} (ha : PE X a (lift X.K W ma)) (hb : PE X (.BoolOp .And (b :: rest) pos) (lift X.K W mb)) : PE X (.BoolOp .And (a :: b :: rest) pos) (lift X.K W (E.and ma mb)) := by
  refine ⟨fun pins s σ H Q I ⟨φ, ρ, μ, hl, hm, o⟩ => BoolOp_and (use ha I hl hm (OutG.bind o) fun u s1 v H1 d μ1 φ1 I1 r1 e1 m1 p1 o1 => ?_)⟩
  cases d with
  | bl k =>
    cases rep_bl p1
    cases r1
    refine wpAny_truthy_bool ?_
    cases k with
    | true => exact hb.run pins s1 σ H1 Q I1 ⟨φ1, ρ, μ1, hl.ext e1, m1, o1⟩
    | false => exact fin0 (v := .bl false) o1 I1 m1 rfl p1
  | _ => exact o1.elim
theorem se_or {rest : List Expr} (ha : PE X a (lift X.K W ma)) (hb : PE X (.BoolOp .Or (b :: rest) pos) (lift X.K W mb)) : PE X (.BoolOp .Or (a :: b :: rest) pos) (lift X.K W (E.or ma mb)) := by
  refine ⟨fun pins s σ H Q I ⟨φ, ρ, μ, hl, hm, o⟩ => BoolOp_or (use ha I hl hm (OutG.bind o) fun u s1 v H1 d μ1 φ1 I1 r1 e1 m1 p1 o1 => ?_)⟩
  cases d with
  | bl k =>
    cases rep_bl p1
    cases r1
    refine wpAny_truthy_bool ?_
    cases k with
    | false => exact hb.run pins s1 σ H1 Q I1 ⟨φ1, ρ, μ1, hl.ext e1, m1, o1⟩
    | true => exact fin0 (v := .bl true) o1 I1 m1 rfl p1
  | _ => exact o1.elim
/-- a value's truth -/
theorem tru_run {pins : List (Addr × Obj)} {σ : L2.St} {H : Hp} {s : Shared} {φ : Pl} {μ : Mem} {v : V} {u : Value} {d : D} {Q : Bool → Hp → Prop} (I : Inv X pins σ H s) (rv : RelV v u) (hm : Rel X.K φ H μ) (rp : Rep X.K φ H v d)
    (o : OutG X.K W σ φ H (GB Q) (E.tru d μ)) : wpAny (model X.prog X.w) X.A (truthy u) (TP X pins σ Q) X.xe s := by
  refine tru_ok pins s σ H v u Q I rv ?_
  unfold E.tru at o
  cases d with
  | bl k => exact ⟨k, by unfold Rep at rp; subst rp; rfl, o φ H Ext.refl hm⟩
  | non => exact ⟨false, by unfold Rep at rp; subst rp; rfl, o φ H Ext.refl hm⟩
  | int i => exact ⟨_, by unfold Rep at rp; subst rp; rfl, o φ H Ext.refl hm⟩
  | str x =>
    dsimp only at o
    split at o
    · rename_i h
      exact ⟨_, by unfold Rep at rp; subst rp; exact ⟨by rw [sizeLine_eq]; exact h, rfl⟩, o φ H Ext.refl hm⟩
    · exact o.elim
  | tup xs =>
    unfold Rep at rp
    obtain ⟨p, vs, rfl, ⟨q, _⟩, rs⟩ := rp
    have e : vs.isEmpty = xs.isEmpty := by have := rs.length; cases vs <;> cases xs <;> simp at this ⊢
    exact ⟨!xs.isEmpty, .inr (.inl ⟨vs, q, by rw [e]⟩), o φ H Ext.refl hm⟩
  | lst xs =>
    unfold Rep at rp
    obtain ⟨p, vs, rfl, ⟨q, _⟩, rs⟩ := rp
    have e : vs.isEmpty = xs.isEmpty := by have := rs.length; cases vs <;> cases xs <;> simp at this ⊢
    exact ⟨!xs.isEmpty, .inl ⟨vs, .of q, by rw [e]⟩, o φ H Ext.refl hm⟩
  | ref i =>
    unfold Rep at rp
    obtain ⟨p, rfl, q⟩ := rp
    dsimp only at o
    split at o
    · rename_i xs hx
      obtain ⟨vs, h1, rs⟩ := hm.obj i p _ q hx
      have e : vs.isEmpty = xs.isEmpty := by have := rs.length; cases vs <;> cases xs <;> simp at this ⊢
      exact ⟨!xs.isEmpty, .inl ⟨vs, .of h1, by rw [e]⟩, o φ H Ext.refl hm⟩
    · exact o.elim
  | dct ks xs => exact o.elim
  | adr a => exact o.elim
  | ty n => exact o.elim
  | scr n => exact o.elim
theorem st_of (ha : PE X a (lift X.K W ma)) (he : ∀ whole, isTrue a X.env whole = (do let v ← whole; standAt a.pos; holding [v] (truthy v))) : PT X a (liftB X.K W (T.of ma)) := by
  refine ⟨fun pins s σ H Q I ⟨φ, ρ, μ, hl, hm, o⟩ => isTrue_plain (use ha I hl hm (OutG.bind o) fun u s1 v H1 d μ1 φ1 I1 r1 e1 m1 p1 o1 => ?_) (he _)⟩
  exact tru_run I1 r1 m1 p1 o1
theorem st_not {ta : EB} (ha : PT X a (liftB X.K W ta)) : PT X (.UnaryOp .Not a pos) (liftB X.K W (T.not ta)) := by
  refine ⟨fun pins s σ H Q I ⟨φ, ρ, μ, hl, hm, o⟩ => isTrue_not (useB ha I hl hm (OutG.bind o) fun b s' H' μ' φ' I' e' r' o' => ?_)⟩
  exact ⟨H', I', o' φ' H' Ext.refl r'⟩
theorem se_not {ta : EB} (ha : PE X a (lift X.K W ma)) : PE X (.UnaryOp .Not a pos) (lift X.K W (fun ρ μ => (T.of ma ρ μ).bind fun b μ => .ok (.bl (!b)) μ)) := by
  refine ⟨fun pins s σ H Q I ⟨φ, ρ, μ, hl, hm, o⟩ => UnaryOp_ (use ha I hl hm (OutG.bind (OutG.bind o)) fun u s1 v H1 d μ1 φ1 I1 r1 e1 m1 p1 o1 => ?_)⟩
  refine not_of (thn (tru_run (Q := fun b H' => Q (.bl (!b)) H') I1 r1 m1 p1 (o1.imp fun b μ' φ' H' e' r' o' => ?_)) ?_)
  · exact o' φ' H' Ext.refl r' (.bl (!b)) (by unfold Rep; rfl)
  · rintro b s2 ⟨H2, I2, q⟩
    exact ⟨.bl (!b), H2, I2, rfl, q⟩
structure PWs (X : Cx) (op : BoolOp) (es : List Expr) (t : TT) : Prop where
  run : ∀ (pins : List (Addr × Obj)) (s : Shared) (σ : L2.St) (H : Hp) (Q : Bool → Hp → Prop), Inv X pins σ H s → t σ H Q → wpAny (model X.prog X.w) X.A (allTrue op es X.env) (TP X pins σ Q) X.xe s
theorem sw_one {op : BoolOp} {ta : EB} (ha : PT X a (liftB X.K W ta)) : PWs X op [a] (liftB X.K W ta) := by
  refine ⟨fun pins s σ H Q I h => ?_⟩
  cases op with
  | And => exact (pw_and1 (pos := ⟨0, 0, 0, 0⟩) ha).run (pure .none) pins s σ H Q I h
  | Or => exact (pw_or1 (pos := ⟨0, 0, 0, 0⟩) ha).run (pure .none) pins s σ H Q I h
theorem sw_and {ta tb : EB} {rest : List Expr} (ha : PT X a (liftB X.K W ta)) (hb : PWs X .And (b :: rest) (liftB X.K W tb)) : PWs X .And (a :: b :: rest) (liftB X.K W (T.and ta tb)) := by
  refine ⟨fun pins s σ H Q I ⟨φ, ρ, μ, hl, hm, o⟩ => isTrue_and (pos := ⟨0, 0, 0, 0⟩) (whole := pure .none) (useB ha I hl hm (OutG.bind o) fun c s' H' μ' φ' I' e' r' o' => ?_)⟩
  cases c with
  | true => exact hb.run pins s' σ H' Q I' ⟨φ', ρ, μ', hl.ext e', r', o'⟩
  | false => exact ⟨H', I', o' φ' H' Ext.refl r'⟩
theorem sw_or {ta tb : EB} {rest : List Expr} (ha : PT X a (liftB X.K W ta)) (hb : PWs X .Or (b :: rest) (liftB X.K W tb)) : PWs X .Or (a :: b :: rest) (liftB X.K W (T.or ta tb)) := by
  refine ⟨fun pins s σ H Q I ⟨φ, ρ, μ, hl, hm, o⟩ => isTrue_or (pos := ⟨0, 0, 0, 0⟩) (whole := pure .none) (useB ha I hl hm (OutG.bind o) fun c s' H' μ' φ' I' e' r' o' => ?_)⟩
  cases c with
  | false => exact hb.run pins s' σ H' Q I' ⟨φ', ρ, μ', hl.ext e', r', o'⟩
  | true => exact ⟨H', I', o' φ' H' Ext.refl r'⟩
theorem st_bool {op : BoolOp} {es : List Expr} {t : TT} (h : PWs X op es t) : PT X (.BoolOp op es pos) t := ⟨fun pins s σ H Q I q => h.run pins s σ H Q I q⟩
theorem se_ite {tc : EB} (hc : PT X c (liftB X.K W tc)) (ha : PE X a (lift X.K W ma)) (hb : PE X b (lift X.K W mb)) : PE X (.IfExp c a b pos) (lift X.K W (E.ite tc ma mb)) := by
  refine ⟨fun pins s σ H Q I ⟨φ, ρ, μ, hl, hm, o⟩ => wpAny_IfExp (useB hc I hl hm (OutG.bind o) fun c s' H' μ' φ' I' e' r' o' => ?_)⟩
  cases c with
  | true => exact ha.run pins s' σ H' Q I' ⟨φ', ρ, μ', hl.ext e', r', o'⟩
  | false => exact hb.run pins s' σ H' Q I' ⟨φ', ρ, μ', hl.ext e', r', o'⟩
theorem sa_nil : PA X [] (liftA X.K W A.nil) := by
  refine ⟨fun pos pins s σ H Q I ⟨φ, ρ, μ, hl, hm, o⟩ => Calls.spliced_nil ⟨[], H, I, .nil, o φ H Ext.refl hm [] RepAll.nil_⟩⟩
theorem sa_cons {es : List Expr} {ms : EA} (ha : PE X e (lift X.K W m)) (hr : PA X es (liftA X.K W ms)) (hs : starEach (e :: es) X.env = (false, eval e X.env) :: starEach es X.env) : PA X (e :: es) (liftA X.K W (A.cons m ms)) := by
  refine ⟨fun pos pins s σ H Q I ⟨φ, ρ, μ, hl, hm, o⟩ => ?_⟩
  rw [hs]
  show wpAny _ _ (spliced ((false, eval e X.env) :: backTo pos (starEach es X.env))) _ _ s
  refine Calls.spliced_cons (use ha I hl hm (OutG.bind o) fun u s1 v H1 d μ1 φ1 I1 r1 e1 m1 p1 o1 => ?_)
  exact useA hr I1 (hl.ext e1) m1 (OutG.bind o1) fun us s2 vs H2 ds μ2 φ2 I2 r2 e2 m2 p2 o2 => ⟨v :: vs, H2, I2, .cons r1 r2, o2 φ2 H2 Ext.refl m2 (v :: vs) (RepAll.cons_ (p1.ext e2) p2)⟩
theorem rep_tup {K : PySem.W.Frag} {φ : Pl} {H : Hp} {p : Addr} {vs : List V} {ds : List D} (h : SqT K H p vs) (r : RepAll K φ H vs ds) (x : pairsh ds = true → ExT H p) : Rep K φ H (.ref p) (.tup ds) := by unfold Rep; exact ⟨p, vs, rfl, ⟨h, x⟩, r⟩
/-- a tuple that stands to the letter -/
theorem rep_tupF {K : PySem.W.Frag} {φ : Pl} {H : Hp} {p : Addr} {o : Obj} {vs : List V} {ds : List D} (h : H p = some (.frz o (.tup vs))) (d : o.dict = none) (r : RepAll K φ H vs ds) : Rep K φ H (.ref p) (.tup ds) := rep_tup (.inl (.inr ⟨o, h⟩)) r fun _ => ⟨o, vs, h, d⟩
/-- (e, ..): told to the letter -/
def tTupF (t : TA) : TE := fun σ H Q => t σ H fun xs H1 => xs.length ≤ sizeLine ∧ ∀ p o, H1 p = none → o.dict = none → Q (.ref p) (upd H1 p (.frz o (.tup xs)))
theorem pe_tupF {X : Cx} {es : List Expr} {pos : Pos} {t : TA} {x1} (h : PA X es t) : PE X (.Tuple es x1 pos) (tTupF t) := by
  refine ⟨fun pins s σ H Q I hq => ?_⟩
  refine wpAny_Tuple_spliced (thn (h.run pos pins s σ H _ I hq) fun us s1 ⟨xs, H1, I1, r, z, q⟩ => ⟨by rw [← r.length]; exact z, ?_⟩)
  have hf : H1 s1.heap.objs.size = none := I1.hok.fresh (Nat.le_refl _)
  refine ⟨.ref s1.heap.objs.size, upd H1 s1.heap.objs.size (.frz { cls := .type "tuple", data := .seq us.toArray } (.tup xs)), I1.laid (t' := s1.toks) (fun b u e => Heap.get?_push_of_some _ e) (Nat.le_refl _) ?_, rfl, q _ _ hf rfl⟩
  exact ⟨Heap.get?_push_size _ rfl, z, us, r, ⟨_, Heap.get?_push_size _ rfl, rfl, _, rfl⟩⟩
theorem rep_lst {K : PySem.W.Frag} {φ : Pl} {H : Hp} {p : Addr} {vs : List V} {ds : List D} (h : H p = some (.lst vs)) (n : φ.out p) (r : RepAll K φ H vs ds) : Rep K φ H (.ref p) (.lst ds) := by unfold Rep; exact ⟨p, vs, rfl, ⟨h, n⟩, r⟩
theorem se_tup {es : List Expr} {ms : EA} {x1} (ha : PA X es (liftA X.K W ms)) : PE X (.Tuple es x1 pos) (lift X.K W (E.tup ms)) := by
  refine ⟨fun pins s σ H Q I ⟨φ, ρ, μ, hl, hm, o⟩ => ?_⟩
  refine (pe_tupF ha).run pins s σ H Q I ⟨φ, ρ, μ, hl, hm, (OutG.bind o).imp fun ds μ' φ' H' e r o' vs rs => ?_⟩
  split at o'
  · rename_i hz
    exact ⟨by rw [rs.length, sizeLine_eq]; exact hz, fun p o hp hd => o' φ' _ (Ext.fresh hp) (r.fresh hp) _ (rep_tupF upd_same hd (rs.ext (Ext.fresh hp)))⟩
  · exact o'.elim
theorem se_lst {es : List Expr} {ms : EA} (ha : PA X es (liftA X.K W ms)) : PE X (.List es pos) (lift X.K W (E.lst ms)) := by
  refine ⟨fun pins s σ H Q I ⟨φ, ρ, μ, hl, hm, o⟩ => ?_⟩
  refine (pe_lst ha).run pins s σ H Q I ⟨φ, ρ, μ, hl, hm, (OutG.bind o).imp fun ds μ' φ' H' e r o' vs rs => ?_⟩
  split at o'
  · rename_i hz
    exact ⟨by rw [rs.length, sizeLine_eq]; exact hz, fun p hp => o' φ' _ (Ext.fresh hp) (r.fresh hp) _ (rep_lst upd_same (r.out hp) (rs.ext (Ext.fresh hp)))⟩
  · exact o'.elim
theorem rep_new {K : PySem.W.Frag} {φ : Pl} {H : Hp} {μ : Mem} {p : Addr} (r : Rel K φ H μ) {H' : Hp} : Rep K (φ.push p) H' (.ref p) (.ref μ.length) := by
  unfold Rep
  exact ⟨p, rfl, by rw [← r.len]; simp⟩
theorem se_mlst {es : List Expr} {ms : EA} (ha : PA X es (liftA X.K W ms)) : PE X (.List es pos) (lift X.K W (E.mlst ms)) := by
  refine ⟨fun pins s σ H Q I ⟨φ, ρ, μ, hl, hm, o⟩ => ?_⟩
  refine (pe_lst ha).run pins s σ H Q I ⟨φ, ρ, μ, hl, hm, (OutG.bind o).imp fun ds μ' φ' H' e r o' vs rs => ?_⟩
  split at o'
  · rename_i hz
    refine ⟨by rw [rs.length, sizeLine_eq]; exact hz, fun p hp => o' (φ'.push p) _ (Ext.push r hp) (r.push hp ⟨vs, upd_same, rs.ext (Ext.push r hp)⟩) _ (rep_new r)⟩
  · exact o'.elim
end
end Dp

namespace Dp
open PySem PySem.Spec PyProof.Rows L2

/-! ### statements -/
abbrev SR := Option (Fl × Mem)
abbrev EG := D → Loc → Mem → Option (Dp.Loc × Mem)
abbrev EGs := List D → Dp.Loc → Mem → Option (Dp.Loc × Mem)
def ofO (r : Option (Dp.Loc × Mem)) (f : Dp.Loc → Mem → SR) : SR := match r with
  | some (ρ, μ) => f ρ μ
  | none => none
def ofR {α : Type} (r : Res α) (ρ : Loc) (f : α → Mem → SR) : SR := match r with
  | .ok a μ => f a μ
  | .err x μ => some (.exc x ρ, μ)
  | .bad => none
namespace S
def nil : ES := fun ρ μ => some (.next ρ, μ)
def seq (a b : ES) : ES := fun ρ μ => match a ρ μ with
  | some (.next ρ', μ') => b ρ' μ'
  | r => r
def expr (e : EE) : ES := fun ρ μ => ofR (e ρ μ) ρ fun _ μ => some (.next ρ, μ)
def ret (e : EE) : ES := fun ρ μ => ofR (e ρ μ) ρ fun d μ => some (.ret d, μ)
def retN : ES := fun _ μ => some (.ret .non, μ)
def brk : ES := fun ρ μ => some (.brk ρ, μ)
def cont : ES := fun ρ μ => some (.cont ρ, μ)
def asg (e : EE) (g : EG) : ES := fun ρ μ => ofR (e ρ μ) ρ fun d μ => ofO (g d ρ μ) fun ρ' μ => some (.next ρ', μ)
def ite (t : EB) (a b : ES) : ES := fun ρ μ => ofR (t ρ μ) ρ fun c μ => bif c then a ρ μ else b ρ μ
def aug (i : Nat) (g : D → D → Mem → Res D) (e : EE) : ES := fun ρ μ => match ρ[i]? with
  | some (some x) => ofR (e ρ μ) ρ fun y μ => ofR (g x y μ) ρ fun z μ => some (.next (ρ.set i (some z)), μ)
  | _ => none
def loop (g : EG) (b : ES) : List D → Loc → Mem → SR
  | [], ρ, μ => some (.next ρ, μ)
  | d :: ds, ρ, μ => ofO (g d ρ μ) fun ρ1 μ => match b ρ1 μ with
    | some (.next ρ2, μ2) => loop g b ds ρ2 μ2
    | some (.cont ρ2, μ2) => loop g b ds ρ2 μ2
    | some (.brk ρ2, μ2) => some (.next ρ2, μ2)
    | r => r
def for_ (q : EA) (g : EG) (b : ES) : ES := fun ρ μ => ofR (q ρ μ) ρ fun ds μ => loop g b ds ρ μ
def wloop (t : EB) (b : ES) : Nat → Loc → Mem → SR
  | 0, _, _ => none
  | n + 1, ρ, μ => ofR (t ρ μ) ρ fun c μ => bif c then (match b ρ μ with
    | some (.next ρ2, μ2) => wloop t b n ρ2 μ2
    | some (.cont ρ2, μ2) => wloop t b n ρ2 μ2
    | some (.brk ρ2, μ2) => some (.next ρ2, μ2)
    | r => r) else some (.next ρ, μ)
/-- at most so many turns -/
def while_ (n : Nat) (t : EB) (b : ES) : ES := wloop t b n
end S
namespace G
def name (i : Nat) : EG := fun d ρ μ => some (ρ.set i (some d), μ)
def nil : EGs := fun ds ρ μ => match ds with
  | [] => some (ρ, μ)
  | _ => none
def cons (g : EG) (gs : EGs) : EGs := fun ds ρ μ => match ds with
  | d :: ds => (match g d ρ μ with
    | some (ρ, μ) => gs ds ρ μ
    | none => none)
  | [] => none
def tup (gs : EGs) : EG := fun d ρ μ => match d with
  | .tup ds => gs ds ρ μ
  | .lst ds => gs ds ρ μ
  | _ => none
end G

section
variable (K : PySem.W.Frag) (W : WX) (De : Ends) (φ : Pl) (H : Hp)
def OutS : SR → Prop
  | some (.next ρ, μ') => ∀ φ' σ' H', Ext φ H φ' H' → Rel K φ' H' μ' → RepL K φ' H' σ' ρ → De.nx σ' H'
  | some (.brk ρ, μ') => ∀ φ' σ' H', Ext φ H φ' H' → Rel K φ' H' μ' → RepL K φ' H' σ' ρ → De.bk σ' H'
  | some (.cont ρ, μ') => ∀ φ' σ' H', Ext φ H φ' H' → Rel K φ' H' μ' → RepL K φ' H' σ' ρ → De.ct σ' H'
  | some (.ret d, μ') => ∀ φ' v H', Ext φ H φ' H' → Rel K φ' H' μ' → Rep K φ' H' v d → De.rt v H'
  | some (.exc x ρ, μ') => ∀ φ' σ' H' cls dx, Ext φ H φ' H' → Rel K φ' H' μ' → RepL K φ' H' σ' ρ → XRep K φ' H' x cls dx → W cls dx σ' H'
  | none => False
end
def liftS (K : PySem.W.Frag) (W : WX) (m : ES) : TS := fun De σ H => ∃ φ ρ μ, RepL K φ H σ ρ ∧ Rel K φ H μ ∧ OutS K W De φ H (m ρ μ)
def OutO (K : PySem.W.Frag) (φ : Pl) (H : Hp) (G : Dp.Loc → Mem → Pl → Hp → Prop) : Option (Dp.Loc × Mem) → Prop
  | some (ρ, μ') => ∀ φ' H', Ext φ H φ' H' → Rel K φ' H' μ' → G ρ μ' φ' H'
  | none => False
/-- a target: vs are the slots that it stores -/
def liftG (K : PySem.W.Frag) (vs : List Nat) (g : EG) : TG := fun v σ H Q => ∃ φ ρ μ d, RepL K φ H σ ρ ∧ Rel K φ H μ ∧ Rep K φ H v d ∧ OutO K φ H (fun ρ' _ φ' H' => ∀ σ', RepL K φ' H' σ' ρ' → wipe σ' vs = wipe σ vs → Q σ' H') (g d ρ μ)
def liftGs (K : PySem.W.Frag) (vs : List Nat) (g : EGs) : TGs := fun us σ H Q => ∃ φ ρ μ ds, RepL K φ H σ ρ ∧ Rel K φ H μ ∧ RepAll K φ H us ds ∧ OutO K φ H (fun ρ' _ φ' H' => ∀ σ', RepL K φ' H' σ' ρ' → wipe σ' vs = wipe σ vs → Q σ' H') (g ds ρ μ)

section
variable {K : PySem.W.Frag} {W : WX} {De : Ends} {φ φ' : Pl} {H H' : Hp} {σ : L2.St} {μ : Mem} {ρ : Loc}
theorem OutS.ext {r : SR} (e : Ext φ H φ' H') (h : OutS K W De φ H r) : OutS K W De φ' H' r := by
  match r, h with
  | some (.next ρ, μ'), h => exact fun φ2 σ2 H2 e2 => h φ2 σ2 H2 (e.trans e2)
  | some (.brk ρ, μ'), h => exact fun φ2 σ2 H2 e2 => h φ2 σ2 H2 (e.trans e2)
  | some (.cont ρ, μ'), h => exact fun φ2 σ2 H2 e2 => h φ2 σ2 H2 (e.trans e2)
  | some (.ret d, μ'), h => exact fun φ2 σ2 H2 e2 => h φ2 σ2 H2 (e.trans e2)
  | some (.exc x ρ, μ'), h => exact fun φ2 σ2 H2 c d e2 => h φ2 σ2 H2 c d (e.trans e2)
  | none, h => exact h
theorem OutO.ext {r : Option (Dp.Loc × Mem)} {G : Dp.Loc → Mem → Pl → Hp → Prop} (e : Ext φ H φ' H') (h : OutO K φ H G r) : OutO K φ' H' G r := by
  match r, h with
  | some (ρ, μ'), h => exact fun φ2 H2 e2 => h φ2 H2 (e.trans e2)
  | none, h => exact h
theorem OutO.imp {r : Option (Dp.Loc × Mem)} {G G' : Dp.Loc → Mem → Pl → Hp → Prop} (h : OutO K φ H G r) (i : ∀ ρ μ' φ' H', Ext φ H φ' H' → Rel K φ' H' μ' → G ρ μ' φ' H' → G' ρ μ' φ' H') : OutO K φ H G' r := by
  match r, h with
  | some (ρ, μ'), h => exact fun φ2 H2 e2 r2 => i ρ μ' φ2 H2 e2 r2 (h φ2 H2 e2 r2)
  | none, h => exact h
theorem OutS.ofO {r : Option (Dp.Loc × Mem)} {f : Dp.Loc → Mem → SR} (h : OutS K W De φ H (Dp.ofO r f)) : OutO K φ H (fun ρ μ' φ' H' => OutS K W De φ' H' (f ρ μ')) r := by
  match r, h with
  | some (ρ, μ'), h => exact fun φ2 H2 e2 _ => OutS.ext e2 h
  | none, h => exact h
/-- an expression's end within a statement -/
theorem OutS.ofR {α : Type} {r : Res α} {f : α → Mem → SR} (hl : RepL K φ H σ ρ) (h : OutS K W De φ H (Dp.ofR r ρ f)) : OutG K W σ φ H (fun a μ' φ' H' => OutS K W De φ' H' (f a μ')) r := by
  cases r with
  | ok a μ' => exact fun φ2 H2 e2 _ => OutS.ext e2 h
  | err x μ' => exact fun φ2 H2 cls dx e2 r2 x2 => h φ2 σ H2 cls dx e2 r2 (hl.ext e2) x2
  | bad => exact h
end
theorem wipe_get (σ : L2.St) (j : Nat) : ∀ vs : List Nat, (wipe σ vs)[j]? = if j ∈ vs ∧ j < σ.length then some none else σ[j]?
  | [] => by simp [wipe]
  | v :: vs => by
    unfold wipe
    by_cases h : v = j
    · subst h
      by_cases hl : v < σ.length
      · rw [List.getElem?_set_self (by rw [wipe_length]; exact hl)]; simp [hl]
      · rw [List.getElem?_eq_none (by rw [List.length_set, wipe_length]; omega), List.getElem?_eq_none (by omega)]; simp [hl]
    · rw [List.getElem?_set_ne h, wipe_get σ j vs]
      have : (j = v) = False := by simp [Ne.symm h]
      simp [this]
theorem wipe_set {σ : L2.St} {vs : List Nat} {i : Nat} {x : Option V} (h : i ∈ vs) : wipe (σ.set i x) vs = wipe σ vs := by
  apply List.ext_getElem?
  intro j
  rw [wipe_get, wipe_get]
  by_cases hj : i = j
  · subst hj
    by_cases hl : i < σ.length
    · simp [h, hl]
    · rw [List.set_eq_of_length_le (by omega)]
  · rw [List.getElem?_set_ne hj]; simp
section
variable {X : Cx} {W : WX} {st : Stmt} {rest : List Stmt} {a b : ES} {e : Expr} {m : EE} {pos : Pos} {vs : List Nat}
theorem ps_anti {t t' : TS} (h : PS X st t) (i : ∀ De σ H, t' De σ H → t De σ H) : PS X st t' := ⟨fun pins s σ H De I q => h.run pins s σ H De I (i De σ H q)⟩
theorem pss_anti {sts : List Stmt} {t t' : TS} (h : PSs X sts t) (i : ∀ De σ H, t' De σ H → t De σ H) : PSs X sts t' := ⟨fun pins s σ H De I q => h.run pins s σ H De I (i De σ H q)⟩
theorem ss_nil : PSs X [] (liftS X.K W S.nil) := pss_anti pss_nil fun De σ H ⟨φ, ρ, μ, hl, hm, o⟩ => o φ σ H Ext.refl hm hl
theorem seq_out {K : PySem.W.Frag} {De : Ends} {φ : Pl} {H : Hp} {ρ : Loc} {μ : Mem} (h : OutS K W De φ H (S.seq a b ρ μ)) : OutS K W { De with nx := liftS K W b De } φ H (a ρ μ) := by
  unfold S.seq at h
  revert h
  match a ρ μ with
  | some (.next ρ', μ') => exact fun h φ2 σ2 H2 e2 r2 l2 => ⟨φ2, ρ', μ', l2, r2, OutS.ext e2 h⟩
  | some (.brk ρ', μ') => exact fun h => h
  | some (.cont ρ', μ') => exact fun h => h
  | some (.ret d, μ') => exact fun h => h
  | some (.exc x ρ', μ') => exact fun h => h
  | none => exact fun h => h
theorem ss_cons (h1 : PS X st (liftS X.K W a)) (h2 : PSs X rest (liftS X.K W b)) : PSs X (st :: rest) (liftS X.K W (S.seq a b)) :=
  pss_anti (pss_cons h1 h2) fun De σ H ⟨φ, ρ, μ, hl, hm, o⟩ => ⟨φ, ρ, μ, hl, hm, seq_out o⟩
theorem ss_one (h1 : PS X st (liftS X.K W a)) : PSs X [st] (liftS X.K W a) := pss_one h1
theorem ps_exprD (he : PE X e (lift X.K W m)) (hs : swapsWith e none pos.line X.env = pure false := by rfl) : PS X (.Expr e pos) (liftS X.K W (S.expr m)) :=
  ps_anti (ps_expr he hs) fun De σ H ⟨φ, ρ, μ, hl, hm, o⟩ => ⟨φ, ρ, μ, hl, hm, (OutS.ofR hl o).imp fun d μ' φ' H' e r o' v _ => o' φ' σ H' Ext.refl r (hl.ext e)⟩
theorem ps_retD (he : PE X e (lift X.K W m)) : PS X (.Return (some e) pos) (liftS X.K W (S.ret m)) :=
  ps_anti (ps_ret he) fun De σ H ⟨φ, ρ, μ, hl, hm, o⟩ => ⟨φ, ρ, μ, hl, hm, (OutS.ofR hl o).imp fun d μ' φ' H' e r o' v rv => o' φ' v H' Ext.refl r rv⟩
theorem ps_retND : PS X (.Return none pos) (liftS X.K W S.retN) := ps_anti ps_retN fun De σ H ⟨φ, ρ, μ, hl, hm, o⟩ => o φ .non H Ext.refl hm (by unfold Rep; rfl)
theorem ps_passD : PS X (.Pass pos) (liftS X.K W S.nil) := ps_anti ps_pass fun De σ H ⟨φ, ρ, μ, hl, hm, o⟩ => o φ σ H Ext.refl hm hl
theorem ps_brkD : PS X (.Break pos) (liftS X.K W S.brk) := ps_anti ps_break fun De σ H ⟨φ, ρ, μ, hl, hm, o⟩ => o φ σ H Ext.refl hm hl
theorem ps_contD : PS X (.Continue pos) (liftS X.K W S.cont) := ps_anti ps_continue fun De σ H ⟨φ, ρ, μ, hl, hm, o⟩ => o φ σ H Ext.refl hm hl
theorem asg_out {K : PySem.W.Frag} {De : Ends} {φ : Pl} {σ : L2.St} {H : Hp} {ρ : Loc} {μ : Mem} {g : EG} (hl : RepL K φ H σ ρ) (o : OutS K W De φ H (S.asg m g ρ μ)) : OutG K W σ φ H (GV K fun v H' => liftG K vs g v σ H' De.nx) (m ρ μ) :=
  (OutS.ofR hl o).imp fun d μ' φ' H' e r o' v rv => ⟨φ', ρ, μ', d, hl.ext e, r, rv, (OutS.ofO o').imp fun ρ' μ2 φ2 H2 e2 r2 o2 σ' l' _ => o2 φ2 σ' H2 Ext.refl r2 l'⟩
theorem ps_asgD {tg : Expr} {g : EG} (he : PE X e (lift X.K W m)) (hg : PG X tg (liftG X.K vs g)) (hs : swapsWithSole [tg] e pos.line X.env = pure false := by rfl) (hw : swappedStores [tg] e X.env = pure none := by rfl)
    (h1 : (assignEach [tg] X.env).map (·.2) = [assign tg X.env] := by rfl) : PS X (.Assign [tg] e pos) (liftS X.K W (S.asg m g)) :=
  ps_anti (ps_asg he hg hs hw h1) fun De σ H ⟨φ, ρ, μ, hl, hm, o⟩ => ⟨φ, ρ, μ, hl, hm, asg_out hl o⟩
theorem name_out {K : PySem.W.Frag} {σ : L2.St} {H : Hp} {v : V} {i : Nat} {Q : L2.St → Hp → Prop} (hv : i ∈ vs) (h : liftG K vs (G.name i) v σ H Q) : gName i v σ H Q := by
  obtain ⟨φ, ρ, μ, d, hl, hm, rv, o⟩ := h
  exact o φ H Ext.refl hm _ (hl.set rv) (wipe_set hv)
theorem pg_anti {tg : Expr} {t t' : TG} (h : PG X tg t) (i : ∀ v σ H Q, t' v σ H Q → t v σ H Q) : PG X tg t' := ⟨fun pins s σ H v u Q I r q => h.run pins s σ H v u Q I r (i v σ H Q q)⟩
theorem pgs_anti {tg : List Expr} {t t' : TGs} (h : PGs X tg t) (i : ∀ v σ H Q, t' v σ H Q → t v σ H Q) : PGs X tg t' := ⟨fun pins s σ H v u Q I r q => h.run pins s σ H v u Q I r (i v σ H Q q)⟩
theorem pg_nameD {i : Nat} {x : Str} (hN : X.N.Nodup) (hi : X.N[i]? = some x) (hx : L2.Loc X.env.scope x) (hv : i ∈ vs := by decide) (hf : X.fn x = true ∨ X.env.scope.names.lookup x = some .local := by first | exact .inl rfl | exact .inr rfl | assumption) :
    PG X (.Name x pos) (liftG X.K vs (G.name i)) := pg_anti (pg_name hN hi hx hf) fun v σ H Q h => name_out hv h
theorem pgs_nilD : PGs X [] (liftGs X.K vs G.nil) := pgs_anti pgs_nil fun us σ H Q ⟨φ, ρ, μ, ds, hl, hm, rv, o⟩ => by
  unfold G.nil at o
  cases ds with
  | nil => unfold RepAll at rv; exact ⟨rv, o φ H Ext.refl hm σ hl rfl⟩
  | cons d ds => exact o.elim
theorem pgs_consD {es : List Expr} {g : EG} {gs : EGs} (h1 : PG X e (liftG X.K vs g)) (h2 : PGs X es (liftGs X.K vs gs)) (hs : (assignEach (e :: es) X.env).map (·.2) = assign e X.env :: (assignEach es X.env).map (·.2) := by rfl) :
    PGs X (e :: es) (liftGs X.K vs (G.cons g gs)) := pgs_anti (pgs_cons h1 h2 hs) fun us σ H Q ⟨φ, ρ, μ, ds, hl, hm, rv, o⟩ => by
  unfold G.cons at o
  cases ds with
  | nil => exact o.elim
  | cons d ds =>
    unfold RepAll at rv
    obtain ⟨v, r, rfl, h3, h4⟩ := rv
    refine ⟨v, r, rfl, φ, ρ, μ, d, hl, hm, h3, ?_⟩
    dsimp only at o
    revert o
    match g d ρ μ with
    | some (ρ', μ') => exact fun o φ' H' e r' σ' l' w' => ⟨φ', ρ', μ', ds, l', r', h4.ext e, (OutO.ext e o).imp fun ρ2 μ2 φ2 H2 e2 r2 q σ2 l2 w2 => q σ2 l2 (w2.trans w')⟩
    | none => exact fun o => o
theorem pg_tupD {es : List Expr} {k : Nat} {gs : EGs} {n : Nat} (hc : X.calm = true) (h : PGs X es (liftGs X.K vs gs)) (hgs : ∀ ds ρ μ r, gs ds ρ μ = some r → ds.length = n)
    (hn : (assignEach es X.env).length = n := by rfl) (hst : (assignEach es X.env).findIdx? (·.1) = none := by rfl) : PG X (.Tuple es k pos) (liftG X.K vs (G.tup gs)) := by
  refine ⟨fun pins s σ H v u Q I r ⟨φ, ρ, μ, d, hl, hm, rv, o⟩ => ?_⟩
  unfold G.tup at o
  have len : ∀ ds, OutO X.K φ H (fun ρ' _ φ' H' => ∀ σ', RepL X.K φ' H' σ' ρ' → wipe σ' vs = wipe σ vs → Q σ' H') (gs ds ρ μ) → ds.length = n := fun ds o => by
    cases e : gs ds ρ μ with
    | none => rw [e] at o; exact o.elim
    | some r => exact hgs _ _ _ _ e
  cases d with
  | tup ds =>
    have rv' := rv
    unfold Rep at rv
    obtain ⟨p, us, rfl, ⟨q, _⟩, rs⟩ := rv
    exact (pg_tup hc h hn hst).run pins s σ H _ u Q I r ⟨p, us, rfl, q, by rw [rs.length]; exact len ds o, φ, ρ, μ, ds, hl, hm, rs, o⟩
  | lst ds =>
    unfold Rep at rv
    obtain ⟨p, us, rfl, ⟨q, _⟩, rs⟩ := rv
    exact (pg_lst hc h hn hst).run pins s σ H _ u Q I r ⟨p, us, rfl, .of q, by rw [rs.length]; exact len ds o, φ, ρ, μ, ds, hl, hm, rs, o⟩
  | _ => exact o.elim
theorem gs_nil_len : ∀ ds ρ μ r, G.nil ds ρ μ = some r → ds.length = 0 := fun ds ρ μ r h => by
  cases ds with
  | nil => rfl
  | cons d ds => cases h
theorem gs_cons_len {g : EG} {gs : EGs} {n : Nat} (h : ∀ ds ρ μ r, gs ds ρ μ = some r → ds.length = n) : ∀ ds ρ μ r, G.cons g gs ds ρ μ = some r → ds.length = n + 1 := fun ds ρ μ r q => by
  unfold G.cons at q
  cases ds with
  | nil => cases q
  | cons d ds =>
    dsimp only at q
    revert q
    match g d ρ μ with
    | some (ρ', μ') => exact fun q => by rw [List.length_cons, h ds ρ' μ' r q]
    | none => exact fun q => by cases q
theorem ps_ifD {c : Expr} {t : EB} {sa sb : List Stmt} (hc : PT X c (liftB X.K W t)) (ha : PSs X sa (liftS X.K W a)) (hb : PSs X sb (liftS X.K W b)) : PS X (.If c sa sb pos) (liftS X.K W (S.ite t a b)) :=
  ps_anti (ps_if hc ha hb) fun De σ H ⟨φ, ρ, μ, hl, hm, o⟩ => ⟨φ, ρ, μ, hl, hm, (OutS.ofR hl o).imp fun c μ' φ' H' e r o' => by
    cases c with
    | true => exact ⟨φ', ρ, μ', hl.ext e, r, o'⟩
    | false => exact ⟨φ', ρ, μ', hl.ext e, r, o'⟩⟩
theorem ps_augD {i : Nat} {x : Str} {op : Operator} {g : D → D → Mem → Res D} {pos' : Pos} (hN : X.N.Nodup) (hi : X.N[i]? = some x) (hx : L2.Loc X.env.scope x) (he : PE X e (lift X.K W m)) (ho : OpS X W (inplaceOp op) g)
    (hf : X.fn x = true ∨ X.env.scope.names.lookup x = some .local := by first | exact .inl rfl | exact .inr rfl | assumption) : PS X (.AugAssign (.Name x pos') op e pos) (liftS X.K W (S.aug i g m)) := by
  refine ⟨fun pins s σ H De I ⟨φ, ρ, μ, hl, hm, o⟩ => ?_⟩
  unfold S.aug at o
  split at o
  · rename_i d hd
    obtain ⟨v, e1, rv⟩ := hl.at_ i d hd
    have vis : Vis X.env.scope x := by rcases hx with k | k; exact .inl k; exact .inr (.inl k)
    obtain ⟨m0, hn, hlo⟩ := I.loc
    obtain ⟨u, r, l⟩ := hlo i x v hi e1 vis
    refine wpAny_AugAssign_Name ?_
    have go : wpAny (model X.prog X.w) X.A (eval e X.env) (fun w s₂ => wpAny (model X.prog X.w) X.A (inplaceOp op u w) (fun r s₃ => wpAny (model X.prog X.w) X.A (storeName X.env x r) (fun _ => SP X pins De .next) X.xe s₃) X.xe s₂) X.xe s := by
      refine use he I hl hm (OutS.ofR hl o) fun w s1 y H1 d1 μ1 φ1 I1 r1 e1 m1 p1 o1 => ?_
      refine thn (ho pins s1 σ H1 φ1 μ1 v y u w d d1 (fun z H2 => ∃ φ2 μ2 dz, Ext φ1 H1 φ2 H2 ∧ Rel X.K φ2 H2 μ2 ∧ Rep X.K φ2 H2 z dz ∧ OutS X.K W De φ2 H2 (some (.next (ρ.set i (some dz)), μ2))) I1 r r1 m1 (rv.ext e1) p1 ((OutS.ofR (hl.ext e1) o1).imp fun dz μ2 φ2 H2 e2 r2 o2 z hz => ⟨φ2, μ2, dz, e2, r2, hz, o2⟩)) ?_
      rintro rr s2 ⟨z, H2, I2, r2, φ2, μ2, dz, e2, m2, pz, o2⟩
      exact store_ok I2 hN hi hx r2 (fun s3 I3 => ⟨_, H2, I3, o2 φ2 _ H2 Ext.refl m2 (((hl.ext e1).ext e2).set pz)⟩) hf
    rcases l with ⟨hk, hm'⟩ | ⟨hk, c, hc, hcell⟩
    · exact wpAny_loadName_local I.ok.kind hk hn hm' go
    · rcases hk with hk | hk
      · exact wpAny_loadName_cell I.ok.kind hk hc hcell go
      · rcases hx with k | k
        · have : X.env.scope.names.lookup x = some .free := hk
          rw [k] at this; cases this
        · have : X.env.scope.names.lookup x = some .free := hk
          rw [k] at this; cases this
  · exact o.elim

/-! ### loops -/
abbrev Pl.un (ψ : Pl) (av : Addr → Prop) : Pl := ⟨ψ.pl, av⟩
/-- the heap goes on, more may be written by others: new objects alone -/
structure ExtA (φ0 : Pl) (H0 : Hp) (φ : Pl) (H : Hp) : Prop where
  ext : Ext φ0 H0 (φ.un φ0.av) H
  up : ∀ b, φ0.av b → φ.av b
  new : ∀ b, φ.av b → φ0.av b ∨ H0 b = none
theorem Ext.toA {φ0 φ : Pl} {H0 H : Hp} (e : Ext φ0 H0 φ H) : ExtA φ0 H0 φ H := by
  refine ⟨?_, fun b q => by rw [e.av]; exact q, fun b q => .inl (by rw [← e.av]; exact q)⟩
  obtain ⟨t, rfl⟩ := e.pre
  exact e
theorem ExtA.leans {K : PySem.W.Frag} {φ0 φ : Pl} {H0 H : Hp} (e : ExtA φ0 H0 φ H) : Leans K φ0 H0 φ H := by
  have l := e.ext.leans (K := K)
  refine ⟨l.pl, l.tup, fun p u q n => ⟨(l.obj p u q n).1, (l.obj p u q n).2.1, fun z => ?_⟩, l.fz, l.ex, l.fd⟩
  rcases e.new p z with z | z
  · exact n.2 z
  · rw [z] at q; cases q
/-- the iterator J goes over these -/
def ItOk (K : PySem.W.Frag) (φ0 : Pl) (H0 : Hp) (J : It) (ds : List D) : Prop :=
  ∃ (Gd : Hp → Prop) (Y : Nat → Hp → V → Hp → Prop), Walk J ds.length Gd Y ∧ (∀ φ H μ, ExtA φ0 H0 φ H → Rel K φ H μ → Gd H) ∧
    (∀ i φ H μ x H1, i < ds.length → ExtA φ0 H0 φ H → Rel K φ H μ → Y i H x H1 → ∃ d, ds[i]? = some d ∧ Rep K φ H1 x d ∧ Ext φ H φ H1 ∧ Rel K φ H1 μ)
def liftI (K : PySem.W.Frag) (W : WX) (q : EA) : TI := fun σ H R => ∃ φ ρ μ, RepL K φ H σ ρ ∧ Rel K φ H μ ∧ OutG K W σ φ H (fun ds _ φ' H' => ∀ J, ItOk K φ' H' J ds → R J H') (q ρ μ)
theorem pi_anti {tg iter : Expr} {t t' : TI} (h : PI X tg iter t) (i : ∀ σ H R, t' σ H R → t σ H R) : PI X tg iter t' := ⟨fun pins s σ H R I q => h.run pins s σ H R I (i σ H R q)⟩
theorem ps_forD {tg iter : Expr} {body : List Stmt} {q : EA} {g : EG} (hp : PassesOwn (model X.prog X.w) X.A X.env X.xe) (hc : X.calm = true) (hi : PI X tg iter (liftI X.K W q)) (hg : PG X tg (liftG X.K vs g)) (hb : PSs X body (liftS X.K W b))
    (hs : ∀ x, foldedSetIterable iter X.env x = pure x := by intro _; rfl) : PS X (.For tg iter body [] pos) (liftS X.K W (S.for_ q g b)) :=
  ps_anti (ps_for hp hc hi hg hb hs) fun De σ H ⟨φ, ρ, μ, hl, hm, o⟩ => ⟨φ, ρ, μ, hl, hm, (OutS.ofR hl o).imp fun ds μ1 φ1 H1 e1 r1 o1 J ⟨Gd, Y, wk, hG, hY⟩ => by
    refine for_it wk (fun i σ H => ∃ φ ρ μ, Ext φ1 H1 φ H ∧ Rel X.K φ H μ ∧ RepL X.K φ H σ ρ ∧ OutS X.K W De φ H (S.loop g b (ds.drop i) ρ μ)) ⟨φ1, ρ, μ1, Ext.refl, r1, hl.ext e1, o1⟩ (fun i σ H _ ⟨φ, ρ, μ, e, r, _, _⟩ => hG φ H μ e.toA r) ?_ ?_
    · rintro i x σ2 H2 H3 hi2 ⟨φ2, ρ2, μ2, e2, r2, l2, o2⟩ y
      obtain ⟨d, hd, rx, e3, r3⟩ := hY i φ2 H2 μ2 x H3 hi2 e2.toA r2 y
      have hdrop : ds.drop i = d :: ds.drop (i + 1) := by
        obtain ⟨hlt, he⟩ := List.getElem?_eq_some_iff.mp hd
        rw [← he]; exact List.drop_eq_getElem_cons hlt
      rw [hdrop] at o2
      refine ⟨φ2, ρ2, μ2, d, l2.ext e3, r3, rx, (OutS.ofO (OutS.ext e3 o2)).imp fun ρ4 μ4 φ4 H4 e4 r4 o4 σ4 l4 _ => ⟨φ4, ρ4, μ4, l4, r4, ?_⟩⟩
      have e14 : Ext φ1 H1 φ4 H4 := (e2.trans e3).trans e4
      revert o4
      match b ρ4 μ4 with
      | some (.next ρ5, μ5) => exact fun o4 φ5 σ5 H5 e5 r5 l5 => ⟨φ5, ρ5, μ5, e14.trans e5, r5, l5, OutS.ext e5 o4⟩
      | some (.cont ρ5, μ5) => exact fun o4 φ5 σ5 H5 e5 r5 l5 => ⟨φ5, ρ5, μ5, e14.trans e5, r5, l5, OutS.ext e5 o4⟩
      | some (.brk ρ5, μ5) => exact fun o4 => o4
      | some (.ret d5, μ5) => exact fun o4 => o4
      | some (.exc x5 ρ5, μ5) => exact fun o4 => o4
      | none => exact fun o4 => o4
    · rintro σ2 H2 ⟨φ2, ρ2, μ2, e2, r2, l2, o2⟩
      rw [List.drop_length] at o2
      exact o2 φ2 σ2 H2 Ext.refl r2 l2⟩
theorem ps_whileD {c : Expr} {body : List Stmt} {t : EB} (n : Nat) (hp : PassesOwn (model X.prog X.w) X.A X.env X.xe) (hc : PT X c (liftB X.K W t)) (hb : PSs X body (liftS X.K W b)) : PS X (.While c body [] pos) (liftS X.K W (S.while_ n t b)) :=
  ps_anti (ps_while hp hc hb) fun De σ H ⟨φ, ρ, μ, hl, hm, o⟩ => by
    refine ⟨fun m σ H => ∃ φ ρ μ, Rel X.K φ H μ ∧ RepL X.K φ H σ ρ ∧ OutS X.K W De φ H (S.wloop t b m ρ μ), ⟨n, φ, ρ, μ, hm, hl, o⟩, ?_⟩
    rintro m σ1 H1 ⟨φ1, ρ1, μ1, r1, l1, o1⟩
    cases m with
    | zero => exact o1.elim
    | succ m =>
      refine ⟨φ1, ρ1, μ1, l1, r1, (OutS.ofR l1 o1).imp fun c μ2 φ2 H2 e2 r2 o2 => ?_⟩
      cases c with
      | true =>
        show if true = true then _ else _
        rw [if_pos rfl]
        refine ⟨fun σ' H' => ∃ φ ρ μ, Rel X.K φ H' μ ∧ RepL X.K φ H' σ' ρ ∧ OutS X.K W De φ H' (S.wloop t b m ρ μ), fun σ' H' q => ⟨m, Nat.lt_succ_self m, q⟩, φ2, ρ1, μ2, l1.ext e2, r2, ?_⟩
        have o2 : OutS X.K W De φ2 H2 (match b ρ1 μ2 with
          | some (.next ρ2, μ2) => S.wloop t b m ρ2 μ2
          | some (.cont ρ2, μ2) => S.wloop t b m ρ2 μ2
          | some (.brk ρ2, μ2) => some (.next ρ2, μ2)
          | r => r) := o2
        revert o2
        match b ρ1 μ2 with
        | some (.next ρ5, μ5) => exact fun o4 φ5 σ5 H5 e5 r5 l5 => ⟨φ5, ρ5, μ5, r5, l5, OutS.ext e5 o4⟩
        | some (.cont ρ5, μ5) => exact fun o4 φ5 σ5 H5 e5 r5 l5 => ⟨φ5, ρ5, μ5, r5, l5, OutS.ext e5 o4⟩
        | some (.brk ρ5, μ5) => exact fun o4 => o4
        | some (.ret d5, μ5) => exact fun o4 => o4
        | some (.exc x5 ρ5, μ5) => exact fun o4 => o4
        | none => exact fun o4 => o4
      | false =>
        show if false = true then _ else _
        rw [if_neg (by decide)]
        exact o2 φ2 σ1 H2 Ext.refl r2 (l1.ext e2)
end
end Dp

namespace Dp
open PySem PySem.Spec PyProof.Rows L2

/-! ### no reference within -/
mutual
def D.nr : D → Bool
  | .ref _ => false
  | .tup xs => nrAll xs
  | .lst xs => nrAll xs
  | .dct _ xs => nrAll xs
  | .adr _ => true
  | .ty _ => true
  | .scr _ => true
  | .non => true
  | .bl _ => true
  | .int _ => true
  | .str _ => true
def nrAll : List D → Bool
  | [] => true
  | x :: xs => x.nr && nrAll xs
end
theorem nrAll_all : ∀ xs : List D, nrAll xs = xs.all D.nr
  | [] => rfl
  | x :: xs => by rw [nrAll, List.all_cons, nrAll_all xs]
def MO.flat : MO → Bool
  | .lst xs => nrAll xs
  | .dct _ xs => nrAll xs
  | .ins _ _ xs => nrAll xs
  | .gone => true
  | .flst xs => nrAll xs
def Exn.nr (x : Exn) : Bool := match x.fld with
  | none => true
  | some fs => nrAll (fs.map (·.2))
section
variable {K : PySem.W.Frag} {φ φ' : Pl} {H H' : Hp}
/-- what data without references lean on -/
structure Holds (K : PySem.W.Frag) (φ : Pl) (H : Hp) (φ' : Pl) (H' : Hp) : Prop where
  tup : ∀ p vs, SqT K H p vs → SqT K H' p vs
  obj : ∀ p u, H p = some u → φ.out p → H' p = some u ∧ φ'.out p
  fz : ∀ p vs, SqF K H p vs → SqF K H' p vs
  ex : ∀ p, ExT H p → ExT H' p
  fd : ∀ p kvs, FzK H p kvs → FzK H' p kvs
mutual
theorem Rep.nr_mono (l : Holds K φ H φ' H') : ∀ (d : D) {v : V}, d.nr = true → Rep K φ H v d → Rep K φ' H' v d
  | .non, _, _, h => by unfold Rep at h ⊢; exact h
  | .bl _, _, _, h => by unfold Rep at h ⊢; exact h
  | .int _, _, _, h => by unfold Rep at h ⊢; exact h
  | .str _, _, _, h => by unfold Rep at h ⊢; exact h
  | .tup ds, _, n, h => by
    unfold Rep at h ⊢
    obtain ⟨p, vs, e, q, r⟩ := h
    exact ⟨p, vs, e, ⟨l.tup p vs q.1, fun z => l.ex p (q.2 z)⟩, RepAll.nr_mono l ds (by rw [D.nr] at n; exact n) r⟩
  | .lst ds, _, n, h => by
    unfold Rep at h ⊢
    obtain ⟨p, vs, e, ⟨q, m⟩, r⟩ := h
    exact ⟨p, vs, e, l.obj p _ q m, RepAll.nr_mono l ds (by rw [D.nr] at n; exact n) r⟩
  | .dct ks ds, _, n, h => by
    unfold Rep at h ⊢
    obtain ⟨p, vs, e, ⟨q, z⟩, r⟩ := h
    exact ⟨p, vs, e, ⟨l.fd p _ q, z⟩, RepAll.nr_mono l ds (by rw [D.nr] at n; exact n) r⟩
  | .ref i, _, n, h => by rw [D.nr] at n; cases n
  | .adr _, _, _, h => by unfold Rep at h ⊢; exact h
  | .ty _, _, _, h => by unfold Rep at h ⊢; exact h
  | .scr ns, _, _, h => by
    unfold Rep at h ⊢
    obtain ⟨p, e, q⟩ := h
    exact ⟨p, e, l.fz p _ q⟩
theorem RepAll.nr_mono (l : Holds K φ H φ' H') : ∀ (ds : List D) {vs : List V}, nrAll ds = true → RepAll K φ H vs ds → RepAll K φ' H' vs ds
  | [], _, _, h => by unfold RepAll at h ⊢; exact h
  | d :: ds, _, n, h => by
    unfold RepAll at h ⊢
    obtain ⟨v, r, e, h1, h2⟩ := h
    rw [nrAll, Bool.and_eq_true] at n
    exact ⟨v, r, e, Rep.nr_mono l d n.1 h1, RepAll.nr_mono l ds n.2 h2⟩
end
theorem ObjRep.flat_mono (l : Holds K φ H φ' H') {a : Addr} {o : MO} (n : o.flat = true) (k : ∀ u, H a = some u → H' a = some u) (h : ObjRep K φ H a o) : ObjRep K φ' H' a o := by
  cases o with
  | lst xs => obtain ⟨vs, q, r⟩ := h; exact ⟨vs, k _ q, r.nr_mono l _ n⟩
  | dct ks xs => obtain ⟨vs, q, z, r⟩ := h; exact ⟨vs, k _ q, z, r.nr_mono l _ n⟩
  | ins C ks xs => obtain ⟨dx, vs, q, z, r⟩ := h; exact ⟨dx, vs, k _ q, z, r.nr_mono l _ n⟩
  | gone => exact ⟨h.choose, k _ h.choose_spec⟩
  | flst xs => obtain ⟨od, vs, q, r⟩ := h; exact ⟨od, vs, k _ q, r.nr_mono l _ n⟩
end

/-! ### what a def does -/
/-- a body run: ns the number of slots -/
def runB (np ns : Nat) (m : ES) : List D → Mem → Res D := fun ds μ => if ds.length = np then (match m (ds.map some ++ List.replicate (ns - ds.length) none) μ with
  | some (.next _, μ') => .ok .non μ'
  | some (.ret d, μ') => .ok d μ'
  | some (.exc x _, μ') => .err x μ'
  | _ => .bad) else .bad
def spOf (K : PySem.W.Frag) (np : Nat) (fn : List D → Mem → Res D) : Sp := fun vs H Q E => ∃ φ μ ds, ds.length = np ∧ RepAll K φ H vs ds ∧ Rel K φ H μ ∧ OutG K (fun cls dx _ H' => E cls dx H') [] φ H (GV K Q) (fn ds μ)
section
variable {P : Program} {w : World} {K : PySem.W.Frag} {mg : Str → Option Value} {base : Heap}
theorem repL_start {φ : Pl} {H : Hp} : ∀ {vs : List V} {ds : List D} (n : Nat), RepAll K φ H vs ds → RepL K φ H (vs.map some ++ List.replicate n none) (ds.map some ++ List.replicate n none) := fun {vs ds} n r => by
  refine ⟨by simp [r.length], fun i d e => ?_⟩
  have hl := r.length
  by_cases hi : i < ds.length
  · rw [List.getElem?_append_left (by simpa using hi), List.getElem?_map] at e
    cases q : ds[i]? with
    | none => rw [q] at e; cases e
    | some d' =>
      rw [q] at e; cases e
      obtain ⟨v, e1, e2⟩ := r.get q
      exact ⟨v, by rw [List.getElem?_append_left (by rw [List.length_map, hl]; exact hi), List.getElem?_map, e1]; rfl, e2⟩
  · rw [List.getElem?_append_right (by simpa using hi), List.getElem?_replicate] at e
    split at e <;> cases e
/-- a def's promise where no repr is under way -/
structure FnG (P : Program) (w : World) (K : PySem.W.Frag) (mg : Str → Option Value) (base : Heap) (CX : CXT) (k : Nat) (f : Addr) (fd : FuncData) (ps : List Str) (sp : Sp) : Prop where
  len : ∀ vs H Q E, sp vs H Q E → vs.length = ps.length
  run : ∀ (A : Around) (outer : List Env) (s : Shared) (H : Hp) (args : Args) (us : List Value) (vs : List V) (Q : VK) (E : XK), A.guards = some [] → Room k A → Env0 P w K mg base A outer s H → BindsTo s fd args (ps.zip us) → Vals vs us → sp vs H Q E →
    codeAny (model P w) A (.call (.ref f) args) (CR CX outer P w H s Q E) s
theorem FnG.imp {CX : CXT} {k : Nat} {f : Addr} {fd : FuncData} {ps : List Str} {sp sp' : Sp} (F : FnG P w K mg base CX k f fd ps sp) (h : ∀ vs H Q E, sp' vs H Q E → sp vs H Q E) : FnG P w K mg base CX k f fd ps sp' :=
  ⟨fun vs H Q E q => F.len vs H Q E (h _ _ _ _ q), fun A outer s H args us vs Q E hG hr he hb hv hs => F.run A outer s H args us vs Q E hG hr he hb hv (h _ _ _ _ hs)⟩
/-- THE RULE for a def -/
theorem fnD {x qual : Str} {st : Stmt} {f : Addr} {fd : FuncData} {N ps : List Str} {k : Nat} (F : Fun K x qual st f fd) (S : FnScope N ps (defScope st)) (m : ES)
    (hbody : ∀ (cdv : Value) (A : Around) (outer : List Env) (s : Shared) (H : Hp) (E : XK), A.guards = some [] → Room k (A.deeper (envOfC qual (defScope st) s.heap.objs.size f cdv)) →
      Takes (cxOf (L2.CX P w) P w K mg base N qual (defScope st) f cdv A outer s H E) (fun c d _ H => E c d H) →
      PSs (cxOf (L2.CX P w) P w K mg base N qual (defScope st) f cdv A outer s H E) (defBody st) (liftS K (fun c d _ H => E c d H) m)) :
    FnG P w K mg base (L2.CX P w) (k + 1) f fd ps (spOf K ps.length (runB ps.length N.length m)) := by
  refine ⟨fun vs H Q E h => ?_, fun A outer s H args us vs Q E hG hr e0 hb r hsp => ?_⟩
  · obtain ⟨φ, μ, ds, e, r, _⟩ := h
    rw [r.length, e]
  obtain ⟨oc, od, kV, doc, pm, an, cdv, ct, osl, rfl, lk, hcd⟩ := F.ex
  have hl : vs.length = ps.length := by
    obtain ⟨φ, μ, ds, e, r, _⟩ := hsp
    rw [r.length, e]
  have KX : K.In s.heap := e0.mod.kin.keeps fun b o e => (e0.bs b o e).1
  have lim : s.heap.NoLimit := e0.mod.nolimit.keeps fun b o e => (e0.bs b o e).1
  have hkind : ∀ y ∈ ps.zip us, (defScope st).names.lookup y.1 = some .local ∨ ((defScope st).names.lookup y.1 = some .cell ∧ ((cellsFrom (s.heap.objs.size + 1) (defScope st).names []).lookup y.1).isSome = true) := fun ⟨n, v⟩ hy => by
    rcases S.par n (List.of_mem_zip hy).1 with q | q
    · exact .inl q
    · exact .inr ⟨q, PySem.W.cellsFrom_some _ _ _ (.inl q)⟩
  refine codeAny_call_function hr.depth (KX _ _ lk) rfl S.co S.gen rfl (PySem.W.codeRec_of KX hcd) (hb _ _ _ _ ?_)
  refine wpAny_newFunctionEnv_cells S.kind hkind fun env he s1 x => ?_
  subst he
  refine ⟨lim.keeps x.toInCall.keep, codeAny_func ?_⟩
  have body := hbody cdv A outer s H E hG (hr.deeper _) (takes_of (X := cxOf (L2.CX P w) P w K mg base N qual (defScope st) f cdv A outer s H E) rfl rfl rfl rfl)
  have I : Inv (cxOf (L2.CX P w) P w K mg base N qual (defScope st) f cdv A outer s H E) [] (start N vs) H s1 := inv_start S hr.hd e0 hl r x
  have hq : liftS K (fun c d _ H => E c d H) m { nx := fun _ H' => Q .non H', rt := Q } (start N vs) H := by
    obtain ⟨φ, μ, ds, e, r, hm, o⟩ := hsp
    refine ⟨φ, _, μ, repL_start (N.length - vs.length) r, hm, ?_⟩
    unfold runB at o
    rw [if_pos e] at o
    rw [r.length]
    revert o
    match m (ds.map some ++ List.replicate (N.length - ds.length) none) μ with
    | some (.next ρ', μ') => exact fun o φ' σ' H' e' r' _ => o φ' H' e' r' .non (by unfold Rep; rfl)
    | some (.ret d, μ') => exact fun o φ' v H' e' r' rv => o φ' H' e' r' v rv
    | some (.exc x ρ', μ') => exact fun o φ' σ' H' cls dx e' r' _ xr => o φ' H' cls dx e' r' xr
    | some (.brk ρ', μ') => exact fun o => o.elim
    | some (.cont ρ', μ') => exact fun o => o.elim
    | none => exact fun o => o.elim
  refine wpAny_mono (body.run [] s1 (start N vs) H _ I hq) (fun fl s' hs => ?_) fun e s' hs => hs
  have fin : ∀ {σ' : L2.St} {H' : Hp} {v : V} {u : Value}, Inv (cxOf (L2.CX P w) P w K mg base N qual (defScope st) f cdv A outer s H E) [] σ' H' s' → RelV v u → Q v H' → CE outer P w H s Q u s' :=
    fun {σ' H' v u} J rv q => ⟨v, H', J.os, J.bare, J.base, J.hok, rv, q⟩
  cases fl with
  | ret u =>
    obtain ⟨v, σ', H', J, rv, q⟩ := hs
    exact fin J rv q
  | next =>
    obtain ⟨σ', H', J, q⟩ := hs
    exact fin (v := V.non) (u := Value.none) J rfl q
  | brk =>
    obtain ⟨_, _, _, q⟩ := hs
    exact False.elim q
  | cont =>
    obtain ⟨_, _, _, q⟩ := hs
    exact False.elim q
end

/-! ### how a def is handed its memory: the objects of its arguments alone -/
def D.ref? : D → Option Nat
  | .ref i => some i
  | _ => none
def argOk (d : D) : Bool := match d with
  | .ref _ => true
  | d => d.nr
def renArg (rs : List Nat) : D → D
  | .ref i => .ref (rs.idxOf i)
  | d => d
def subMem (μ : Mem) : List Nat → Option Mem
  | [] => some []
  | i :: r => match μ[i]?, subMem μ r with
    | some o, some q => if o.flat = true then some (o :: q) else none
    | _, _ => none
def writeAll (μ : Mem) : List Nat → Mem → Mem
  | i :: r, o :: q => writeAll (μ.set i o) r q
  | _, _ => μ
/-- the result: without references; an object of the arguments; a new object (a list as a value, or, mb, as an object of the memory) -/
def outD (mb : Bool) (rs : List Nat) (μ' μ2 : Mem) (d : D) : Res D :=
  if d.nr = true then .ok d μ2 else match d with
    | .ref j => match rs[j]? with
      | some i => .ok (.ref i) μ2
      | none => match μ'[j]? with
        | some o => if o.flat = true then (bif mb then .ok (.ref μ2.length) (μ2 ++ [o]) else match o with
          | .lst xs => .ok (.lst xs) μ2
          | _ => .bad) else .bad
        | none => .bad
    | _ => .bad
def proto (mb : Bool) (fn : List D → Mem → Res D) : List D → Mem → Res D := fun ds μ =>
  if ds.all argOk = true ∧ (ds.filterMap D.ref?).Nodup then match subMem μ (ds.filterMap D.ref?) with
    | some μs => match fn (ds.map (renArg (ds.filterMap D.ref?))) μs with
      | .ok d μ' => if (μ'.take μs.length).all MO.flat = true ∧ μs.length ≤ μ'.length then outD mb (ds.filterMap D.ref?) μ' (writeAll μ (ds.filterMap D.ref?) (μ'.take μs.length)) d else .bad
      | .err x μ' => if (μ'.take μs.length).all MO.flat = true ∧ μs.length ≤ μ'.length ∧ x.nr = true then .err x (writeAll μ (ds.filterMap D.ref?) (μ'.take μs.length)) else .bad
      | .bad => .bad
    | none => .bad
  else .bad

theorem subMem_len {μ : Mem} : ∀ {rs : List Nat} {μs : Mem}, subMem μ rs = some μs → μs.length = rs.length
  | [], _, h => by cases h; rfl
  | i :: r, μs, h => by
    unfold subMem at h
    split at h
    · rename_i o q h1 h2
      split at h
      · cases h
        rw [List.length_cons, List.length_cons, subMem_len h2]
      · cases h
    · cases h
theorem subMem_at {μ : Mem} : ∀ {rs : List Nat} {μs : Mem} {j i : Nat}, subMem μ rs = some μs → rs[j]? = some i → ∃ o, μs[j]? = some o ∧ μ[i]? = some o ∧ o.flat = true
  | [], _, _, _, _, e => by simp at e
  | k :: r, μs, j, i, h, e => by
    unfold subMem at h
    split at h
    · rename_i o q h1 h2
      split at h
      · rename_i hf
        cases h
        cases j with
        | zero => simp at e; subst e; exact ⟨o, rfl, h1, hf⟩
        | succ j => obtain ⟨o', a, b, c⟩ := subMem_at (j := j) h2 (by simpa using e); exact ⟨o', by simpa using a, b, c⟩
      · cases h
    · cases h
theorem writeAll_len : ∀ (rs : List Nat) (q : Mem) (μ : Mem), (writeAll μ rs q).length = μ.length
  | [], _, _ => by unfold writeAll; rfl
  | i :: r, [], _ => by unfold writeAll; rfl
  | i :: r, o :: q, μ => by unfold writeAll; rw [writeAll_len r q]; simp
theorem writeAll_out : ∀ (rs : List Nat) (q : Mem) (μ : Mem) {i : Nat}, i ∉ rs → (writeAll μ rs q)[i]? = μ[i]?
  | [], _, _, _, _ => by unfold writeAll; rfl
  | k :: r, [], _, _, _ => by unfold writeAll; rfl
  | k :: r, o :: q, μ, i, h => by
    unfold writeAll
    rw [writeAll_out r q _ (fun z => h (List.mem_cons_of_mem _ z)), List.getElem?_set_ne (fun z => h (by rw [← z]; exact List.mem_cons_self))]
theorem writeAll_at : ∀ (rs : List Nat) (q : Mem) (μ : Mem) {i j : Nat} {o : MO}, rs.Nodup → rs[j]? = some i → q[j]? = some o → i < μ.length → (writeAll μ rs q)[i]? = some o
  | [], _, _, _, _, _, _, e, _, _ => by simp at e
  | k :: r, [], _, _, _, _, _, _, e, _ => by simp at e
  | k :: r, o :: q, μ, i, 0, o', nd, e1, e2, hi => by
    simp at e1 e2; subst e1; subst e2
    unfold writeAll
    rw [writeAll_out r q _ (List.nodup_cons.mp nd).1, List.getElem?_set_self hi]
  | k :: r, o :: q, μ, i, j + 1, o', nd, e1, e2, hi => by
    unfold writeAll
    exact writeAll_at r q _ (List.nodup_cons.mp nd).2 (by simpa using e1) (by simpa using e2) (by simpa using hi)
/-- the places of some objects -/
def subPl (φ : Pl) (rs : List Nat) : Pl := ⟨rs.map fun i => φ.pl.getD i 0, fun b => φ.av b ∨ (b ∈ φ.pl ∧ b ∉ rs.map fun i => φ.pl.getD i 0)⟩
theorem getD_at {l : List Addr} {i : Nat} {a : Addr} (h : l[i]? = some a) : l.getD i 0 = a := by
  rw [List.getD_eq_getElem?_getD, h]; rfl
theorem subPl_nodup {l : List Addr} (nd : l.Nodup) : ∀ {rs : List Nat}, rs.Nodup → (∀ i ∈ rs, i < l.length) → (rs.map fun i => l.getD i 0).Nodup
  | [], _, _ => by simp
  | i :: r, h, b => by
    rw [List.map_cons, List.nodup_cons]
    obtain ⟨h1, h2⟩ := List.nodup_cons.mp h
    refine ⟨fun z => ?_, subPl_nodup nd h2 fun j hj => b j (List.mem_cons_of_mem _ hj)⟩
    obtain ⟨j, hj, e⟩ := List.mem_map.mp z
    have li := b i List.mem_cons_self
    have lj := b j (List.mem_cons_of_mem _ hj)
    rw [List.getD_eq_getElem?_getD, List.getD_eq_getElem?_getD, List.getElem?_eq_getElem li, List.getElem?_eq_getElem lj] at e
    have : j = i := (List.getElem_inj nd).mp (by simpa using e)
    exact h1 (by rw [← this]; exact hj)
theorem idxOf_at {rs : List Nat} {i : Nat} (h : i ∈ rs) : rs[rs.idxOf i]? = some i := by
  have hl : rs.idxOf i < rs.length := List.idxOf_lt_length_of_mem h
  rw [List.getElem?_eq_getElem hl, List.getElem_idxOf]
section
variable {K : PySem.W.Frag}
theorem repAll_ren {φ φs : Pl} {H : Hp} {rs : List Nat} (l : Holds K φ H φs H) (hp : ∀ i a, i ∈ rs → φ.pl[i]? = some a → φs.pl[rs.idxOf i]? = some a) : ∀ {ds : List D} {vs : List V}, ds.all argOk = true → (∀ i ∈ ds.filterMap D.ref?, i ∈ rs) → RepAll K φ H vs ds → RepAll K φs H vs (ds.map (renArg rs))
  | [], _, _, _, h => h
  | d :: ds, _, ok, hr, h => by
    unfold RepAll at h
    obtain ⟨v, r, rfl, h1, h2⟩ := h
    rw [List.all_cons, Bool.and_eq_true] at ok
    rw [List.map_cons]
    refine RepAll.cons_ ?_ (repAll_ren l hp ok.2 (fun i hi => hr i ?_) h2)
    · cases d with
      | ref i =>
        unfold Rep at h1
        obtain ⟨a, e, q⟩ := h1
        unfold renArg Rep
        exact ⟨a, e, hp i a (hr i (by rw [List.filterMap_cons]; exact List.mem_cons_self)) q⟩
      | _ => exact Rep.nr_mono l _ ok.1 h1
    · rw [List.filterMap_cons]
      cases e : D.ref? d with
      | none => exact hi
      | some j => exact List.mem_cons_of_mem _ hi
theorem proto_ok {np : Nat} {mb : Bool} {fn : List D → Mem → Res D} : ∀ vs H Q E, spOf K np (proto mb fn) vs H Q E → spOf K np fn vs H Q E := by
  rintro vs H Q E ⟨φ, μ, ds, hlen, ra, hm, o⟩
  unfold proto at o
  split at o
  rotate_left
  · exact o.elim
  rename_i hok
  obtain ⟨hok, hnd⟩ := hok
  generalize hrs : ds.filterMap D.ref? = rs at o hnd
  cases hs : subMem μ rs with
  | none => rw [hs] at o; exact o.elim
  | some μs =>
  rw [hs] at o
  dsimp only at o
  have hlt : ∀ i ∈ rs, i < φ.pl.length := fun i hi => by
    obtain ⟨j, hj, e⟩ := List.mem_iff_getElem.mp hi
    obtain ⟨ob, _, e2, _⟩ := subMem_at (j := j) (i := i) hs (by rw [List.getElem?_eq_getElem hj, e])
    rw [hm.len]; exact (List.getElem?_eq_some_iff.mp e2).1
  have hpl : ∀ j i, rs[j]? = some i → ∃ a, φ.pl[i]? = some a ∧ (subPl φ rs).pl[j]? = some a := fun j i e => by
    have hi := hlt i (List.mem_of_getElem? e)
    refine ⟨φ.pl[i], List.getElem?_eq_getElem hi, ?_⟩
    show (rs.map fun i => φ.pl.getD i 0)[j]? = _
    rw [List.getElem?_map, e]
    show some (φ.pl.getD i 0) = _
    rw [getD_at (List.getElem?_eq_getElem hi)]
  have hsub : ∀ a, a ∈ (subPl φ rs).pl → a ∈ φ.pl := fun a ha => by
    obtain ⟨i, hi, rfl⟩ := List.mem_map.mp ha
    rw [getD_at (List.getElem?_eq_getElem (hlt i hi))]
    exact List.getElem_mem _
  have hin : Holds K φ H (subPl φ rs) H := ⟨fun _ _ h => h, fun p u h n => ⟨h, fun z => n.1 (hsub p z), fun z => z.elim n.2 fun z => n.1 z.1⟩, fun _ _ h => h, fun _ h => h, fun _ _ h => h⟩
  have hms : Rel K (subPl φ rs) H μs := by
    refine ⟨by show (rs.map _).length = _; rw [List.length_map, subMem_len hs], subPl_nodup hm.nd hnd hlt, fun b hb => ?_, fun j a ob e1 e2 => ?_⟩
    · rcases hb with hb | hb
      · exact ⟨fun z => (hm.av b hb).1 (hsub b z), (hm.av b hb).2⟩
      · exact ⟨hb.2, hm.tracked hb.1⟩
    · have hj : j < rs.length := by rw [← subMem_len hs]; exact (List.getElem?_eq_some_iff.mp e2).1
      obtain ⟨a', h1, h2⟩ := hpl j rs[j] (List.getElem?_eq_getElem hj)
      rw [h2] at e1; cases e1
      obtain ⟨ob', h3, h4, h5⟩ := subMem_at hs (List.getElem?_eq_getElem hj)
      rw [h3] at e2; cases e2
      exact (hm.obj _ _ _ h1 h4).flat_mono hin h5 fun _ z => z
  have hra : RepAll K (subPl φ rs) H vs (ds.map (renArg rs)) := by
    refine repAll_ren hin (fun i a hi e => ?_) hok (fun i hi => by rw [hrs] at hi; exact hi) ra
    obtain ⟨a', h1, h2⟩ := hpl _ i (idxOf_at hi)
    rw [h1] at e; cases e
    exact h2
  refine ⟨subPl φ rs, μs, ds.map (renArg rs), by rw [List.length_map]; exact hlen, hra, hms, ?_⟩
  -- behind the call
  have hsub' : ∀ {φ' : Pl} {H' : Hp}, Ext (subPl φ rs) H φ' H' → ∀ a, a ∈ (subPl φ rs).pl → a ∈ φ'.pl := fun {φ' H'} e a ha => by
    obtain ⟨t, rfl⟩ := e.pre
    exact List.mem_append_left _ ha
  have ext0 : ∀ {φ' : Pl} {H' : Hp}, Ext (subPl φ rs) H φ' H' → Ext φ H φ H' := fun {φ' H'} e => ⟨⟨[], by simp⟩, fun b ob h n => e.keep b ob h fun z => n (hsub b z), e.tups, e.frzs, fun _ z n => absurd z n⟩
  have outp : ∀ {φ' : Pl} {H' : Hp}, Ext (subPl φ rs) H φ' H' → ∀ p, φ'.out p → φ.out p := fun {φ' H'} e p n => ⟨fun z => by
    by_cases hz : p ∈ (subPl φ rs).pl
    · exact n.1 (hsub' e p hz)
    · exact n.2 (by rw [e.av]; exact .inr ⟨z, hz⟩), fun z => n.2 (by rw [e.av]; exact .inl z)⟩
  have objs : ∀ {φ' φ2 : Pl} {H' : Hp} {μ' : Mem}, Ext (subPl φ rs) H φ' H' → Rel K φ' H' μ' → (μ'.take μs.length).all MO.flat = true → μs.length ≤ μ'.length → Ext φ H φ2 H' → Holds K φ' H' φ2 H' →
      ∀ i a ob, φ.pl[i]? = some a → (writeAll μ rs (μ'.take μs.length))[i]? = some ob → ObjRep K φ2 H' a ob := fun {φ' φ2 H' μ'} e r hf hlen' e2' hh i a ob e1 e2 => by
    by_cases hi : i ∈ rs
    · have hj := idxOf_at hi
      obtain ⟨a', h1, h2⟩ := hpl _ i hj
      rw [e1] at h1; cases h1
      have hjl : rs.idxOf i < μs.length := by rw [subMem_len hs]; exact List.idxOf_lt_length_of_mem hi
      have hjl' : rs.idxOf i < μ'.length := Nat.lt_of_lt_of_le hjl hlen'
      have hq : (μ'.take μs.length)[rs.idxOf i]? = some μ'[rs.idxOf i] := by
        rw [List.getElem?_take_of_lt hjl, List.getElem?_eq_getElem hjl']
      rw [writeAll_at rs _ μ hnd hj hq (by rw [← hm.len]; exact hlt i hi)] at e2
      cases e2
      have hfl : (μ'[rs.idxOf i]).flat = true := List.all_eq_true.mp hf _ (List.mem_of_getElem? hq)
      exact (r.obj (rs.idxOf i) a _ (e.get h2) (List.getElem?_eq_getElem hjl')).flat_mono hh hfl fun _ z => z
    · rw [writeAll_out rs _ μ hi] at e2
      refine (hm.obj i a ob e1 e2).ext e2' ?_
      obtain ⟨u, hu⟩ := (hm.obj i a ob e1 e2).tracked
      have : a ∉ (subPl φ rs).pl := fun z => by
        obtain ⟨j, hj, ej⟩ := List.mem_map.mp z
        have lj := hlt j hj
        rw [getD_at (List.getElem?_eq_getElem lj)] at ej
        have e1' : φ.pl[j]? = some a := by rw [List.getElem?_eq_getElem lj, ej]
        obtain ⟨h1, q1⟩ := List.getElem?_eq_some_iff.mp e1
        obtain ⟨h2, q2⟩ := List.getElem?_eq_some_iff.mp e1'
        have : i = j := (List.getElem_inj hm.nd).mp (q1.trans q2.symm)
        exact hi (by rw [this]; exact hj)
      rw [hu, e.keep a u hu this]
  have back : ∀ {φ' : Pl} {H' : Hp} {μ' : Mem}, Ext (subPl φ rs) H φ' H' → Rel K φ' H' μ' → (μ'.take μs.length).all MO.flat = true → μs.length ≤ μ'.length → Ext φ H φ H' ∧ Holds K φ' H' φ H' ∧ Rel K φ H' (writeAll μ rs (μ'.take μs.length)) := fun {φ' H' μ'} e r hf hlen' => by
    have hh : Holds K φ' H' φ H' := ⟨fun _ _ h => h, fun p u h n => ⟨h, outp e p n⟩, fun _ _ h => h, fun _ h => h, fun _ _ h => h⟩
    refine ⟨ext0 e, hh, by rw [writeAll_len]; exact hm.len, hm.nd, fun b hb => ⟨(hm.av b hb).1, ?_⟩, objs e r hf hlen' (ext0 e) hh⟩
    obtain ⟨n, u, q⟩ := hm.av b hb
    exact ⟨u, (ext0 e).keep b u q n⟩
  cases hfn : fn (ds.map (renArg rs)) μs with
  | bad => rw [hfn] at o; exact o.elim
  | err x μ' =>
    rw [hfn] at o
    dsimp only at o
    split at o
    rotate_left
    · exact o.elim
    rename_i hc
    intro φ' H' cls dx e r xr
    obtain ⟨e0, hh, r0⟩ := back e r hc.1 hc.2.1
    refine o φ H' cls dx e0 r0 ⟨xr.1, ?_⟩
    have x2 := xr.2
    have xn := hc.2.2
    unfold Exn.nr at xn
    cases hx : x.fld with
    | none => rw [hx] at x2; exact x2
    | some fs =>
      rw [hx] at x2 xn
      obtain ⟨a, vs, h2, h3, h4⟩ := x2
      exact ⟨a, vs, h2, h3, h4.nr_mono hh _ xn⟩
  | ok d μ' =>
    rw [hfn] at o
    dsimp only at o
    split at o
    rotate_left
    · exact o.elim
    rename_i hc
    intro φ' H' e r v rv
    obtain ⟨e0, hh, r0⟩ := back e r hc.1 hc.2
    unfold outD at o
    split at o
    · rename_i hn
      exact o φ H' e0 r0 v (Rep.nr_mono hh d hn rv)
    · split at o
      · rename_i j hj
        unfold Rep at rv
        obtain ⟨a, rfl, ha⟩ := rv
        split at o
        · rename_i i hi
          obtain ⟨a', h1, h2⟩ := hpl j i hi
          have := e.get h2
          rw [ha] at this; cases this
          exact o φ H' e0 r0 _ (by unfold Rep; exact ⟨a, rfl, h1⟩)
        · rename_i hi
          have hnew : a ∉ (subPl φ rs).pl := fun z => by
            obtain ⟨j', hj', ej⟩ := List.mem_iff_getElem.mp z
            have q1 := e.get (List.getElem?_eq_some_iff.mpr ⟨hj', ej⟩)
            obtain ⟨h1, q1⟩ := List.getElem?_eq_some_iff.mp q1
            obtain ⟨h2, q2⟩ := List.getElem?_eq_some_iff.mp ha
            have : j = j' := (List.getElem_inj r.nd).mp (q2.trans q1.symm)
            rw [this, List.getElem?_eq_none_iff] at hi
            have hj2 : j' < rs.length := by simpa [subPl] using hj'
            omega
          have hn0 : H a = none := e.new a (List.mem_of_getElem? ha) hnew
          have hout : φ.out a := hm.out hn0
          have hap : a ∈ φ'.pl := List.mem_of_getElem? ha
          split at o
          · rename_i ob hob
            split at o
            · rename_i hfl
              cases mb with
              | true =>
                have e1 : Ext φ H (φ.push a) H' := ⟨⟨[a], rfl⟩, e0.keep, e0.tups, e0.frzs, fun b q n => by
                  rcases List.mem_append.mp q with q | q
                  · exact absurd q n
                  · have : b = a := by simpa using q
                    rw [this]; exact hn0⟩
                have hl2 : Holds K φ' H' (φ.push a) H' := ⟨fun _ _ h => h, fun p u h n => ⟨h, fun z => by
                  rcases List.mem_append.mp z with z | z
                  · exact (outp e p n).1 z
                  · have : p = a := by simpa using z
                    rw [this] at n; exact n.1 hap, (outp e p n).2⟩, fun _ _ h => h, fun _ h => h, fun _ _ h => h⟩
                refine o (φ.push a) H' e1 ⟨by simp [r0.len], ?_, fun b hb => ⟨fun z => ?_, (r0.av b hb).2⟩, fun i b u e1' e2 => ?_⟩ _ ?_
                · exact List.nodup_append.mpr ⟨r0.nd, by simp, fun x hx y hy => by
                    have ey : y = a := by simpa using hy
                    rw [ey]; intro z; exact hout.1 (by rw [← z]; exact hx)⟩
                · rcases List.mem_append.mp z with z | z
                  · exact (r0.av b hb).1 z
                  · have : b = a := by simpa using z
                    rw [this] at hb; exact hout.2 hb
                · have e1' : (φ.pl ++ [a])[i]? = some b := e1'
                  by_cases hi' : i < φ.pl.length
                  · rw [List.getElem?_append_left hi'] at e1'
                    rw [List.getElem?_append_left (by rw [← r0.len]; exact hi')] at e2
                    exact objs e r hc.1 hc.2 e1 hl2 i b u e1' e2
                  · rw [List.getElem?_append_right (Nat.le_of_not_lt hi')] at e1'
                    rw [List.getElem?_append_right (by rw [← r0.len]; exact Nat.le_of_not_lt hi'), ← r0.len] at e2
                    have z : i - φ.pl.length = 0 := by
                      cases q : i - φ.pl.length with
                      | zero => rfl
                      | succ n => rw [q] at e1'; simp at e1'
                    rw [z] at e1' e2
                    simp at e1' e2
                    subst e1'; subst e2
                    exact (r.obj j a ob ha hob).flat_mono hl2 hfl fun _ z => z
                · unfold Rep
                  exact ⟨a, rfl, by rw [← r0.len]; simp⟩
              | false =>
                have hob' := (r.obj j a ob ha hob).flat_mono hh hfl fun _ z => z
                cases ob with
                | lst xs =>
                  obtain ⟨ws, h1, h2⟩ := hob'
                  exact o φ H' e0 r0 _ (rep_lst h1 hout h2)
                | dct ks xs => exact o.elim
                | ins C ks xs => exact o.elim
                | gone => exact o.elim
                | flst xs => exact o.elim
            · exact o.elim
          · exact o.elim
      · exact o.elim
end
/-- a def, handed its memory so -/
theorem fnP {P : Program} {w : World} {K : PySem.W.Frag} {mg : Str → Option Value} {base : Heap} {k : Nat} {f : Addr} {fd : FuncData} {ps : List Str} {np : Nat} {fn : List D → Mem → Res D} (mb : Bool) (F : FnG P w K mg base (L2.CX P w) k f fd ps (spOf K np fn)) :
    FnG P w K mg base (L2.CX P w) k f fd ps (spOf K np (proto mb fn)) := F.imp fun vs H Q E h => proto_ok vs H Q E h
theorem fn0 {P : Program} {w : World} {K : PySem.W.Frag} {mg : Str → Option Value} {base : Heap} {f : Addr} {fd : FuncData} {ps : List Str} {np : Nat} {k : Nat} : FnG P w K mg base (L2.CX P w) k f fd ps (spOf K np (fun _ _ => .bad)) :=
  ⟨fun vs H Q E ⟨φ, μ, ds, _, _, _, o⟩ => o.elim, fun A outer s H args us vs Q E _ _ _ _ _ ⟨φ, μ, ds, _, _, _, o⟩ => o.elim⟩

/-! ### calls -/
/-- a def that may be called by its name: st its text, ps its parameters -/
structure Cal (P : Program) (w : World) (K : PySem.W.Frag) (mg : Str → Option Value) (base : Heap) (k : Nat) (x : Str) (st : Stmt) (ps : List Str) (fn : List D → Mem → Res D) : Prop where
  ex : ∃ (y : Str) (f : Addr) (fd : FuncData), FnG P w K mg base (L2.CX P w) k f fd ps (spOf K ps.length fn) ∧ mg x = some (.ref f) ∧ Fun K y y st f fd
abbrev CalX (X : Cx) := Cal X.prog X.w X.K X.mg X.base
def E.call (fn : List D → Mem → Res D) (as : EA) : EE := fun ρ μ => (as ρ μ).bind fun ds μ => fn ds μ
/-- f(e, .., k = v, ..): g puts the keywords' values in place -/
def E.callK (fn : List D → Mem → Res D) (g : List D → List D → List D) (as ks : EA) : EE := fun ρ μ => (as ρ μ).bind fun ds μ => (ks ρ μ).bind fun es μ => fn (g ds es) μ
section
variable {X : Cx} {W : WX} {k : Nat} {f : Addr} {fd : FuncData} {ps : List Str} {fn : List D → Mem → Res D} {x : Str} {p pos : Pos} {e : Expr} {es : List Expr} {ms : EA}
theorem sp_of {np : Nat} {ds : List D} {vs : List V} {σ : L2.St} {H : Hp} {φ : Pl} {μ : Mem} {Q : VK} (hlen : ds.length = np) (r : RepAll X.K φ H vs ds) (hm : Rel X.K φ H μ) (o : OutG X.K W σ φ H (GV X.K Q) (fn ds μ)) : spOf X.K np fn vs H Q (WE W σ) := by
  refine ⟨φ, μ, ds, hlen, r, hm, ?_⟩
  revert o
  cases fn ds μ with
  | ok d μ' => exact fun o => o
  | err x μ' => exact fun o φ' H' cls dx e r xr => o φ' H' cls dx e r xr
  | bad => exact fun o => o
theorem run_fnG {CX : CXT} {sp : Sp} {E : L2.St → XK} {pins : List (Addr × Obj)} {σ : L2.St} {H : Hp} {s : Shared} {Q : VK} {us : List Value} {vs : List V} (F : FnG X.prog X.w X.K X.mg X.base CX k f fd ps sp) (hG : X.A.guards = some []) (hr : Room k X.A) (hb : Binds X.K fd ps []) (hx : PassesAt CX X σ (E σ))
    (I : Inv X pins σ H s) (r : Vals vs us) (h : sp vs H Q (E σ)) : wpAny (model X.prog X.w) X.A (call (.ref f) us) (EP X pins σ Q) X.xe s := by
  have hl : (us ++ []).length = ps.length := by rw [List.append_nil, ← r.length]; exact F.len _ _ _ _ h
  have hb' := hb s us I.kIn hl
  rw [List.append_nil] at hb'
  refine wpAny_call (codeAny_mono (F.run X.A X.stack s H ⟨us, []⟩ us vs Q (E σ) hG hr I.env0 hb' r h) fun r s' hq => ?_)
  cases r with
  | error e => exact hx pins H s e s' I hq
  | ok fl =>
    cases fl with
    | ret u => exact I.after hq
    | next => exact False.elim hq
    | brk => exact False.elim hq
    | cont => exact False.elim hq
/-- every argument in its place. hbn: fun _ _ _ _ _ _ us hl => match us, hl with | [_, ..], _ => rfl -/
theorem se_call {st : Stmt} {n : Nat} (c : CalX X k x st ps fn) (hG : X.A.guards = some []) (hr : Room k X.A) (hg : Gl X x) (tk : Takes X W) (ha : PA X (e :: es) (liftA X.K W ms))
    (hbn : ∀ {y : Str} (kV doc pm : Value) (an : Option Addr) (cdv ct : Value) (us : List Value), us.length = ps.length → bindArgs (PySem.W.fnOf y y (defArgs st) (defBody st) (defScope st) .none kV doc pm an cdv ct) ⟨us, []⟩ = pure (ps.zip us))
    (hlen : ∀ ρ μ ds μ', ms ρ μ = .ok ds μ' → ds.length = n) (hn : n = ps.length) (hdb : (x == ("__debug__" : Str)) = false := by decide)
    (he : starEach (e :: es) X.env = (false, eval e X.env) :: starEach es X.env := by rfl) (hpl : (backTo pos (starEach es X.env)).any (·.1) = false := by rfl) : PE X (.Call (.Name x p) (e :: es) [] pos) (lift X.K W (E.call fn ms)) := by
  obtain ⟨yy, f, fd, F, hm, hf⟩ := c.ex
  refine ⟨fun pins s σ H Q I ⟨φ, ρ, μ, hl, hr', o⟩ => ?_⟩
  refine wpAny_Call_Name_kw (ld_glob I hg hm ?_ hdb)
  refine PySem.W.callWith_K (h₀ := X.base) I.ok.mod.kin hf.kp ?_ he hpl
  have o1 : OutG X.K W σ φ H (fun ds μ' φ' H' => ds.length = ps.length ∧ OutG X.K W σ φ' H' (GV X.K Q) (fn ds μ')) (ms ρ μ) := by
    have o2 := OutG.bind o
    cases hq : ms ρ μ with
    | ok ds μ' => rw [hq] at o2; exact fun φ' H' e r => ⟨(hlen _ _ _ _ hq).trans hn, o2 φ' H' e r⟩
    | err x μ' => rw [hq] at o2; exact o2
    | bad => rw [hq] at o2; exact o2
  refine useA ha I hl hr' o1 fun us s1 vs H1 ds μ1 φ1 I1 rv e1 m1 p1 o1 => ⟨I1.kIn, ?_⟩
  exact run_fnG (E := WE W) F hG hr (hf.binds hbn) (passAt tk σ) I1 rv (sp_of o1.1 p1 m1 o1.2)
theorem al_nil : ∀ ρ μ ds μ', A.nil ρ μ = .ok ds μ' → ds.length = 0 := fun ρ μ ds μ' h => by cases h; rfl
theorem al_cons {a : EE} {as : EA} {n : Nat} (h : ∀ ρ μ ds μ', as ρ μ = .ok ds μ' → ds.length = n) : ∀ ρ μ ds μ', A.cons a as ρ μ = .ok ds μ' → ds.length = n + 1 := fun ρ μ ds μ' q => by
  unfold A.cons at q
  revert q
  cases a ρ μ with
  | ok d μ1 =>
    show ((as ρ μ1).bind fun xs μ => Res.ok (d :: xs) μ) = _ → _
    cases hq : as ρ μ1 with
    | ok xs μ2 => intro q; cases q; rw [List.length_cons, h _ _ _ _ hq]
    | err x μ2 => intro q; cases q
    | bad => intro q; cases q
  | err x μ2 => intro q; cases q
  | bad => intro q; cases q
theorem sk_nil : PK X [] (liftA X.K W A.nil) := ⟨fun pos pins s σ H Q I ⟨φ, ρ, μ, hl, hm, o⟩ => wpAny_evalAll_nil ⟨[], H, I, .nil, o φ H Ext.refl hm [] RepAll.nil_⟩⟩
theorem sk_cons {nm : Option Str} {kpos : Pos} {kws : List Keyword} {m : EE} (ha : PE X e (lift X.K W m)) (hr : PK X kws (liftA X.K W ms)) : PK X (⟨nm, e, kpos⟩ :: kws) (liftA X.K W (A.cons m ms)) := by
  refine ⟨fun pos pins s σ H Q I ⟨φ, ρ, μ, hl, hm, o⟩ => ?_⟩
  show wpAny _ _ (evalAll ((do let v ← eval e X.env; standAt pos; pure v) :: (backToKw pos (keywordEach kws X.env)).map (·.2))) _ _ s
  refine wpAny_evalAll_cons (wpAny_bind (use ha I hl hm (OutG.bind o) fun u s1 v H1 d μ1 φ1 I1 r1 e1 m1 p1 o1 => wpAny_bind (wpAny_standAt (wpAny_pure ?_))))
  refine thn (hr.run pos pins s1 σ H1 (fun vs H' => Q (v :: vs) H') I1 ⟨φ1, ρ, μ1, hl.ext e1, m1, (OutG.bind o1).imp fun ds μ2 φ2 H2 e2 m2 o2 vs rv => o2 φ2 H2 Ext.refl m2 (v :: vs) (RepAll.cons_ (p1.ext e2) rv)⟩) ?_
  rintro us s2 ⟨vs, H2, I2, r2, q⟩
  exact ⟨v :: vs, H2, I2, .cons r1 r2, q⟩
end
/-- these of a list -/
def pick {α : Type} (perm : List Nat) (l : List α) : List α := perm.filterMap fun i => l[i]?
theorem pick_vals {vs : List V} {us : List Value} (r : Vals vs us) : ∀ perm : List Nat, Vals (pick perm vs) (pick perm us)
  | [] => .nil
  | i :: p => by
    have ih := pick_vals r p
    have hl := r.length
    unfold pick at ih ⊢
    by_cases hi : i < vs.length
    · obtain ⟨u, hu, ru⟩ := r.get (List.getElem?_eq_getElem hi)
      rw [List.filterMap_cons, List.filterMap_cons, List.getElem?_eq_getElem hi, hu]
      exact .cons ru ih
    · rw [List.filterMap_cons, List.filterMap_cons, List.getElem?_eq_none (by omega), List.getElem?_eq_none (by omega)]
      exact ih
theorem pick_rep {K : PySem.W.Frag} {φ : Pl} {H : Hp} {vs : List V} {ds : List D} (r : RepAll K φ H vs ds) : ∀ perm : List Nat, RepAll K φ H (pick perm vs) (pick perm ds)
  | [] => RepAll.nil_
  | i :: p => by
    have ih := pick_rep r p
    have hl := r.length
    unfold pick at ih ⊢
    by_cases hi : i < ds.length
    · obtain ⟨u, hu, ru⟩ := r.get (List.getElem?_eq_getElem hi)
      rw [List.filterMap_cons, List.filterMap_cons, List.getElem?_eq_getElem hi, hu]
      exact RepAll.cons_ ru ih
    · rw [List.filterMap_cons, List.filterMap_cons, List.getElem?_eq_none (by omega), List.getElem?_eq_none (by omega)]
      exact ih
section
variable {X : Cx} {W : WX} {k : Nat} {f : Addr} {fd : FuncData} {ps : List Str} {fn : List D → Mem → Res D} {x : Str} {p pos : Pos} {e : Expr} {es : List Expr} {ms mk : EA}
theorem run_fnGK {CX : CXT} {sp : Sp} {E : L2.St → XK} {pins : List (Addr × Obj)} {σ : L2.St} {H : Hp} {s : Shared} {Q : VK} {us zs : List Value} {vs : List V} {kw : List (Str × Value)} (F : FnG X.prog X.w X.K X.mg X.base CX k f fd ps sp) (hG : X.A.guards = some []) (hr : Room k X.A)
    (hb : BindsTo s fd ⟨us, kw⟩ (ps.zip zs)) (hx : PassesAt CX X σ (E σ)) (I : Inv X pins σ H s) (r : Vals vs zs) (h : sp vs H Q (E σ)) : wpAny (model X.prog X.w) X.A (call (.ref f) us kw) (EP X pins σ Q) X.xe s := by
  refine wpAny_call (codeAny_mono (F.run X.A X.stack s H ⟨us, kw⟩ zs vs Q (E σ) hG hr I.env0 hb r h) fun r s' hq => ?_)
  cases r with
  | error e => exact hx pins H s e s' I hq
  | ok fl =>
    cases fl with
    | ret u => exact I.after hq
    | next => exact False.elim hq
    | brk => exact False.elim hq
    | cont => exact False.elim hq
theorem lenO {α : Type} {W : WX} {K : PySem.W.Frag} {σ : L2.St} {φ : Pl} {H : Hp} {ρ : Dp.Loc} {μ : Mem} {n : Nat} {G : List D → Mem → Pl → Hp → Prop} (hlen : ∀ ρ μ ds μ', ms ρ μ = .ok ds μ' → ds.length = n) (o : OutG K W σ φ H G (ms ρ μ)) :
    OutG K W σ φ H (fun ds μ' φ' H' => ds.length = n ∧ G ds μ' φ' H') (ms ρ μ) := by
  cases hq : ms ρ μ with
  | ok ds μ' => rw [hq] at o; exact fun φ' H' e r => ⟨hlen _ _ _ _ hq, o φ' H' e r⟩
  | err x μ' => rw [hq] at o; exact o
  | bad => rw [hq] at o; exact o
/-- f(e, .., k = v, ..); hbn: fun _ _ _ _ _ _ us ws hl hw => match us, ws, hl, hw with | [_], [_], _, _ => rfl -/
theorem se_callK {st : Stmt} {n m : Nat} {ks : List Str} {perm : List Nat} {kws : List Keyword} (c : CalX X k x st ps fn) (hG : X.A.guards = some []) (hr : Room k X.A) (hg : Gl X x) (tk : Takes X W) (ha : PA X (e :: es) (liftA X.K W ms)) (hk : PK X kws (liftA X.K W mk))
    (hlen : ∀ ρ μ ds μ', ms ρ μ = .ok ds μ' → ds.length = n) (hlenk : ∀ ρ μ ds μ', mk ρ μ = .ok ds μ' → ds.length = m)
    (hbn : ∀ {y : Str} (kV doc pm : Value) (an : Option Addr) (cdv ct : Value) (us ws : List Value), us.length = n → ws.length = m → bindArgs (PySem.W.fnOf y y (defArgs st) (defBody st) (defScope st) .none kV doc pm an cdv ct) ⟨us, ks.zip ws⟩ = pure (ps.zip (pick perm (us ++ ws))))
    (hperm : perm.all (· < n + m) = true) (hn : perm.length = ps.length) (hall : (backToKw pos (keywordEach kws X.env)).all (·.1.isSome) = true := by rfl) (hks : (backToKw pos (keywordEach kws X.env)).filterMap (·.1) = ks := by rfl) (hdb : (x == ("__debug__" : Str)) = false := by decide)
    (he : starEach (e :: es) X.env = (false, eval e X.env) :: starEach es X.env := by rfl) (hpl : ((backTo pos (starEach (e :: es) X.env)).any (·.1) || (backToKw pos (keywordEach kws X.env)).any (·.1.isNone)) = false := by rfl) :
    PE X (.Call (.Name x p) (e :: es) kws pos) (lift X.K W (E.callK fn (fun ds es => pick perm (ds ++ es)) ms mk)) := by
  obtain ⟨yy, f, fd, F, hm, hf⟩ := c.ex
  refine ⟨fun pins s σ H Q I ⟨φ, ρ, μ, hl, hr', o⟩ => ?_⟩
  refine wpAny_Call_Name_kw (ld_glob I hg hm ?_ hdb)
  refine PySem.W.callWith_KW (h₀ := X.base) I.ok.mod.kin hf.kp hall (useA ha I hl hr' (lenO (α := D) hlen (OutG.bind o)) fun us s1 vs H1 ds μ1 φ1 I1 rv e1 m1 p1 o1 => ?_) hpl he
  have o2 := lenO (α := D) hlenk (OutG.bind o1.2)
  refine thn (hk.run pos pins s1 σ H1 (fun zs H' => ∃ es μ' φ', Ext φ1 H1 φ' H' ∧ Rel X.K φ' H' μ' ∧ RepAll X.K φ' H' zs es ∧ es.length = m ∧ OutG X.K W σ φ' H' (GV X.K Q) (fn (pick perm (ds ++ es)) μ')) I1 ⟨φ1, ρ, μ1, hl.ext e1, m1, o2.imp fun es μ' φ' H' e r g zs rz => ⟨es, μ', φ', e, r, rz, g⟩⟩) ?_
  rintro ws s2 ⟨zs, H2, I2, rz, es', μ2, φ2, e2, m2, p2, l2, o3⟩
  refine ⟨I2.kIn, ?_⟩
  rw [hks]
  have hplen : (pick perm (ds ++ es')).length = ps.length := by
    rw [← hn]
    have : ∀ q : List Nat, q.all (· < n + m) = true → (pick q (ds ++ es')).length = q.length := fun q => by
      induction q with
      | nil => exact fun _ => rfl
      | cons i q ih =>
        intro h
        rw [List.all_cons, Bool.and_eq_true] at h
        have hi : i < (ds ++ es').length := by rw [List.length_append, o1.1, l2]; exact of_decide_eq_true h.1
        unfold pick at ih ⊢
        rw [List.filterMap_cons, List.getElem?_eq_getElem hi, List.length_cons, List.length_cons, ih h.2]
    exact this perm hperm
  obtain ⟨oc, od, kV, doc, pm, an, cdv, ct, osl, rfl, lk, hcd⟩ := hf.ex
  refine run_fnGK (E := WE W) F hG hr (.of_eq (hbn kV doc pm an cdv ct us ws ?_ ?_)) (passAt tk σ) I2 (pick_vals (rv.append rz) perm) (sp_of hplen (pick_rep (RepAll.append (p1.ext e2) p2) perm) m2 o3)
  · rw [← rv.length, p1.length]; exact o1.1
  · rw [← rz.length, p2.length]; exact l2
/-- f(k = v, ..) -/
theorem se_callK0 {st : Stmt} {m : Nat} {ks : List Str} {perm : List Nat} {kws : List Keyword} (c : CalX X k x st ps fn) (hG : X.A.guards = some []) (hr : Room k X.A) (hg : Gl X x) (tk : Takes X W) (hk : PK X kws (liftA X.K W mk))
    (hlenk : ∀ ρ μ ds μ', mk ρ μ = .ok ds μ' → ds.length = m)
    (hbn : ∀ {y : Str} (kV doc pm : Value) (an : Option Addr) (cdv ct : Value) (ws : List Value), ws.length = m → bindArgs (PySem.W.fnOf y y (defArgs st) (defBody st) (defScope st) .none kV doc pm an cdv ct) ⟨[], ks.zip ws⟩ = pure (ps.zip (pick perm ws)))
    (hperm : perm.all (· < m) = true) (hn : perm.length = ps.length) (hall : (backToKw pos (keywordEach kws X.env)).all (·.1.isSome) = true := by rfl) (hks : (backToKw pos (keywordEach kws X.env)).filterMap (·.1) = ks := by rfl) (hdb : (x == ("__debug__" : Str)) = false := by decide)
    (hpl : ((backTo pos (starEach [] X.env)).any (·.1) || (backToKw pos (keywordEach kws X.env)).any (·.1.isNone)) = false := by rfl) :
    PE X (.Call (.Name x p) [] kws pos) (lift X.K W (E.callK fn (fun ds es => pick perm (ds ++ es)) A.nil mk)) := by
  obtain ⟨yy, f, fd, F, hm, hf⟩ := c.ex
  refine ⟨fun pins s σ H Q I ⟨φ, ρ, μ, hl, hr', o⟩ => ?_⟩
  refine wpAny_Call_Name_kw (ld_glob I hg hm ?_ hdb)
  have o2 : OutG X.K W σ φ H (fun es μ' φ' H' => es.length = m ∧ OutG X.K W σ φ' H' (GV X.K Q) (fn (pick perm es) μ')) (mk ρ μ) := lenO (α := D) hlenk (OutG.bind (show OutG X.K W σ φ H (GV X.K Q) ((mk ρ μ).bind fun es μ => fn (pick perm ([] ++ es)) μ) from o))
  refine PySem.W.callWith_KW0 (h₀ := X.base) I.ok.mod.kin hf.kp hall ?_ hpl
  refine thn (hk.run pos pins s σ H (fun zs H' => ∃ es μ' φ', Ext φ H φ' H' ∧ Rel X.K φ' H' μ' ∧ RepAll X.K φ' H' zs es ∧ es.length = m ∧ OutG X.K W σ φ' H' (GV X.K Q) (fn (pick perm es) μ')) I ⟨φ, ρ, μ, hl, hr', o2.imp fun es μ' φ' H' e r g zs rz => ⟨es, μ', φ', e, r, rz, g⟩⟩) ?_
  rintro ws s2 ⟨zs, H2, I2, rz, es', μ2, φ2, e2, m2, p2, l2, o3⟩
  refine ⟨I2.kIn, ?_⟩
  rw [hks]
  have hplen : (pick perm es').length = ps.length := by
    rw [← hn]
    have : ∀ q : List Nat, q.all (· < m) = true → (pick q es').length = q.length := fun q => by
      induction q with
      | nil => exact fun _ => rfl
      | cons i q ih =>
        intro h
        rw [List.all_cons, Bool.and_eq_true] at h
        have hi : i < es'.length := by rw [l2]; exact of_decide_eq_true h.1
        unfold pick at ih ⊢
        rw [List.filterMap_cons, List.getElem?_eq_getElem hi, List.length_cons, List.length_cons, ih h.2]
    exact this perm hperm
  obtain ⟨oc, od, kV, doc, pm, an, cdv, ct, osl, rfl, lk, hcd⟩ := hf.ex
  refine run_fnGK (E := WE W) F hG hr (.of_eq (hbn kV doc pm an cdv ct ws ?_)) (passAt tk σ) I2 (pick_vals rz perm) (sp_of hplen (pick_rep p2 perm) m2 o3)
  rw [← rz.length, p2.length]; exact l2
end
end Dp

namespace PySem
open Sem (wp)
open AutoSeq1 (wpAny_loadPart')
theorem dp_meets_enumerate_new1 {v : Value} {o : Obj} {H : Heap → Prop} (B : Begins v o H) :
    Meets (Builtin.«enumerate.__new__» ⟨[.type "enumerate", v], []⟩) (fun _ R s => H s.heap ∧
      R (.ok (.ret (.ref (s.heap.push o).objs.size))) { s with heap := (s.heap.push o).push { cls := .type "enumerate", data := .fields #[.none, .bool false, .ref s.heap.objs.size, rawInt 0, .none, .none] } }) :=
  .of_wp fun prog w A R s h => by
    obtain ⟨hp, g, d, tk, os⟩ := s; obtain ⟨h1, h⟩ := h
    have hsub := sub_enumerate
    have q1 : ∀ {A' : Around} {E : Value → Shared → Prop} {Q : Value → Shared → Prop}, Q (.ref hp.objs.size) ⟨hp.push o, g, d, tk, os⟩ → wpAny (model prog w) A' (pyIter v) Q E ⟨hp, g, d, tk, os⟩ :=
      fun q => B.iter prog w _ _ ⟨hp, g, d, tk, os⟩ _ h1 q
    wp_walk using q1
    refine wpAny_stack_any fun st => wpAny_pure ?_
    split
    · rename_i c _ _ _ _ _
      cases (c == Value.type "enumerate")
      · wp_walk using q1
        exact ⟨_, rfl, h⟩
      · wp_walk using q1
        exact ⟨_, rfl, h⟩
    · wp_walk using q1
      exact ⟨_, rfl, h⟩
theorem dp_enum_begins {prog : Program} {w : World} {A : Around} {E : Value → Shared → Prop} {s : Shared} {v : Value} {o : Obj} {H : Heap → Prop} {Q : Value → Shared → Prop} (B : Begins v o H) (h1 : H s.heap)
    (h : ∀ h', IsEnum h' (s.heap.objs.size + 1) s.heap.objs.size 0 .none → h'.get? s.heap.objs.size = some o → h'.objs.size = s.heap.objs.size + 2 →
      (∀ b o, s.heap.get? b = some o → h'.get? b = some o) → Q (.ref (s.heap.objs.size + 1)) { s with heap := h' }) :
    wpAny (model prog w) A (call (.type "enumerate") [v]) Q E s := by
  refine callType_new F.called_enumerate (by decide) (F.typeCall_enumerate_1 _) (F.newCall_enumerate_1 _) (fun obj => F.args_object_init_2 obj _) F.entry_enumerate_new
    (dp_meets_enumerate_new1 B) ⟨h1, ?_⟩
  have hz : (s.heap.push o).objs.size = s.heap.objs.size + 1 := Heap.size_push ..
  show _ ∧ _
  rw [hz]
  have he : IsEnum ((s.heap.push o).push { cls := .type "enumerate", data := .fields #[.none, .bool false, .ref s.heap.objs.size, rawInt 0, .none, .none] }) (s.heap.objs.size + 1) s.heap.objs.size 0 .none := by
    have := Heap.get?_push_size (s.heap.push o) (o := { cls := .type "enumerate", data := .fields #[.none, .bool false, .ref s.heap.objs.size, rawInt 0, .none, .none] }) rfl
    rw [hz] at this; exact this
  refine ⟨⟨_, he, rfl⟩, h _ he (Heap.get?_push_of_some _ (Heap.get?_push_size _ B.free)) (by rw [Heap.size_push, hz]) fun b o x => Heap.get?_push_of_some _ (Heap.get?_push_of_some _ x)⟩
end PySem
namespace Dp
open PySem PySem.Spec PyProof.Rows L2

/-! ### what is walked -/
namespace Q
/-- the items of a list, of a tuple -/
def items (d : D) (μ : Mem) : Res (List D) := match d with
  | .lst xs => .ok xs μ
  | .tup xs => .ok xs μ
  | _ => .bad
def of (e : EE) : EA := fun ρ μ => (e ρ μ).bind items
/-- a text, sign by sign -/
def signs (x : Str) : List D := x.cps.toList.map fun c => .str ⟨#[c]⟩
def str (e : EE) : EA := fun ρ μ => (e ρ μ).bind fun d μ => match d with
  | .str x => .ok (signs x) μ
  | _ => .bad
def rangeL (lo : Int) (n : Nat) : List D := (List.range n).map fun i => .int (lo + (i : Nat))
/-- range(a, b, -1) -/
def downL (hi : Int) (n : Nat) : List D := (List.range n).map fun i => .int (hi - (i : Nat))
def range1 (as : EA) : EA := fun ρ μ => (as ρ μ).bind fun ds μ => match ds with
  | [.int j] => if -(2 ^ 62) ≤ j ∧ j < 2 ^ 62 then .ok (rangeL 0 j.toNat) μ else .bad
  | _ => .bad
def range2 (as : EA) : EA := fun ρ μ => (as ρ μ).bind fun ds μ => match ds with
  | [.int i, .int j] => if -(2 ^ 62) ≤ i ∧ i < 2 ^ 62 ∧ -(2 ^ 62) ≤ j ∧ j < 2 ^ 62 then .ok (rangeL i (j - i).toNat) μ else .bad
  | _ => .bad
def range3 (as : EA) : EA := fun ρ μ => (as ρ μ).bind fun ds μ => match ds with
  | [.int i, .int j, .int c] => if c = -1 ∧ -(2 ^ 62) ≤ i ∧ i < 2 ^ 62 ∧ -(2 ^ 62) ≤ j ∧ j < 2 ^ 62 then .ok (downL i (i - j).toNat) μ else .bad
  | _ => .bad
def enumL (xs : List D) : List D := (List.range xs.length).zipWith (fun i x => .tup [.int (i : Nat), x]) xs
def enum (as : EA) : EA := fun ρ μ => (as ρ μ).bind fun ds μ => match ds with
  | [.lst xs] => .ok (enumL xs) μ
  | [.tup xs] => .ok (enumL xs) μ
  | _ => .bad
def zipL (xs ys : List D) : List D := xs.zipWith (fun x y => .tup [x, y]) ys
/-- no tuple of pairs -/
def notPr : D → Bool
  | .tup ds => !pairsh ds
  | _ => true
theorem notPr_of {ds : List D} {i : Nat} {d d' : D} (h : ds.all notPr = true) (e : ds[i]? = some (.tup [d, d'])) : pairsh [d, d'] = false := by
  have := List.all_eq_true.mp h _ (List.mem_of_getElem? e)
  simpa [notPr] using this
def zip (as : EA) : EA := fun ρ μ => (as ρ μ).bind fun ds μ => match ds with
  | [.lst xs, .lst ys] => if (zipL xs ys).all notPr = true then .ok (zipL xs ys) μ else .bad
  | [.tup xs, .tup ys] => if (zipL xs ys).all notPr = true then .ok (zipL xs ys) μ else .bad
  | _ => .bad
end Q

theorem repAll_get' {K : PySem.W.Frag} {φ : Pl} {H : Hp} : ∀ {ds : List D} {vs : List V} {i : Nat} {v : V}, RepAll K φ H vs ds → vs[i]? = some v → ∃ d, ds[i]? = some d ∧ Rep K φ H v d := fun {ds vs i v} r e => by
  have hl := r.length
  have hi : i < ds.length := by rw [← hl]; exact (List.getElem?_eq_some_iff.mp e).1
  obtain ⟨v', h1, h2⟩ := r.get (List.getElem?_eq_getElem hi)
  rw [e] at h1; cases h1
  exact ⟨_, List.getElem?_eq_getElem hi, h2⟩
section
variable {K : PySem.W.Frag} {φ : Pl} {H : Hp}
theorem it_list {a : Addr} {vs : List V} {xs : List D} (q : H a = some (.lst vs)) (n : φ.out a) (r : RepAll K φ H vs xs) : ItOk K φ H (Itl K a) xs := by
  have w := walk_list (K := K) (a := a) (xs := vs)
  rw [r.length] at w
  refine ⟨_, _, w, fun φ1 H1 μ1 e _ => .of ((e.leans (K := K)).obj _ _ q n).1, fun i φ1 H1 μ1 x H2 _ e m y => ?_⟩
  obtain ⟨rfl, hx⟩ := y
  obtain ⟨d, h1, h2⟩ := repAll_get' r hx
  exact ⟨d, h1, Rep.mono e.leans _ h2, Ext.refl, m⟩
theorem it_tup {a : Addr} {vs : List V} {xs : List D} (q : SqT K H a vs) (r : RepAll K φ H vs xs) : ItOk K φ H (Itt K a) xs := by
  have w := walk_tup (K := K) (a := a) (xs := vs)
  rw [r.length] at w
  refine ⟨_, _, w, fun φ1 H1 μ1 e _ => e.leans.tup _ _ q, fun i φ1 H1 μ1 x H2 _ e m y => ?_⟩
  obtain ⟨rfl, hx⟩ := y
  obtain ⟨d, h1, h2⟩ := repAll_get' r hx
  exact ⟨d, h1, Rep.mono e.leans _ h2, Ext.refl, m⟩
/-- a new pair -/
theorem pair_new {μ : Mem} {T : Addr} {x y : V} {a b : D} (hm : Rel K φ H μ) (hT : H T = none) (ha : Rep K φ H x a) (hb : Rep K φ H y b) (hp : pairsh [a, b] = false) :
    Rep K φ (upd H T (.tup [x, y])) (.ref T) (.tup [a, b]) ∧ Ext φ H φ (upd H T (.tup [x, y])) ∧ Rel K φ (upd H T (.tup [x, y])) μ := by
  have e : Ext φ H φ (upd H T (.tup [x, y])) := Ext.fresh hT
  exact ⟨rep_tup (.of upd_same) (RepAll.cons_ (ha.ext e) (RepAll.cons_ (hb.ext e) RepAll.nil_)) (fun z => by rw [hp] at z; cases z), e, hm.fresh hT⟩
end
section
variable {X : Cx} {W : WX} {tg e a b c : Expr} {m ma mb mc : EE}
theorem pi_of (he : PE X e (lift X.K W m)) : PI X tg e (liftI X.K W (Q.of m)) := by
  refine ⟨fun pins s σ H R I ⟨φ, ρ, μ, hl, hm, o⟩ => use he I hl hm (OutG.bind o) fun u s1 v H1 d μ1 φ1 I1 r1 e1 m1 p1 o1 => ?_⟩
  cases d with
  | lst xs =>
    unfold Rep at p1
    obtain ⟨p, vs, rfl, ⟨q, n⟩, rs⟩ := p1
    cases r1
    obtain ⟨its, rv, pl, hz⟩ := I1.list (.of q)
    refine wpAny_pyIter_list pl.isList ?_
    refine ⟨s1.heap.objs.size, [s1.heap.objs.size], _, _, H1, rfl, I1.kept (t' := s1.toks) fun b o e => Heap.get?_push_of_some _ e, turn_list p _, ⟨_, Heap.get?_push_size _ rfl, rfl, rfl⟩, fun b hb => ?_, o1 φ1 H1 Ext.refl m1 _ (it_list q n rs)⟩
    have e : b = s1.heap.objs.size := by simpa using hb
    subst e
    exact I1.fpOk (Nat.le_refl _) (I1.hok.fresh (Nat.le_refl _))
  | tup xs =>
    unfold Rep at p1
    obtain ⟨p, vs, rfl, ⟨q, _⟩, rs⟩ := p1
    cases r1
    obtain ⟨its, rv, pl, hz⟩ := I1.tuple q
    refine wpAny_pyIter_tuple (show s1.heap.IsTuple p its.toArray from pl) ?_
    refine ⟨s1.heap.objs.size, [s1.heap.objs.size], _, _, H1, rfl, I1.kept (t' := s1.toks) fun b o e => Heap.get?_push_of_some _ e, turn_tuple p _, ⟨_, Heap.get?_push_size _ rfl, rfl, rfl⟩, fun b hb => ?_, o1 φ1 H1 Ext.refl m1 _ (it_tup q rs)⟩
    have e : b = s1.heap.objs.size := by simpa using hb
    subst e
    exact I1.fpOk (Nat.le_refl _) (I1.hok.fresh (Nat.le_refl _))
  | _ => exact o1.elim
theorem pi_strD (he : PE X e (lift X.K W m)) : PI X tg e (liftI X.K W (Q.str m)) :=
  pi_anti (pi_str he) fun σ H R ⟨φ, ρ, μ, hl, hm, o⟩ => ⟨φ, ρ, μ, hl, hm, (OutG.bind o).imp fun d μ1 φ1 H1 e1 m1 o1 v rv => by
    cases d with
    | str x =>
      unfold Rep at rv
      subst rv
      refine ⟨x, rfl, o1 φ1 H1 Ext.refl m1 _ ?_⟩
      have w := walk_str (z := x)
      have hl : (Q.signs x).length = x.cps.size := by simp [Q.signs]
      refine ⟨_, _, by rw [hl]; exact w, fun _ _ _ _ _ => trivial, fun i φ2 H2 μ2 y H3 _ e2 m2 hy => ?_⟩
      obtain ⟨rfl, c, hc, rfl⟩ := hy
      exact ⟨.str ⟨#[c]⟩, by simp [Q.signs, hc], by unfold Rep; rfl, Ext.refl, m2⟩
    | _ => exact o1.elim⟩
theorem it_range {K : PySem.W.Frag} {φ : Pl} {H : Hp} {lo : Int} {n : Nat} : ItOk K φ H (Itr lo n) (Q.rangeL lo n) := by
  have hl : (Q.rangeL lo n).length = n := by simp [Q.rangeL]
  refine ⟨_, _, by rw [hl]; exact walk_range, fun _ _ _ _ _ => trivial, fun i φ2 H2 μ2 y H3 hi e2 m2 hy => ?_⟩
  obtain ⟨rfl, rfl⟩ := hy
  rw [hl] at hi
  exact ⟨.int (lo + (i : Nat)), by simp [Q.rangeL, hi], by unfold Rep; rfl, Ext.refl, m2⟩
theorem it_down {K : PySem.W.Frag} {φ : Pl} {H : Hp} {lo : Int} {n : Nat} : ItOk K φ H (Itc lo (-1) n) (Q.downL lo n) := by
  have hl : (Q.downL lo n).length = n := by simp [Q.downL]
  refine ⟨_, _, by rw [hl]; exact walk_rangeC, fun _ _ _ _ _ => trivial, fun i φ2 H2 μ2 y H3 hi e2 m2 hy => ?_⟩
  obtain ⟨rfl, rfl⟩ := hy
  rw [hl] at hi
  exact ⟨.int (lo - (i : Nat)), by simp [Q.downL, hi], by unfold Rep; show V.int (lo + (i : Nat) * (-1)) = V.int (lo - (i : Nat)); congr 1; omega, Ext.refl, m2⟩
theorem rep_int {K : PySem.W.Frag} {φ : Pl} {H : Hp} {v : V} {i : Int} (h : Rep K φ H v (.int i)) : v = .int i := by unfold Rep at h; exact h
theorem rep_str {K : PySem.W.Frag} {φ : Pl} {H : Hp} {v : V} {i : Str} (h : Rep K φ H v (.str i)) : v = .str i := by unfold Rep at h; exact h
theorem repAll1 {K : PySem.W.Frag} {φ : Pl} {H : Hp} {vs : List V} {a : D} (r : RepAll K φ H vs [a]) : ∃ v, vs = [v] ∧ Rep K φ H v a := by
  unfold RepAll at r
  obtain ⟨v, r, rfl, h1, h2⟩ := r
  unfold RepAll at h2
  subst h2
  exact ⟨v, rfl, h1⟩
theorem repAll2 {K : PySem.W.Frag} {φ : Pl} {H : Hp} {vs : List V} {a b : D} (r : RepAll K φ H vs [a, b]) : ∃ v w, vs = [v, w] ∧ Rep K φ H v a ∧ Rep K φ H w b := by
  unfold RepAll at r
  obtain ⟨v, r, rfl, h1, h2⟩ := r
  obtain ⟨w, rfl, h3⟩ := repAll1 h2
  exact ⟨v, w, rfl, h1, h3⟩
theorem repAll3 {K : PySem.W.Frag} {φ : Pl} {H : Hp} {vs : List V} {a b c : D} (r : RepAll K φ H vs [a, b, c]) : ∃ v w x, vs = [v, w, x] ∧ Rep K φ H v a ∧ Rep K φ H w b ∧ Rep K φ H x c := by
  unfold RepAll at r
  obtain ⟨v, r, rfl, h1, h2⟩ := r
  obtain ⟨w, x, rfl, h3, h4⟩ := repAll2 h2
  exact ⟨v, w, x, rfl, h1, h3, h4⟩
theorem pi_range1D {p pos : Pos} {ms : EA} (hg : Gl X "range") (hm : X.mg "range" = none) (ha : PA X [a] (liftA X.K W ms)) (hs : starEach [a] X.env = [(false, eval a X.env)] := by rfl) : PI X tg (.Call (.Name "range" p) [a] [] pos) (liftI X.K W (Q.range1 ms)) :=
  pi_anti (pi_range1 hg hm ha hs) fun σ H R ⟨φ, ρ, μ, hl, hm, o⟩ => ⟨φ, ρ, μ, hl, hm, (OutG.bind o).imp fun ds μ1 φ1 H1 e1 m1 o1 vs rv => by
    split at o1
    · rename_i j
      obtain ⟨v, rfl, h1⟩ := repAll1 rv
      split at o1
      · rename_i hj
        exact ⟨j, by rw [rep_int h1], hj.1, hj.2, o1 φ1 H1 Ext.refl m1 _ it_range⟩
      · exact o1.elim
    · exact o1.elim⟩
theorem pi_range2D {p pos : Pos} {ms : EA} (hg : Gl X "range") (hm : X.mg "range" = none) (ha : PA X [a, b] (liftA X.K W ms)) (hs : starEach [a, b] X.env = [(false, eval a X.env), (false, eval b X.env)] := by rfl) (hs2 : starEach [b] X.env = [(false, eval b X.env)] := by rfl) :
    PI X tg (.Call (.Name "range" p) [a, b] [] pos) (liftI X.K W (Q.range2 ms)) :=
  pi_anti (pi_range2 hg hm ha hs hs2) fun σ H R ⟨φ, ρ, μ, hl, hm, o⟩ => ⟨φ, ρ, μ, hl, hm, (OutG.bind o).imp fun ds μ1 φ1 H1 e1 m1 o1 vs rv => by
    split at o1
    · rename_i i j
      obtain ⟨v, w, rfl, h1, h2⟩ := repAll2 rv
      split at o1
      · rename_i hj
        exact ⟨i, j, by rw [rep_int h1, rep_int h2], hj, o1 φ1 H1 Ext.refl m1 _ it_range⟩
      · exact o1.elim
    · exact o1.elim⟩
theorem pi_range3D {p pos : Pos} {ms : EA} (hg : Gl X "range") (hm : X.mg "range" = none) (ha : PA X [a, b, c] (liftA X.K W ms)) (hs : starEach [a, b, c] X.env = (false, eval a X.env) :: starEach [b, c] X.env := by rfl)
    (hpl : (backTo pos (starEach [b, c] X.env)).any (·.1) = false := by rfl) : PI X tg (.Call (.Name "range" p) [a, b, c] [] pos) (liftI X.K W (Q.range3 ms)) :=
  pi_anti (pi_range3 hg hm ha hs hpl) fun σ H R ⟨φ, ρ, μ, hl, hm, o⟩ => ⟨φ, ρ, μ, hl, hm, (OutG.bind o).imp fun ds μ1 φ1 H1 e1 m1 o1 vs rv => by
    split at o1
    · rename_i i j c
      obtain ⟨v, w, x, rfl, h1, h2, h3⟩ := repAll3 rv
      split at o1
      · rename_i hj
        obtain ⟨rfl, h4, h5, h6, h7⟩ := hj
        exact ⟨i, j, -1, (i - j).toNat, by rw [rep_int h1, rep_int h2, rep_int h3], RgC.neg h4 h5 h6 h7, o1 φ1 H1 Ext.refl m1 _ it_down⟩
      · exact o1.elim
    · exact o1.elim⟩

/-! ### enumerate, zip -/
/-- a tuple's items, each in a new pair -/
def IteT (K : PySem.W.Frag) (a : Addr) : It :=
  ⟨fun i H => ∃ (xs : List V) (x : V), SqT K H a xs ∧ xs[i]? = some x, fun i H v H' => ∃ T x, v = .ref T ∧ H T = none ∧ H' = upd H T (.tup [.int (i : Nat), x]) ∧ ∀ xs, SqT K H a xs → xs[i]? = some x, fun i H => ∃ xs : List V, SqT K H a xs ∧ xs.length = i⟩
theorem turn_enumT {P : Program} {w : World} {K : PySem.W.Frag} {elts : List Expr} {kk : Nat} {tpos : Pos} (a e it : Addr) :
    Turn P w K (.Tuple elts kk tpos) (IteT K a) [e, it] e (fun i h => (∃ old, IsEnum h e it ((i : Nat) : Int) old) ∧ h.IsTupleIter it a i ∧ e ≠ it ∧ a ≠ e ∧ a ≠ it) where
  mem := by simp
  obj := fun i h st b hb => by
    obtain ⟨⟨old, he⟩, ⟨o, ho, hc, hd⟩, _⟩ := st
    have e' : b = e ∨ b = it := by simpa using hb
    rcases e' with z | z
    · rw [z]; exact ⟨_, he, fun v q => nomatch q⟩
    · rw [z]; exact ⟨o, ho, fun v q => by rw [hd] at q; cases q⟩
  keep := fun i h h' st k => let ⟨⟨old, he⟩, hi, hne⟩ := st; ⟨⟨old, k e (by simp) _ he⟩, hi.at fun o q => k it (by simp) o q, hne⟩
  item := by
    intro X hP hw hK hc i pins s σ H E I hf st hg
    subst hP hw hK
    obtain ⟨⟨old, he⟩, hit, hne, nae, nai⟩ := st
    obtain ⟨xs, x, hq, hx⟩ := hg
    obtain ⟨its, rv, p, hz⟩ := I.tuple hq
    obtain ⟨u, hu, ru⟩ := rv.get hx
    have hel : e < s.heap.objs.size := Heap.lt_size he
    have hil : it < s.heap.objs.size := by obtain ⟨_, q, _⟩ := hit; exact Heap.lt_size q
    have hlt : i < its.toArray.size := by simp; exact (List.getElem?_eq_some_iff.mp hu).1
    have hh : X.A.in1.handled = none := I.ok.hd hc
    refine wpAny_pyNext_enum_itemD (Draws.tuple (prog := X.prog) (w := X.w) hh it a nai its.toArray) he ⟨hit, p⟩ hlt hne (by simp; exact ⟨hne, nae.symm⟩) fun y h' tk hP ho hst' hT hsz hk => ?_
    have hy : y = u := by
      have : its[i]? = some y := by simpa using hP
      rw [hu] at this; cases this; rfl
    subst hy
    refine ⟨_, rfl, wpAny_letOwnedTupleGo_enum (s := { s with heap := h', toks := tk + 1 }) ho fun h'' he' sb => ?_⟩
    have hT2 : h''.get? s.heap.objs.size = some { cls := .type "tuple", data := .seq #[.int i tk, y] } := (sb.2 _ (Nat.ne_of_gt hel)).trans hT
    have new : ObjOk X.prog X.w (upd H s.heap.objs.size (.tup [.int (i : Nat), x])) h'' s.heap.objs.size (.tup [.int (i : Nat), x]) :=
      ⟨by show 2 ≤ sizeLine; decide, [.int i tk, y], .cons ⟨_, rfl⟩ (.cons ru .nil), ⟨_, hT2, rfl, _, rfl⟩⟩
    have I1 : Inv X pins σ (upd H s.heap.objs.size (.tup [.int (i : Nat), x])) { s with heap := h'', toks := tk + 1 } :=
      I.turnedNew (ch := [e, it]) (fun b ob hb q => (sb.2 b (fun z => hb (by simp [z]))).trans (hk b ob (fun z => hb (by simp [z])) (fun z => hb (by simp [z])) q)) hf (Nat.le_refl _) new
    refine ⟨.ref s.heap.objs.size, _, I1, rfl, ⟨_, x, rfl, I.hok.fresh (Nat.le_refl _), rfl, fun ys hy => by rw [I.tuple_inj hy hq]; exact hx⟩, ⟨⟨y, ?_⟩, hst'.1.at fun o q => (sb.2 it (Ne.symm hne)).trans q, hne, nae, nai⟩, fun b hb => ?_⟩
    · have e1 : ((i + 1 : Nat) : Int) = (i : Int) + 1 := by omega
      rw [e1]; exact he'
    · have hb' : b < s.heap.objs.size := by
        have e' : b = e ∨ b = it := by simpa using hb
        rcases e' with z | z
        · rw [z]; exact hel
        · rw [z]; exact hil
      rw [upd_ne (Nat.ne_of_lt hb')]
      exact (hf b hb).1
  done := by
    intro X hP hw hK hc i pins s σ H E I hf st hg
    subst hP hw hK
    obtain ⟨⟨old, he⟩, hit, hne, nae, nai⟩ := st
    obtain ⟨xs, hq, hx⟩ := hg
    obtain ⟨its, rv, p, hz⟩ := I.tuple hq
    obtain ⟨f0, f1, f2, f3, f4, f5⟩ := hf it (by simp)
    have hl := rv.length
    have hh : X.A.in1.handled = none := I.ok.hd hc
    have hn : its.toArray.size = i := by simp; omega
    refine wpAny_pyNext_enum_endD (Draws.tuple (prog := X.prog) (w := X.w) hh it a nai its.toArray) he (by rw [hn]; exact ⟨hit, p⟩) fun h' eb => ⟨rfl, I.turned (t' := s.toks) (fun b o hb q => eb b o hb q) f0 f1 f3 f4 f5⟩
  self := fun A i s Q E st h => let ⟨⟨_, he⟩, _⟩ := st; wpAny_pyIter_enum he h
theorem walk_enumT {K : PySem.W.Frag} {a : Addr} {xs : List V} : Walk (IteT K a) xs.length (fun H => SqT K H a xs) (YPair (fun i => some (.int (i : Nat))) (fun i => xs[i]?)) := by
  refine ⟨fun i _ hi q => ⟨xs, xs[i], q, by simp [hi]⟩, fun _ q => ⟨xs, q, rfl⟩, fun i H v H' _ q y => ?_⟩
  obtain ⟨T, x, h1, h2, h3, h4⟩ := y
  exact ⟨T, .int (i : Nat), x, h1, h2, h3, rfl, h4 xs q⟩
theorem enumL_at {xs : List D} {i : Nat} {d : D} (h : xs[i]? = some d) : (Q.enumL xs)[i]? = some (.tup [.int (i : Nat), d]) := by
  unfold Q.enumL
  have hi := (List.getElem?_eq_some_iff.mp h).1
  rw [List.getElem?_zipWith, h]
  simp [hi]
theorem enumL_len (xs : List D) : (Q.enumL xs).length = xs.length := by simp [Q.enumL]
theorem it_enum {K : PySem.W.Frag} {φ : Pl} {H : Hp} {a : Addr} {vs : List V} {xs : List D} (q : H a = some (.lst vs)) (n : φ.out a) (r : RepAll K φ H vs xs) : ItOk K φ H (Ite K a) (Q.enumL xs) := by
  have w := walk_enum (K := K) (a := a) (xs := vs)
  rw [r.length, ← enumL_len xs] at w
  refine ⟨_, _, w, fun φ1 H1 μ1 e _ => .of ((e.leans (K := K)).obj _ _ q n).1, fun i φ1 H1 μ1 x H2 _ e m y => ?_⟩
  obtain ⟨T, x1, y1, rfl, hT, rfl, h1, h2⟩ := y
  cases h1
  obtain ⟨d, h3, h4⟩ := repAll_get' r h2
  obtain ⟨h5, h6, h7⟩ := pair_new m hT (a := .int (i : Nat)) (by unfold Rep; rfl) (Rep.mono e.leans _ h4) rfl
  exact ⟨_, enumL_at h3, h5, h6, h7⟩
theorem it_enumT {K : PySem.W.Frag} {φ : Pl} {H : Hp} {a : Addr} {vs : List V} {xs : List D} (q : SqT K H a vs) (r : RepAll K φ H vs xs) : ItOk K φ H (IteT K a) (Q.enumL xs) := by
  have w := walk_enumT (K := K) (a := a) (xs := vs)
  rw [r.length, ← enumL_len xs] at w
  refine ⟨_, _, w, fun φ1 H1 μ1 e _ => e.leans.tup _ _ q, fun i φ1 H1 μ1 x H2 _ e m y => ?_⟩
  obtain ⟨T, x1, y1, rfl, hT, rfl, h1, h2⟩ := y
  cases h1
  obtain ⟨d, h3, h4⟩ := repAll_get' r h2
  obtain ⟨h5, h6, h7⟩ := pair_new m hT (a := .int (i : Nat)) (by unfold Rep; rfl) (Rep.mono e.leans _ h4) rfl
  exact ⟨_, enumL_at h3, h5, h6, h7⟩
theorem pi_enumD {p pos tpos : Pos} {elts : List Expr} {kk : Nat} {ms : EA} (hg : Gl X "enumerate") (hm : X.mg "enumerate" = none) (ha : PA X [e] (liftA X.K W ms)) (hs : starEach [e] X.env = [(false, eval e X.env)] := by rfl) :
    PI X (.Tuple elts kk tpos) (.Call (.Name "enumerate" p) [e] [] pos) (liftI X.K W (Q.enum ms)) := by
  refine ⟨fun pins s σ H R I ⟨φ, ρ, μ, hl, hm', o⟩ => ?_⟩
  refine Call_ (ld_blt I hg hm boot_enumerate (PyProof.Rows.callWith_type1 (useA ha I hl hm' (OutG.bind o) fun us s1 vs H1 ds μ1 φ1 I1 r1 e1 m1 p1 o1 => ?_) hs rfl))
  have fre : ∀ b, b ∈ [s1.heap.objs.size + 1, s1.heap.objs.size] → FpOk X pins H1 b := fun b hb => by
    have e' : b = s1.heap.objs.size + 1 ∨ b = s1.heap.objs.size := by simpa using hb
    have hle : s1.heap.objs.size ≤ b := by
      rcases e' with z | z
      · rw [z]; exact Nat.le_add_right _ _
      · rw [z]; exact Nat.le_refl _
    exact I1.fpOk hle (I1.hok.fresh hle)
  split at o1
  · rename_i xs
    obtain ⟨v, rfl, h1⟩ := repAll1 p1
    unfold Rep at h1
    obtain ⟨a, vs, rfl, ⟨q, n⟩, rs⟩ := h1
    obtain ⟨u, rfl, ru⟩ := vals1 r1
    cases ru
    obtain ⟨its, rv, p', hz⟩ := I1.list (.of q)
    refine call_enumerate_list p'.isList fun h' he hit hsz hk => wpAny_pyIter_enum he ?_
    have I2 : Inv X pins σ H1 { s1 with heap := h' } := I1.kept (t' := s1.toks) hk
    exact ⟨s1.heap.objs.size + 1, [s1.heap.objs.size + 1, s1.heap.objs.size], _, _, H1, rfl, I2, turn_enum a (s1.heap.objs.size + 1) s1.heap.objs.size, ⟨⟨.none, he⟩, hit, Nat.succ_ne_self _⟩, fre, o1 φ1 H1 Ext.refl m1 _ (it_enum q n rs)⟩
  · rename_i xs
    obtain ⟨v, rfl, h1⟩ := repAll1 p1
    unfold Rep at h1
    obtain ⟨a, vs, rfl, ⟨q, _⟩, rs⟩ := h1
    obtain ⟨u, rfl, ru⟩ := vals1 r1
    cases ru
    obtain ⟨its, rv, p', hz⟩ := I1.tuple q
    have hal : a < s1.heap.objs.size := by obtain ⟨o, ho, _⟩ := p'; exact Heap.lt_size ho
    refine dp_enum_begins (begins_tuple a its.toArray) (show s1.heap.IsTuple a its.toArray from p') fun h' he hit hsz hk => wpAny_pyIter_enum he ?_
    have I2 : Inv X pins σ H1 { s1 with heap := h' } := I1.kept (t' := s1.toks) hk
    exact ⟨s1.heap.objs.size + 1, [s1.heap.objs.size + 1, s1.heap.objs.size], _, _, H1, rfl, I2, turn_enumT a (s1.heap.objs.size + 1) s1.heap.objs.size, ⟨⟨.none, he⟩, ⟨_, hit, rfl, rfl⟩, Nat.succ_ne_self _, Nat.ne_of_lt (Nat.lt_succ_of_lt hal), Nat.ne_of_lt hal⟩, fre, o1 φ1 H1 Ext.refl m1 _ (it_enumT q rs)⟩
  · exact o1.elim
theorem zipL_at {xs ys : List D} {i : Nat} {a b : D} (h : xs[i]? = some a) (h' : ys[i]? = some b) : (Q.zipL xs ys)[i]? = some (.tup [a, b]) := by
  unfold Q.zipL
  rw [List.getElem?_zipWith, h, h']
theorem zipL_len (xs ys : List D) : (Q.zipL xs ys).length = min xs.length ys.length := by simp [Q.zipL]
theorem walk_zipT {K : PySem.W.Frag} {a b : Addr} {xs ys : List V} {n : Nat} (hn : n = min xs.length ys.length) : Walk (RZ.ItzT K a b) n (fun H => SqT K H a xs ∧ SqT K H b ys) (YPair (fun i => xs[i]?) (fun i => ys[i]?)) := by
  subst hn
  refine ⟨fun i _ hi q => ?_, fun _ q => ⟨xs, ys, q.1, q.2, by omega⟩, fun i H v H' _ q y => ?_⟩
  · have h1 : i < xs.length := by omega
    have h2 : i < ys.length := by omega
    exact ⟨xs, ys, xs[i], ys[i], q.1, q.2, by simp [h1], by simp [h2]⟩
  · obtain ⟨T, x, z, h1, h2, h3, h4, h5⟩ := y
    exact ⟨T, x, z, h1, h2, h3, h4 xs q.1, h5 ys q.2⟩
theorem pi_zipD {p pos tpos : Pos} {elts : List Expr} {kk : Nat} {ms : EA} {e2 : Expr} (hg : Gl X "zip") (hm : X.mg "zip" = none) (ha : PA X [e, e2] (liftA X.K W ms))
    (hs : starEach [e, e2] X.env = (false, eval e X.env) :: starEach [e2] X.env := by rfl) (hpl : (backTo pos (starEach [e2] X.env)).any (·.1) = false := by rfl) :
    PI X (.Tuple elts kk tpos) (.Call (.Name "zip" p) [e, e2] [] pos) (liftI X.K W (Q.zip ms)) :=
  pi_anti (RZ.pi_zipA hg hm ha hs hpl) fun σ H R ⟨φ, ρ, μ, hl, hm, o⟩ => ⟨φ, ρ, μ, hl, hm, (OutG.bind o).imp fun ds μ1 φ1 H1 e1 m1 o1 vs rv => by
    split at o1
    · rename_i xs ys
      split at o1
      rotate_left
      · exact o1.elim
      rename_i hall
      obtain ⟨v, w, rfl, h1, h2⟩ := repAll2 rv
      unfold Rep at h1 h2
      obtain ⟨a, as, rfl, ⟨q, n⟩, ra⟩ := h1
      obtain ⟨b, bs, rfl, ⟨q', n'⟩, rb⟩ := h2
      refine ⟨a, b, as, bs, rfl, .inl ⟨.of q, .of q', o1 φ1 H1 Ext.refl m1 _ ?_⟩⟩
      have wk := walk_zip (K := X.K) (a := a) (b := b) (xs := as) (ys := bs) rfl
      rw [ra.length, rb.length, ← zipL_len] at wk
      refine ⟨_, _, wk, fun φ2 H2 μ2 e _ => ⟨.of ((e.leans (K := X.K)).obj _ _ q n).1, .of ((e.leans (K := X.K)).obj _ _ q' n').1⟩, fun i φ2 H2 μ2 x H3 _ e m y => ?_⟩
      obtain ⟨T, x1, y1, rfl, hT, rfl, h1, h2⟩ := y
      obtain ⟨d, h3, h4⟩ := repAll_get' ra h1
      obtain ⟨d', h3', h4'⟩ := repAll_get' rb h2
      obtain ⟨h5, h6, h7⟩ := pair_new m hT (Rep.mono e.leans _ h4) (Rep.mono e.leans _ h4') (Q.notPr_of hall (zipL_at h3 h3'))
      exact ⟨_, zipL_at h3 h3', h5, h6, h7⟩
    · rename_i xs ys
      split at o1
      rotate_left
      · exact o1.elim
      rename_i hall
      obtain ⟨v, w, rfl, h1, h2⟩ := repAll2 rv
      unfold Rep at h1 h2
      obtain ⟨a, as, rfl, ⟨q, _⟩, ra⟩ := h1
      obtain ⟨b, bs, rfl, ⟨q', _⟩, rb⟩ := h2
      refine ⟨a, b, as, bs, rfl, .inr ⟨q, q', o1 φ1 H1 Ext.refl m1 _ ?_⟩⟩
      have wk := walk_zipT (K := X.K) (a := a) (b := b) (xs := as) (ys := bs) rfl
      rw [ra.length, rb.length, ← zipL_len] at wk
      refine ⟨_, _, wk, fun φ2 H2 μ2 e _ => ⟨e.leans.tup _ _ q, e.leans.tup _ _ q'⟩, fun i φ2 H2 μ2 x H3 _ e m y => ?_⟩
      obtain ⟨T, x1, y1, rfl, hT, rfl, h1, h2⟩ := y
      obtain ⟨d, h3, h4⟩ := repAll_get' ra h1
      obtain ⟨d', h3', h4'⟩ := repAll_get' rb h2
      obtain ⟨h5, h6, h7⟩ := pair_new m hT (Rep.mono e.leans _ h4) (Rep.mono e.leans _ h4') (Q.notPr_of hall (zipL_at h3 h3'))
      exact ⟨_, zipL_at h3 h3', h5, h6, h7⟩
    · exact o1.elim⟩
end
end Dp

namespace Dp
open PySem PySem.Spec PyProof.Rows L2

/-! ### list comprehensions -/
def Res.nox {α : Type} : Res α → Res α
  | .err _ _ => .bad
  | r => r
def wipeL (ρ : Dp.Loc) : List Nat → Dp.Loc
  | [] => ρ
  | v :: vs => (wipeL ρ vs).set v none
namespace Q
def lcLoop (g : EG) (tt : EB) (te : EE) (ρ : Dp.Loc) : List D → Mem → Res (List D)
  | [], μ => .ok [] μ
  | d :: ds, μ => match g d ρ μ with
    | none => .bad
    | some (ρ1, μ1) => (tt ρ1 μ1).nox.bind fun c μ2 => bif c then (te ρ1 μ2).nox.bind fun y μ3 => (lcLoop g tt te ρ ds μ3).bind fun ys μ4 => .ok (y :: ys) μ4 else lcLoop g tt te ρ ds μ2
/-- vs: the comprehension's own slots -/
def lc (q : EA) (vs : List Nat) (g : EG) (tt : EB) (te : EE) : EA := fun ρ μ => (q ρ μ).bind fun ds μ => if ds.length ≤ 16777216 then lcLoop g tt te (wipeL ρ vs) ds μ else .bad
end Q
namespace T
def yes : EB := fun _ μ => .ok true μ
end T
namespace E
/-- the list as a value, as an object of the memory -/
def ofQ (q : EA) : EE := fun ρ μ => (q ρ μ).bind fun ds μ => .ok (.lst ds) μ
def ofQm (q : EA) : EE := fun ρ μ => (q ρ μ).bind fun ds μ => .ok (.ref μ.length) (μ ++ [.lst ds])
end E
abbrev W0 : WX := fun _ _ _ _ => False
section
variable {K : PySem.W.Frag} {φ : Pl} {H : Hp} {σ : L2.St} {ρ : Dp.Loc}
theorem wipeL_len (ρ : Dp.Loc) : ∀ vs : List Nat, (wipeL ρ vs).length = ρ.length
  | [] => rfl
  | v :: vs => by unfold wipeL; rw [List.length_set, wipeL_len ρ vs]
theorem RepL.setN (h : RepL K φ H σ ρ) (i : Nat) : RepL K φ H (σ.set i none) (ρ.set i none) := by
  refine ⟨by simp [h.len], fun j e q => ?_⟩
  by_cases hj : i = j
  · subst hj
    by_cases hl : i < ρ.length
    · rw [List.getElem?_set_self hl] at q; cases q
    · rw [List.getElem?_eq_none (by simpa using hl)] at q; cases q
  · rw [List.getElem?_set_ne hj] at q ⊢
    exact h.at_ j e q
theorem RepL.wipe (h : RepL K φ H σ ρ) : ∀ vs : List Nat, RepL K φ H (L2.wipe σ vs) (wipeL ρ vs)
  | [] => h
  | v :: vs => by unfold L2.wipe wipeL; exact (h.wipe vs).setN v
theorem OutG.nox {α : Type} {W : WX} {G : α → Mem → Pl → Hp → Prop} {r : Res α} (h : OutG K W σ φ H G r.nox) : OutG K W0 σ φ H G r.nox := by
  cases r with
  | ok a μ => exact h
  | err x μ => exact h.elim
  | bad => exact h
theorem OutG.nox' {α : Type} {W : WX} {σ' : L2.St} {G : α → Mem → Pl → Hp → Prop} {r : Res α} (h : OutG K W σ φ H G r.nox) : OutG K W0 σ' φ H G r := by
  cases r with
  | ok a μ => exact h
  | err x μ => exact h.elim
  | bad => exact h
end
section
variable {X : Cx} {W : WX}
/-- the tests of a clause -/
theorem sts_nil : PTs X [] (liftB X.K W T.yes) := ⟨fun pins s σ H Q I ⟨φ, ρ, μ, hl, hm, o⟩ => wpAny_tests_nil ⟨H, I, o φ H Ext.refl hm⟩⟩
theorem sts_one {c : Expr} {t : EB} (h : PT X c (liftB X.K W t)) : PTs X [c] (liftB X.K W t) := pts_one h
end
theorem wipe_wipe (σ : L2.St) (vs : List Nat) : L2.wipe (L2.wipe σ vs) vs = L2.wipe σ vs := by
  apply List.ext_getElem?
  intro j
  rw [wipe_get, wipe_get, wipe_length]
  by_cases h : j ∈ vs ∧ j < σ.length <;> simp [h]
/-! #### a list that grows out of sight -/
abbrev Pl.hide (φ : Pl) (D : Addr) : Pl := ⟨φ.pl, fun b => φ.av b ∨ b = D⟩
theorem ObjRep.mono {K : PySem.W.Frag} {φ φ' : Pl} {H H' : Hp} {a : Addr} {o : MO} (l : Leans K φ H φ' H') (k : H' a = H a) (h : ObjRep K φ H a o) : ObjRep K φ' H' a o := by
  cases o with
  | lst xs => obtain ⟨vs, q, r⟩ := h; exact ⟨vs, by rw [k]; exact q, RepAll.mono l _ r⟩
  | dct ks xs => obtain ⟨vs, q, z, r⟩ := h; exact ⟨vs, by rw [k]; exact q, z, RepAll.mono l _ r⟩
  | ins C ks xs => obtain ⟨dx, vs, q, z, r⟩ := h; exact ⟨dx, vs, by rw [k]; exact q, z, RepAll.mono l _ r⟩
  | gone => exact ⟨h.choose, by rw [k]; exact h.choose_spec⟩
  | flst xs => obtain ⟨od, vs, q, r⟩ := h; exact ⟨od, vs, by rw [k]; exact q, RepAll.mono l _ r⟩
section
variable {K : PySem.W.Frag} {φ ψ ψ' : Pl} {H H' : Hp} {μ : Mem} {av : Addr → Prop} {D : Addr} {σ : L2.St} {ρ : Dp.Loc}
theorem Ext.un (e : Ext ψ H ψ' H') : Ext (ψ.un av) H (ψ'.un av) H' := by
  obtain ⟨t, rfl⟩ := e.pre
  exact ⟨⟨t, rfl⟩, e.keep, e.tups, e.frzs, e.new⟩
theorem leans_un (h : ∀ b, av b → ψ.av b) : Leans K ψ H (ψ.un av) H := ⟨fun _ _ h => h, fun _ _ h => h, fun p u q n => ⟨q, n.1, fun z => n.2 (h p z)⟩, fun _ _ h => h, fun _ h => h, fun _ _ h => h⟩
theorem Rel.un (h : ∀ b, av b → ψ.av b) (r : Rel K ψ H μ) : Rel K (ψ.un av) H μ :=
  ⟨r.len, r.nd, fun b q => r.av b (h b q), fun i a o e1 e2 => (r.obj i a o e1 e2).mono (leans_un h) rfl⟩
theorem leans_hide (hD : H D = none) {o : HO} : Leans K φ H (φ.hide D) (upd H D o) := by
  have e : Ext φ H φ (upd H D o) := Ext.fresh hD
  refine ⟨fun _ _ h => h, fun _ _ h => e.sqT h, fun p u q n => ⟨e.rdK n.1 q, n.1, fun z => z.elim n.2 fun z => ?_⟩, fun _ _ h => e.sqF h, fun _ h => e.exT h, fun _ _ h => e.fzK h⟩
  subst z
  rw [hD] at q; cases q
theorem Rel.hide (r : Rel K φ H μ) (hD : H D = none) {o : HO} : Rel K (φ.hide D) (upd H D o) μ := by
  refine ⟨r.len, r.nd, fun b q => ?_, fun i a ob e1 e2 => (r.obj i a ob e1 e2).mono (leans_hide hD) (upd_ne fun z => r.notin hD (by rw [← z]; exact List.mem_of_getElem? e1))⟩
  rcases q with q | q
  · obtain ⟨n, u, h⟩ := r.av b q
    exact ⟨n, u, by rw [upd_ne (ne_of_none h hD)]; exact h⟩
  · rw [q]; exact ⟨r.notin hD, _, upd_same⟩
/-- what is hidden is written -/
theorem leans_write (hD : ψ.av D) (ht : ∃ xs, H D = some (.lst xs)) {o : HO} : Leans K ψ H ψ (upd H D o) := by
  obtain ⟨xs, ht⟩ := ht
  refine ⟨fun _ _ h => h, fun p vs h => ?_, fun p u q n => ⟨?_, n⟩, fun p vs h => ?_, fun p ⟨o, vs, a, b⟩ => ⟨o, vs, by rw [upd_ne (fun z => by rw [z, ht] at a; cases a)]; exact a, b⟩, fun p kvs ⟨o, a⟩ => ⟨o, by rw [upd_ne (fun z => by rw [z, ht] at a; cases a)]; exact a⟩⟩
  · rcases h with (h | ⟨o, h⟩) | h
    · exact .inl (.inl (by rw [upd_ne (fun z => by rw [z, ht] at h; cases h)]; exact h))
    · exact .inl (.inr ⟨o, by rw [upd_ne (fun z => by rw [z, ht] at h; cases h)]; exact h⟩)
    · exact .inr h
  · have ne : p ≠ D := fun z => n.2 (by rw [z]; exact hD)
    rw [upd_ne ne]; exact q
  · rcases h with ⟨o, h⟩ | h
    · exact .inl ⟨o, by rw [upd_ne (fun z => by rw [z, ht] at h; cases h)]; exact h⟩
    · exact .inr h
theorem Rel.writeH (r : Rel K ψ H μ) (hD : ψ.av D) (ht : ∃ xs, H D = some (.lst xs)) {o : HO} : Rel K ψ (upd H D o) μ := by
  refine ⟨r.len, r.nd, fun b q => ?_, fun i a ob e1 e2 => (r.obj i a ob e1 e2).mono (leans_write hD ht) (upd_ne fun z => (r.av D hD).1 (by rw [← z]; exact List.mem_of_getElem? e1))⟩
  obtain ⟨n, u, h⟩ := r.av b q
  by_cases hb : b = D
  · rw [hb]; exact ⟨by rw [← hb]; exact n, _, upd_same⟩
  · exact ⟨n, u, by rw [upd_ne hb]; exact h⟩
theorem RepL.mono (l : Leans K φ H ψ H') (h : RepL K φ H σ ρ) : RepL K ψ H' σ ρ := ⟨h.len, fun i d q => let ⟨v, a, b⟩ := h.at_ i d q; ⟨v, a, Rep.mono l d b⟩⟩
/-- a step over what was new at the start -/
theorem Ext.over (e : Ext φ H ψ H') (hD : H D = none) {o : HO} : Ext φ H ψ (upd H' D o) :=
  ⟨e.pre, fun b u h n => by rw [upd_ne (ne_of_none h hD)]; exact e.keep b u h n, fun b u h => by rw [upd_ne (ne_of_none h hD)]; exact e.tups b u h, fun b u x h => by rw [upd_ne (ne_of_none h hD)]; exact e.frzs b u x h, e.new⟩
theorem OutG.unh {α : Type} {W : WX} {σ' : L2.St} {G : α → Mem → Pl → Hp → Prop} {r : Res α} (h : ∀ b, av b → ψ.av b) (o : OutG K W σ (ψ.un av) H G r.nox) : OutG K W0 σ' ψ H (fun a μ' ψ' H' => G a μ' (ψ'.un av) H') r := by
  cases r with
  | ok a μ' => exact fun ψ' H' e r => o (ψ'.un av) H' e.un (r.un fun b q => by rw [e.av]; exact h b q)
  | err x μ' => exact o.elim
  | bad => exact o
end
section
variable {X : Cx} {W : WX}
/-- the comprehension's list, from its clause -/
theorem lc_out {K : PySem.W.Frag} {W : WX} {q : EA} {vs : List Nat} {g : EG} {tt : EB} {te : EE} {σ : L2.St} {H : Hp} {Qr : VK} {φ : Pl} {ρ : Dp.Loc} {μ : Mem} (hl : RepL K φ H σ ρ) (hm : Rel K φ H μ)
    (o : OutG K W σ φ H (fun ds μ' φ' H' => ∀ D us, φ'.out D → H' D = some (.lst us) → RepAll K φ' H' us ds → Qr (.ref D) H') (Dp.Q.lc q vs g tt te ρ μ)) :
    tLc (liftI K W q) (liftG K vs g) (liftB K W0 tt) (lift K W0 te) vs σ H Qr := by
  refine ⟨φ, ρ, μ, hl, hm, (OutG.bind o).imp fun ds μ1 φ1 H1 e1 r1 o1 J ⟨Gd, Y, wk, hG, hY⟩ D hD => ?_⟩
  split at o1
  rotate_left
  · exact o1.elim
  rename_i hz
  have hav : ∀ b, φ1.av b → (φ1.hide D).av b := fun b q => .inl q
  have hno : φ1.out D := r1.out hD
  have toA : ∀ {ψ : Pl} {H2 : Hp}, ψ.av = (φ1.hide D).av → Ext φ1 H1 (ψ.un φ1.av) H2 → ExtA φ1 H1 ψ H2 := fun {ψ H2} ea e => ⟨e, fun b q => by rw [ea]; exact .inl q, fun b q => by
    rw [ea] at q
    rcases q with q | q
    · exact .inl q
    · exact .inr (by rw [q]; exact hD)⟩
  refine lc_it wk (fun i H => ∃ ψ μ acc vacc, ψ.av = (φ1.hide D).av ∧ Ext φ1 H1 (ψ.un φ1.av) H ∧ Rel K ψ H μ ∧ RepL K ψ H (L2.wipe σ vs) (wipeL ρ vs) ∧ H D = some (.lst vacc) ∧ RepAll K ψ H vacc acc ∧ acc.length ≤ i ∧
      OutG K W σ φ1 H1 (fun ys μ' φ' H' => ∀ D us, φ'.out D → H' D = some (.lst us) → RepAll K φ' H' us (acc ++ ys) → Qr (.ref D) H') (Dp.Q.lcLoop g tt te (wipeL ρ vs) (ds.drop i) μ)) ?_ ?_ ?_ ?_
  · exact ⟨φ1.hide D, μ1, [], [], rfl, (Ext.fresh hD : Ext φ1 H1 φ1 (upd H1 D (.lst []))), r1.hide hD, (((hl.ext e1).wipe vs).mono (leans_hide hD)), upd_same, RepAll.nil_, Nat.le_refl _, o1⟩
  · rintro i H2 hi ⟨ψ, μ2, acc, vacc, ea, e, r, _⟩
    exact hG ψ H2 μ2 (toA ea e) r
  · rintro i x H2 H3 hi ⟨ψ, μ2, acc, vacc, ea, e, r, lw, hDa, ra, hacc, o2⟩ y
    obtain ⟨d, hd, rx, e3, r3⟩ := hY i ψ H2 μ2 x H3 hi (toA ea e) r y
    have hdrop : ds.drop i = d :: ds.drop (i + 1) := by
      obtain ⟨hlt, he⟩ := List.getElem?_eq_some_iff.mp hd
      rw [← he]; exact List.drop_eq_getElem_cons hlt
    rw [hdrop] at o2
    have hDn : D ∉ ψ.pl := (r.av D (by rw [ea]; exact .inr rfl)).1
    refine ⟨ψ, wipeL ρ vs, μ2, d, lw.ext e3, r3, rx, ?_⟩
    unfold Dp.Q.lcLoop at o2
    cases hg : g d (wipeL ρ vs) μ2 with
    | none => rw [hg] at o2; exact o2
    | some p =>
      obtain ⟨ρ4, μ4⟩ := p
      rw [hg] at o2
      dsimp only at o2
      intro ψ4 H4 e4 r4 σ4 l4 w4
      refine ⟨w4.trans (wipe_wipe σ vs), ψ4, ρ4, μ4, l4, r4, ?_⟩
      have ea4 : ψ4.av = (φ1.hide D).av := e4.av.trans ea
      cases ht : tt ρ4 μ4 with
      | bad => rw [ht] at o2; exact o2.elim
      | err x μ5 => rw [ht] at o2; exact o2.elim
      | ok c μ5 =>
      rw [ht] at o2
      intro ψ5 H5 e5 r5
      have e35 : Ext ψ H2 ψ5 H5 := (e3.trans e4).trans e5
      have ea5 : ψ5.av = (φ1.hide D).av := e5.av.trans ea4
      cases c with
      | false =>
        show if false = true then _ else _
        rw [if_neg (by decide)]
        exact ⟨ψ5, μ5, acc, vacc, ea5, e.trans e35.un, r5, lw.ext e35, e35.keep D _ hDa hDn, ra.ext e35, Nat.le_succ_of_le hacc, o2⟩
      | true =>
        show if true = true then _ else _
        rw [if_pos rfl]
        refine ⟨ψ5, ρ4, μ5, l4.ext e5, r5, ?_⟩
        have o2 : OutG K W σ φ1 H1 (fun ys μ' φ' H' => ∀ D us, φ'.out D → H' D = some (.lst us) → RepAll K φ' H' us (acc ++ ys) → Qr (.ref D) H') ((te ρ4 μ5).nox.bind fun y μ3 => (Dp.Q.lcLoop g tt te (wipeL ρ vs) (ds.drop (i + 1)) μ3).bind fun ys μ4 => .ok (y :: ys) μ4) := o2
        cases hte : te ρ4 μ5 with
        | bad => rw [hte] at o2; exact o2.elim
        | err x μ5 => rw [hte] at o2; exact o2.elim
        | ok yv μ6 =>
        rw [hte] at o2
        intro ψ6 H6 e6 r6 v rv
        have e36 : Ext ψ H2 ψ6 H6 := e35.trans e6
        have ea6 : ψ6.av = (φ1.hide D).av := e6.av.trans ea5
        have hD6 : H6 D = some (.lst vacc) := e36.keep D _ hDa hDn
        have hv6 : ψ6.av D := by rw [ea6]; exact .inr rfl
        refine ⟨vacc, hD6, ?_, ψ6, μ6, acc ++ [yv], vacc ++ [v], ea6, (e.trans e36.un).over hD, r6.writeH hv6 ⟨_, hD6⟩, (lw.ext e36).mono (leans_write hv6 ⟨_, hD6⟩), upd_same, ?_, by rw [List.length_append]; exact Nat.succ_le_succ hacc, ?_⟩
        · have := ra.length
          rw [sizeLine_eq]; omega
        · exact RepAll.mono (leans_write hv6 ⟨_, hD6⟩) _ (RepAll.append (ra.ext e36) (RepAll.cons_ rv RepAll.nil_))
        · have o3 : OutG K W σ φ1 H1 (fun ys μ' φ' H' => ∀ D us, φ'.out D → H' D = some (.lst us) → RepAll K φ' H' us (acc ++ ys) → Qr (.ref D) H') ((Dp.Q.lcLoop g tt te (wipeL ρ vs) (ds.drop (i + 1)) μ6).bind fun ys μ4 => .ok (yv :: ys) μ4) := o2
          revert o3
          cases Dp.Q.lcLoop g tt te (wipeL ρ vs) (ds.drop (i + 1)) μ6 with
          | bad => exact fun o => o
          | err x μ7 => exact fun o => o
          | ok ys μ7 => exact fun o φ' H' e r D us h1 h2 h3 => o φ' H' e r D us h1 h2 (by rw [List.append_assoc] at h3; exact h3)
  · rintro H2 ⟨ψ, μ2, acc, vacc, ea, e, r, lw, hDa, ra, hacc, o2⟩
    have hu : ∀ b, φ1.av b → ψ.av b := fun b q => by rw [ea]; exact hav b q
    rw [List.drop_length] at o2
    refine o2 (ψ.un φ1.av) H2 e (r.un hu) D vacc ⟨?_, hno.2⟩ hDa (by simpa using RepAll.mono (leans_un hu) _ ra)
    exact (r.av D (by rw [ea]; exact .inr rfl)).1
/-- as a value -/
theorem lcv_out {K : PySem.W.Frag} {W : WX} {q : EA} {σ : L2.St} {H : Hp} {Qr : VK} {φ : Pl} {ρ : Dp.Loc} {μ : Mem} (o : OutG K W σ φ H (GV K Qr) (E.ofQ q ρ μ)) :
    OutG K W σ φ H (fun ds μ' φ' H' => ∀ D us, φ'.out D → H' D = some (.lst us) → RepAll K φ' H' us ds → Qr (.ref D) H') (q ρ μ) :=
  (OutG.bind o).imp fun ds μ' φ' H' e r o' D us h1 h2 h3 => o' φ' H' Ext.refl r _ (rep_lst h2 h1 h3)
theorem se_lc {elt tg iter : Expr} {ifs : List Expr} {scope : Scope} {own : List (Str × Nat)} {pos : Pos} {q : EA} {g : EG} {tt : EB} {te : EE} (hc : X.calm = true) (hN : X.N.Nodup) (hi : PI X tg iter (liftI X.K W q)) (ok : BlkOk X.N X.env.scope scope own)
    (hg : ∀ (s : Shared) (H : Hp) (C : Addr) (cl : List (Str × Addr)) (fp : List Addr), PG (X.blk s H scope (compEnvC scope cl C X.env) fp) tg (liftG X.K (own.map (·.2)) g))
    (ht : ∀ (s : Shared) (H : Hp) (C : Addr) (cl : List (Str × Addr)) (fp : List Addr), PTs (X.blk s H scope (compEnvC scope cl C X.env) fp) ifs (liftB X.K W0 tt))
    (he : ∀ (s : Shared) (H : Hp) (C : Addr) (cl : List (Str × Addr)) (fp : List Addr), PE (X.blk s H scope (compEnvC scope cl C X.env) fp) elt (lift X.K W0 te)) (hs : ∀ x, foldedSetIterable iter X.env x = pure x := by intro _; rfl) :
    PE X (.ListComp elt [⟨tg, iter, ifs, 0⟩] scope pos) (lift X.K W (E.ofQ (Q.lc q (own.map (·.2)) g tt te))) :=
  pe_anti (pe_lc hc hN hi ok hg ht he hs) fun σ H Qr ⟨φ, ρ, μ, hl, hm, o⟩ => lc_out hl hm (lcv_out o)
/-- name = [..] -/
theorem ps_setLcD {i : Nat} {y : Str} {py : Pos} {elt tg iter : Expr} {ifs : List Expr} {scope : Scope} {own : List (Str × Nat)} {pos spos : Pos} {q : EA} {g : EG} {tt : EB} {te : EE} (hc : X.calm = true) (hN : X.N.Nodup) (hy : X.N[i]? = some y) (hyl : X.env.scope.names.lookup y = some .local)
    (hsw : swapsWith (.ListComp elt [⟨tg, iter, ifs, 0⟩] scope pos) (some (.Name y py)) spos.line X.env = pure true) (hi : PI X tg iter (liftI X.K W q)) (ok : BlkOk X.N X.env.scope scope own)
    (hg : ∀ (s : Shared) (H : Hp) (C : Addr) (cl : List (Str × Addr)) (fp : List Addr), PG (X.blk s H scope (compEnvC scope cl C X.env) fp) tg (liftG X.K (own.map (·.2)) g))
    (ht : ∀ (s : Shared) (H : Hp) (C : Addr) (cl : List (Str × Addr)) (fp : List Addr), PTs (X.blk s H scope (compEnvC scope cl C X.env) fp) ifs (liftB X.K W0 tt))
    (he : ∀ (s : Shared) (H : Hp) (C : Addr) (cl : List (Str × Addr)) (fp : List Addr), PE (X.blk s H scope (compEnvC scope cl C X.env) fp) elt (lift X.K W0 te)) (hs : ∀ x, foldedSetIterable iter X.env x = pure x := by intro _; rfl) :
    PS X (.Assign [.Name y py] (.ListComp elt [⟨tg, iter, ifs, 0⟩] scope pos) spos) (liftS X.K W (S.asg (E.ofQ (Q.lc q (own.map (·.2)) g tt te)) (G.name i))) :=
  ps_anti (ps_setLc hc hN hy hyl hsw hi ok hg ht he hs) fun De σ H ⟨φ, ρ, μ, hl, hm, o⟩ => lc_out hl hm (lcv_out ((asg_out (vs := [i]) hl o).imp fun d μ' φ' H' e r h v rv => name_out (by simp) (h v rv)))
end
end Dp

namespace Dp
open PySem PySem.Spec PyProof.Rows L2

/-! ### what is seen of a value -/
/-- a list's items -/
def seeL (μ : Mem) : D → Option (List D)
  | .lst xs => some xs
  | .ref i => (match μ[i]? with
    | some (.lst xs) => some xs
    | _ => none)
  | _ => none
/-- a list that is read -/
def seeQ (μ : Mem) : D → Option (List D)
  | .lst xs => some xs
  | .ref i => (match μ[i]? with
    | some (.lst xs) => some xs
    | some (.flst xs) => some xs
    | _ => none)
  | .scr ns => some (ns.map .int)
  | _ => none
/-- plain data, the memory's lists too -/
def view (μ : Mem) : D → Option D
  | .ref i => (match μ[i]? with
    | some (.lst xs) => if plAll xs = true then some (.lst xs) else none
    | some (.flst xs) => if plAll xs = true then some (.lst xs) else none
    | _ => none)
  | .scr ns => some (.lst (ns.map .int))
  | d => if d.pl = true then some d else none
section
variable {K : PySem.W.Frag} {φ : Pl} {H : Hp} {μ : Mem} {v : V} {d : D} {xs : List D}
theorem seeL_rep (hm : Rel K φ H μ) (r : Rep K φ H v d) (e : seeL μ d = some xs) : ∃ a vs, v = .ref a ∧ H a = some (.lst vs) ∧ RepAll K φ H vs xs := by
  unfold seeL at e
  split at e
  · cases e
    unfold Rep at r
    obtain ⟨p, vs, rfl, ⟨q, _⟩, rs⟩ := r
    exact ⟨p, vs, rfl, q, rs⟩
  · split at e
    · rename_i i ys hy
      cases e
      unfold Rep at r
      obtain ⟨a, rfl, q⟩ := r
      obtain ⟨vs, h1, rs⟩ := hm.obj _ a _ q hy
      exact ⟨a, vs, rfl, h1, rs⟩
    · cases e
  · cases e
theorem repAll_ints (ns : List Int) : RepAll K φ H (ns.map V.int) (ns.map D.int) := by
  induction ns with
  | nil => exact RepAll.nil_
  | cons n ns ih => exact RepAll.cons_ (by unfold Rep; rfl) ih
theorem seeQ_rep (hm : Rel K φ H μ) (r : Rep K φ H v d) (e : seeQ μ d = some xs) : ∃ a vs, v = .ref a ∧ SqL K H a vs ∧ RepAll K φ H vs xs := by
  unfold seeQ at e
  split at e
  · cases e
    unfold Rep at r
    obtain ⟨p, vs, rfl, ⟨q, _⟩, rs⟩ := r
    exact ⟨p, vs, rfl, .of q, rs⟩
  · split at e
    · rename_i i ys hy
      cases e
      unfold Rep at r
      obtain ⟨a, rfl, q⟩ := r
      obtain ⟨vs, h1, rs⟩ := hm.obj _ a _ q hy
      exact ⟨a, vs, rfl, .of h1, rs⟩
    · rename_i i ys hy
      cases e
      unfold Rep at r
      obtain ⟨a, rfl, q⟩ := r
      obtain ⟨od, vs, h1, rs⟩ := hm.obj _ a _ q hy
      exact ⟨a, vs, rfl, .inl (.inr ⟨od, h1⟩), rs⟩
    · cases e
  · cases e
    unfold Rep at r
    obtain ⟨p, rfl, q⟩ := r
    exact ⟨p, _, rfl, q.sq, repAll_ints _⟩
  · cases e
theorem plAll_ints (ns : List Int) : plAll (ns.map D.int) = true := by
  induction ns with
  | nil => rfl
  | cons n ns ih => rw [List.map_cons, plAll, ih]; rfl
theorem view_pl {d' : D} (e : view μ d = some d') : d'.pl = true := by
  unfold view at e
  split at e
  · split at e
    · split at e
      · rename_i h; cases e; rw [D.pl]; exact h
      · cases e
    · split at e
      · rename_i h; cases e; rw [D.pl]; exact h
      · cases e
    · cases e
  · cases e; rw [D.pl]; exact plAll_ints _
  · split at e
    · rename_i h; cases e; exact h
    · cases e
end
section
variable {X : Cx} {pins : List (Addr × Obj)} {σ : L2.St} {H : Hp} {s : Shared} {φ : Pl} {μ : Mem}
theorem list_reads (I : Inv X pins σ H s) {a : Addr} {vs : List V} {xs : List D} {u : Value} (q : SqL X.K H a vs) (rs : RepAll X.K φ H vs xs) (p : plAll xs = true) (rv : RelV (.ref a) u) : ∃ as, Reads s.heap u (D.lst xs).py as := by
  cases rv
  obtain ⟨its, rv, ⟨o, n, e1, e2, _, e3⟩, _⟩ := I.list q
  obtain ⟨as, ra⟩ := rep_readsAll I xs p rs rv
  exact ⟨_, by rw [D.py]; exact .list e1 e2 e3 (by simpa using ra)⟩
theorem view_reads (I : Inv X pins σ H s) (hm : Rel X.K φ H μ) {v : V} {u : Value} {d d' : D} (r : Rep X.K φ H v d) (rv : RelV v u) (e : view μ d = some d') : ∃ as, Reads s.heap u d'.py as := by
  unfold view at e
  split at e
  · split at e
    · rename_i i ys hy
      split at e
      · rename_i h
        cases e
        unfold Rep at r
        obtain ⟨a, rfl, q⟩ := r
        obtain ⟨vs, h1, rs⟩ := hm.obj _ a _ q hy
        exact list_reads I (.of h1) rs h rv
      · cases e
    · rename_i i ys hy
      split at e
      · rename_i h
        cases e
        unfold Rep at r
        obtain ⟨a, rfl, q⟩ := r
        obtain ⟨od, vs, h1, rs⟩ := hm.obj _ a _ q hy
        exact list_reads I (.inl (.inr ⟨od, h1⟩)) rs h rv
      · cases e
    · cases e
  · cases e
    unfold Rep at r
    obtain ⟨p, rfl, q⟩ := r
    exact list_reads I q.sq (repAll_ints (φ := φ) _) (plAll_ints _) rv
  · split at e
    · rename_i h
      cases e
      exact rep_reads I d h r rv
    · cases e
end

/-! ### operations -/
namespace Op
def fit (n : Nat) : Bool := decide (n ≤ 16777216)
def add (x y : D) (μ : Mem) : Res D := match x, y with
  | .int i, .int j => .ok (.int (i + j)) μ
  | .str a, .str b => if a.length + b.length ≤ 16777216 then .ok (.str (a ++ b)) μ else .bad
  | .tup a, .tup b => if a.length + b.length ≤ 16777216 then .ok (.tup (a ++ b)) μ else .bad
  | x, y => match seeL μ x, seeL μ y with
    | some a, some b => if a.length + b.length ≤ 16777216 then .ok (.lst (a ++ b)) μ else .bad
    | _, _ => .bad
def sub (x y : D) (μ : Mem) : Res D := match x, y with
  | .int i, .int j => .ok (.int (i - j)) μ
  | _, _ => .bad
def repL (n : Nat) (xs : List D) : List D := (List.replicate n xs).flatten
def repS (n : Nat) (x : Str) : Str := ⟨(List.replicate n x.cps).foldl (· ++ ·) #[]⟩
def mul (x y : D) (μ : Mem) : Res D := match x, y with
  | .int i, .int j => if i.natAbs.log2 + j.natAbs.log2 < 100000000 then .ok (.int (i * j)) μ else .bad
  | .str a, .int j => if 2 ≤ j ∧ j ≤ 1000 ∧ 0 < a.length ∧ a.length ≤ 1000 then .ok (.str (repS j.toNat a)) μ else if j = 0 then .ok (.str Str.empty) μ else if j = 1 then .ok (.str a) μ else .bad
  | .tup a, .int j => if (2 ≤ j ∧ j ≤ 1000 ∧ 0 < a.length ∧ a.length ≤ 1000) ∧ pairsh (repL j.toNat a) = false then .ok (.tup (repL j.toNat a)) μ else .bad
  | x, .int j => match seeL μ x with
    | some a => if -(2 ^ 63) ≤ j ∧ j < 2 ^ 63 ∧ a.length * j.toNat ≤ 16777216 then .ok (.lst (repL j.toNat a)) μ else .bad
    | _ => .bad
  | _, _ => .bad
def mod (x y : D) (μ : Mem) : Res D := match x, y with
  | .int i, .int j => if 0 < j then .ok (.int (i % j)) μ else .bad
  | _, _ => .bad
def fdiv (x y : D) (μ : Mem) : Res D := match x, y with
  | .int i, .int j => if 0 < j ∧ j.natAbs.log2 < 9000 then .ok (.int (i / j)) μ else .bad
  | _, _ => .bad
def pow (x y : D) (μ : Mem) : Res D := match x, y with
  | .int i, .int j => if 0 ≤ j ∧ (Builtin.Int.intBits i : Int) * j ≤ 2 ^ 27 then .ok (.int (i ^ j.toNat)) μ else .bad
  | _, _ => .bad
def neg (x : D) (μ : Mem) : Res D := match x with
  | .int i => .ok (.int (-i)) μ
  | _ => .bad
def eq (x y : D) (μ : Mem) : Res D := match view μ x, view μ y with
  | some a, some b => if min a.py.depth b.py.depth ≤ 150 then .ok (.bl (PyData.eqv a.py b.py)) μ else .bad
  | _, _ => .bad
def ne (x y : D) (μ : Mem) : Res D := match view μ x, view μ y with
  | some a, some b => if min a.py.depth b.py.depth ≤ 150 then .ok (.bl (!PyData.eqv a.py b.py)) μ else .bad
  | _, _ => .bad
/-- an order: of ints, of texts, of alike tuples and lists -/
def ord (fi : Int → Int → Bool) (fs : Str → Str → Bool) (fd : PyData → PyData → Bool) (x y : D) (μ : Mem) : Res D := match x, y with
  | .int i, .int j => .ok (.bl (fi i j)) μ
  | .str a, .str b => .ok (.bl (fs a b)) μ
  | .tup a, .tup b => if plAll a && plAll b && PySem.W.alike (D.tup a).py (D.tup b).py && decide (min (D.tup a).py.depth (D.tup b).py.depth ≤ 150) then .ok (.bl (fd (D.tup a).py (D.tup b).py)) μ else .bad
  | .lst a, .lst b => if plAll a && plAll b && PySem.W.alike (D.lst a).py (D.lst b).py && decide (min (D.lst a).py.depth (D.lst b).py.depth ≤ 150) then .ok (.bl (fd (D.lst a).py (D.lst b).py)) μ else .bad
  | _, _ => .bad
def lt := ord (fun i j => decide (i < j)) (fun a b => decide (a.cps.toList < b.cps.toList)) PySem.W.dataLt
def gt := ord (fun i j => decide (j < i)) (fun a b => decide (b.cps.toList < a.cps.toList)) (fun a b => PySem.W.dataLt b a)
def le := ord (fun i j => decide (i ≤ j)) (fun a b => !decide (b.cps.toList < a.cps.toList)) (fun a b => !PySem.W.dataLt b a)
def ge := ord (fun i j => decide (j ≤ i)) (fun a b => !decide (a.cps.toList < b.cps.toList)) (fun a b => !PySem.W.dataLt a b)
def isNone : D → Bool
  | .non => true
  | _ => false
def is (x y : D) (μ : Mem) : Res D := match y with
  | .non => .ok (.bl (isNone x)) μ
  | _ => .bad
def isNot (x y : D) (μ : Mem) : Res D := match y with
  | .non => .ok (.bl (!isNone x)) μ
  | _ => .bad
end Op
section
variable {K : PySem.W.Frag} {φ : Pl} {H : Hp} {v : V}
theorem rep_of_int {i : Int} : Rep K φ H (.int i) (.int i) := by unfold Rep; rfl
theorem rep_of_str {i : Str} : Rep K φ H (.str i) (.str i) := by unfold Rep; rfl
theorem rep_of_bl {i : Bool} : Rep K φ H (.bl i) (.bl i) := by unfold Rep; rfl
theorem rep_of_non : Rep K φ H .non .non := by unfold Rep; rfl
theorem rep_non (h : Rep K φ H v .non) : v = .non := by unfold Rep at h; exact h
theorem rep_tup' {ds : List D} (h : Rep K φ H v (.tup ds)) : ∃ p vs, v = .ref p ∧ SqT K H p vs ∧ RepAll K φ H vs ds := by unfold Rep at h; obtain ⟨p, vs, a, b, c⟩ := h; exact ⟨p, vs, a, b.1, c⟩
theorem rep_tupX {ds : List D} (h : Rep K φ H v (.tup ds)) : ∃ p vs, v = .ref p ∧ SqT K H p vs ∧ RepAll K φ H vs ds ∧ (pairsh ds = true → ExT H p) := by unfold Rep at h; obtain ⟨p, vs, a, b, c⟩ := h; exact ⟨p, vs, a, b.1, c, b.2⟩
/-- a + b of tuples: a new one is told to the letter -/
theorem op_catF {X : Cx} : OpR X (binaryOp .Add) (fun x y H Q => ∃ a b xs ys, x = .ref a ∧ y = .ref b ∧ SqT X.K H a xs ∧ SqT X.K H b ys ∧ xs.length + ys.length ≤ sizeLine ∧ (xs = [] → Q (.ref b) H) ∧ (ys = [] → Q (.ref a) H) ∧
    ∀ p o, H p = none → o.dict = none → Q (.ref p) (upd H p (.frz o (.tup (xs ++ ys))))) := by
  intro pins s σ H x y v u Q I rx ry h
  obtain ⟨a, b, xs, ys, rfl, rfl, ha, hb, hz, q0, q1, q2⟩ := h
  cases rx
  cases ry
  obtain ⟨its, r1, p1, _⟩ := I.tuple ha
  obtain ⟨its2, r2, p2, _⟩ := I.tuple hb
  by_cases hx : xs = []
  · subst hx
    cases r1
    exact cat_tup0 p1 p2 ⟨.ref b, H, I, rfl, q0 rfl⟩
  · refine HT.cat_tup p1 p2 (fun z => hx (r1.nil_iff.mp z)) (fun z => ⟨.ref a, H, I, rfl, q1 (r2.nil_iff.mp z)⟩) (fun z => ?_) (by rw [← r1.length, ← r2.length]; exact hz)
    refine ⟨.ref s.heap.objs.size, _, I.laid (t' := s.toks) (o := .frz { cls := .type "tuple", data := .seq (its ++ its2).toArray } (.tup (xs ++ ys))) (fun b ob q => Heap.get?_push_of_some _ q) (Nat.le_refl _) ?_, rfl, q2 _ _ (I.hok.fresh (Nat.le_refl _)) rfl⟩
    exact ⟨Heap.get?_push_size _ rfl, by rw [List.length_append]; exact hz, _, r1.append r2, IsTup.new _ _⟩
theorem rep_lst' {ds : List D} (h : Rep K φ H v (.lst ds)) : ∃ p vs, v = .ref p ∧ (H p = some (.lst vs) ∧ φ.out p) ∧ RepAll K φ H vs ds := by unfold Rep at h; exact h
theorem rep_isNone {d : D} (h : Rep K φ H v d) : decide (v = .non) = Op.isNone d := by
  cases d with
  | non => rw [rep_non h]; rfl
  | bl b => unfold Rep at h; subst h; rfl
  | int b => unfold Rep at h; subst h; rfl
  | str b => unfold Rep at h; subst h; rfl
  | tup b => unfold Rep at h; obtain ⟨_, _, rfl, _⟩ := h; rfl
  | lst b => unfold Rep at h; obtain ⟨_, _, rfl, _⟩ := h; rfl
  | dct k b => unfold Rep at h; obtain ⟨_, _, rfl, _⟩ := h; rfl
  | ref b => unfold Rep at h; obtain ⟨_, rfl, _⟩ := h; rfl
  | adr b => unfold Rep at h; subst h; rfl
  | ty b => unfold Rep at h; subst h; rfl
  | scr b => unfold Rep at h; obtain ⟨_, rfl, _⟩ := h; rfl
theorem vflat_rep : ∀ (n : Nat) {vs : List V} {ds : List D}, RepAll K φ H vs ds → RepAll K φ H (List.replicate n vs).flatten (List.replicate n ds).flatten
  | 0, _, _, _ => by simpa using RepAll.nil_
  | n + 1, _, _, r => by
    rw [List.replicate_succ, List.replicate_succ, List.flatten_cons, List.flatten_cons]
    exact RepAll.append r (vflat_rep n r)
end
section
variable {X : Cx} {W : WX}
theorem new_tup {pins : List (Addr × Obj)} {σ : L2.St} {H : Hp} {φ : Pl} {μ : Mem} {vs : List V} {ds : List D} {Q : VK} (hm : Rel X.K φ H μ) (rs : RepAll X.K φ H vs ds) (o : OutG X.K W σ φ H (GV X.K Q) (.ok (.tup ds) μ)) (x : pairsh ds = false) : ∀ p, H p = none → Q (.ref p) (upd H p (.tup vs)) :=
  fun p hp => o φ _ (Ext.fresh hp) (hm.fresh hp) _ (rep_tup (.of upd_same) (rs.ext (Ext.fresh hp)) (fun z => by rw [x] at z; cases z))
theorem new_tupF {pins : List (Addr × Obj)} {σ : L2.St} {H : Hp} {φ : Pl} {μ : Mem} {vs : List V} {ds : List D} {Q : VK} (hm : Rel X.K φ H μ) (rs : RepAll X.K φ H vs ds) (o : OutG X.K W σ φ H (GV X.K Q) (.ok (.tup ds) μ)) : ∀ p ob, H p = none → ob.dict = none → Q (.ref p) (upd H p (.frz ob (.tup vs))) :=
  fun p ob hp hd => o φ _ (Ext.fresh hp) (hm.fresh hp) _ (rep_tupF upd_same hd (rs.ext (Ext.fresh hp)))
theorem new_lst {pins : List (Addr × Obj)} {σ : L2.St} {H : Hp} {φ : Pl} {μ : Mem} {vs : List V} {ds : List D} {Q : VK} (hm : Rel X.K φ H μ) (rs : RepAll X.K φ H vs ds) (o : OutG X.K W σ φ H (GV X.K Q) (.ok (.lst ds) μ)) : ∀ p, H p = none → Q (.ref p) (upd H p (.lst vs)) :=
  fun p hp => o φ _ (Ext.fresh hp) (hm.fresh hp) _ (rep_lst upd_same (hm.out hp) (rs.ext (Ext.fresh hp)))
theorem ops_add : OpS X W (binaryOp .Add) Op.add := by
  intro pins s σ H φ μ x y v u dx dy Q I rx ry hm px py o
  unfold Op.add at o
  split at o
  · exact op_add pins s σ H x y v u Q I rx ry ⟨_, _, rep_int px, rep_int py, o φ H Ext.refl hm _ rep_of_int⟩
  · split at o
    · rename_i h
      exact op_add_str pins s σ H x y v u Q I rx ry ⟨_, _, rep_str px, rep_str py, by rw [sizeLine_eq]; exact h, o φ H Ext.refl hm _ rep_of_str⟩
    · exact o.elim
  · rename_i as bs
    split at o
    · rename_i h
      obtain ⟨p, vs, rfl, ha, ra, xa⟩ := rep_tupX px
      obtain ⟨q, ws, rfl, hb, rb, xb⟩ := rep_tupX py
      refine op_catF pins s σ H _ _ v u Q I rx ry ⟨p, q, vs, ws, rfl, rfl, ha, hb, by rw [ra.length, rb.length, sizeLine_eq]; exact h, fun e => ?_, fun e => ?_, new_tupF (pins := pins) hm (RepAll.append ra rb) o⟩
      · have e' : as = [] := by have := ra.length; rw [e] at this; exact List.eq_nil_of_length_eq_zero (by simpa using this.symm)
        exact o φ H Ext.refl hm _ (rep_tup hb (by rw [e']; exact rb) (by rw [e']; exact xb))
      · have e' : bs = [] := by have := rb.length; rw [e] at this; exact List.eq_nil_of_length_eq_zero (by simpa using this.symm)
        exact o φ H Ext.refl hm _ (rep_tup ha (by rw [e', List.append_nil]; exact ra) (by rw [e', List.append_nil]; exact xa))
    · exact o.elim
  · split at o
    · rename_i as bs ea eb
      split at o
      · rename_i h
        obtain ⟨p, vs, rfl, ha, ra⟩ := seeL_rep hm px ea
        obtain ⟨q, ws, rfl, hb, rb⟩ := seeL_rep hm py eb
        exact op_cat pins s σ H _ _ v u Q I rx ry ⟨p, q, vs, ws, rfl, rfl, ha, hb, by rw [ra.length, rb.length, sizeLine_eq]; exact h, new_lst (pins := pins) hm (RepAll.append ra rb) o⟩
      · exact o.elim
    · exact o.elim
theorem ops_sub : OpS X W (binaryOp .Sub) Op.sub := by
  intro pins s σ H φ μ x y v u dx dy Q I rx ry hm px py o
  unfold Op.sub at o
  split at o
  · exact op_sub pins s σ H x y v u Q I rx ry ⟨_, _, rep_int px, rep_int py, o φ H Ext.refl hm _ rep_of_int⟩
  · exact o.elim
theorem mulV_ok {i j : Int} (h : i.natAbs.log2 + j.natAbs.log2 < 100000000) : IntMulOk i j := by
  have b : ∀ x : Int, Builtin.Int.intBits x ≤ x.natAbs.log2 + 1 := fun x => by
    unfold Builtin.Int.intBits
    split <;> omega
  have h1 := b i
  have h2 := b j
  have e : bitsLine = 134217728 := by decide
  unfold IntMulOk
  intro z
  rw [Bool.and_eq_true] at z
  have z2 := z.2
  unfold Builtin.Int.intTooBig at z2
  have z3 := of_decide_eq_true z2
  rw [e] at z3
  omega
theorem op_mulV : OpR X (binaryOp .Mult) (rI (fun i j => i.natAbs.log2 + j.natAbs.log2 < 100000000) fun i j => .int (i * j)) := opI fun _ _ _ _ _ _ _ hc q => mul_int q (mulV_ok hc)
theorem ops_mul : OpS X W (binaryOp .Mult) Op.mul := by
  intro pins s σ H φ μ x y v u dx dy Q I rx ry hm px py o
  unfold Op.mul at o
  split at o
  · split at o
    · rename_i h
      exact op_mulV pins s σ H x y v u Q I rx ry ⟨_, _, rep_int px, rep_int py, h, o φ H Ext.refl hm _ rep_of_int⟩
    · exact o.elim
  · rename_i a j
    split at o
    · rename_i h
      obtain ⟨h1, h2, h3, h4⟩ := h
      cases rep_str px
      cases rep_int py
      obtain ⟨t, rfl⟩ := rx
      obtain ⟨t', rfl⟩ := ry
      have n1 : ¬ j < 1 := by omega
      have n2 : (j == 1 || a.length == 0) = false := by
        have e1 : (j == 1) = false := by simpa using (by omega : ¬ j = 1)
        have e2 : (a.length == 0) = false := by simpa using (by omega : ¬ a.length = 0)
        rw [e1, e2]; rfl
      have hmul : a.length * j.toNat ≤ 1000 * 1000 := Nat.mul_le_mul h4 (by omega)
      refine PySem.P.mul_str (by
        have e1 : ¬ j < -(2 ^ 63 : Int) := by omega
        have e2 : ¬ j ≥ 2 ^ 63 := by omega
        rw [decide_eq_false e1, decide_eq_false e2]; rfl) (fun _ _ => ?_) (fun _ _ => ?_) ?_
      · have hq : (2 ^ 63 - 1 : Int) / 1000 ≤ (2 ^ 63 - 1) / j := by
          have hj : 0 < j := by omega
          rw [Int.le_ediv_iff_mul_le hj]
          have : ((2 ^ 63 - 1 : Int) / 1000) * j ≤ ((2 ^ 63 - 1 : Int) / 1000) * 1000 := Int.mul_le_mul_of_nonneg_left h2 (by decide)
          omega
        have : (2 ^ 63 - 1 : Int) / 1000 = 9223372036854775 := by decide
        omega
      · unfold Builtin.Str.tooLong
        exact decide_eq_false (by
          have : sizeLine = 16777216 := sizeLine_eq
          omega)
      · rw [if_neg n1, n2, if_neg Bool.false_ne_true]
        refine ⟨?_, .str _, H, I.tok _, ⟨_, rfl⟩, o φ H Ext.refl hm _ rep_of_str⟩
        have g : ∀ (n : Nat) (acc : Array Nat), ((List.replicate n a.cps).foldl (· ++ ·) acc).size = acc.size + a.length * n := fun n => by
          induction n with
          | zero => intro acc; simp
          | succ n ih => intro acc; rw [List.replicate_succ, List.foldl_cons, ih, Array.size_append, Nat.mul_succ]; show acc.size + a.cps.size + _ = _; unfold Str.length; omega
        show ((List.replicate j.toNat a.cps).foldl (· ++ ·) #[]).size ≤ sizeLine
        rw [g, sizeLine_eq]
        simp only [List.size_toArray, List.length_nil]
        omega
    · split at o
      · rename_i h0
        subst h0
        cases rep_str px
        cases rep_int py
        obtain ⟨t, rfl⟩ := rx
        obtain ⟨t', rfl⟩ := ry
        exact PySem.P.mul_str_none (by decide) (by decide) ⟨.str _, H, I.tok _, ⟨_, rfl⟩, o φ H Ext.refl hm _ rep_of_str⟩
      · split at o
        · rename_i h0
          subst h0
          cases rep_str px
          cases rep_int py
          obtain ⟨t, rfl⟩ := rx
          obtain ⟨t', rfl⟩ := ry
          refine PySem.P.mul_str (by decide) (fun _ z => by simp at z) (fun _ z => by simp at z) ?_
          rw [if_neg (by decide), if_pos (by simp)]
          exact ⟨.str _, H, I, ⟨_, rfl⟩, o φ H Ext.refl hm _ rep_of_str⟩
        · exact o.elim
  · rename_i a j
    split at o
    · rename_i h
      obtain ⟨⟨h1, h2, h3, h4⟩, h5⟩ := h
      obtain ⟨p, vs, rfl, ha, ra⟩ := rep_tup' px
      refine op_repT pins s σ H _ y v u Q I rx ry ⟨p, j, vs, rfl, rep_int py, ha, fun e => ?_, h1, h2, by rw [ra.length]; exact h4, new_tup (pins := pins) hm (vflat_rep _ ra) o h5⟩
      have := ra.length
      rw [e] at this
      have t : (0 : Nat) = a.length := this
      omega
    · exact o.elim
  · split at o
    · rename_i a ea
      split at o
      · rename_i h
        obtain ⟨h1, h2, h3⟩ := h
        obtain ⟨p, vs, rfl, ha, ra⟩ := seeL_rep hm px ea
        exact op_rep pins s σ H _ y v u Q I rx ry ⟨p, _, vs, rfl, rep_int py, ha, h1, h2, by rw [ra.length, sizeLine_eq]; exact h3, new_lst (pins := pins) hm (vflat_rep _ ra) o⟩
      · exact o.elim
    · exact o.elim
  · exact o.elim
theorem ops_mod : OpS X W (binaryOp .Mod) Op.mod := by
  intro pins s σ H φ μ x y v u dx dy Q I rx ry hm px py o
  unfold Op.mod at o
  split at o
  · split at o
    · rename_i h
      exact op_mod pins s σ H x y v u Q I rx ry ⟨_, _, rep_int px, rep_int py, h, o φ H Ext.refl hm _ rep_of_int⟩
    · exact o.elim
  · exact o.elim
theorem ops_fdiv : OpS X W (binaryOp .FloorDiv) Op.fdiv := by
  intro pins s σ H φ μ x y v u dx dy Q I rx ry hm px py o
  unfold Op.fdiv at o
  split at o
  · split at o
    · rename_i h
      exact op_fdivW pins s σ H x y v u Q I rx ry ⟨_, _, rep_int px, rep_int py, h, o φ H Ext.refl hm _ rep_of_int⟩
    · exact o.elim
  · exact o.elim
theorem ops_pow : OpS X W (binaryOp .Pow) Op.pow := by
  intro pins s σ H φ μ x y v u dx dy Q I rx ry hm px py o
  unfold Op.pow at o
  split at o
  · split at o
    · rename_i h
      cases rep_int px
      cases rep_int py
      obtain ⟨t, rfl⟩ := rx
      obtain ⟨t', rfl⟩ := ry
      exact pow_int h.1 h.2 ⟨.int _, H, I.tok _, ⟨_, rfl⟩, o φ H Ext.refl hm _ rep_of_int⟩
    · exact o.elim
  · exact o.elim
theorem ops_neg : OpS1 X W (unaryOp .USub) Op.neg := by
  intro pins s σ H φ μ x v dx Q I rx hm px o
  unfold Op.neg at o
  split at o
  · exact un_neg pins s σ H x v Q I rx ⟨_, rep_int px, o φ H Ext.refl hm _ rep_of_int⟩
  · exact o.elim
theorem ops_eq (hu : X.A.units + 200 < cLine) : OpS X W (compareOp .Eq) Op.eq := by
  intro pins s σ H φ μ x y v u dx dy Q I rx ry hm px py o
  unfold Op.eq at o
  split at o
  · rename_i a b ea eb
    split at o
    · rename_i h
      obtain ⟨as, r1⟩ := view_reads I hm px rx ea
      obtain ⟨bs, r2⟩ := view_reads I hm py ry eb
      exact PySem.SeqAt.eq_plain r1 r2 (plain_py _) (plain_py _) (by omega) ⟨.bl _, H, I, rfl, o φ H Ext.refl hm _ rep_of_bl⟩
    · exact o.elim
  · exact o.elim
theorem ops_ne (hu : X.A.units + 200 < cLine) : OpS X W (compareOp .NotEq) Op.ne := by
  intro pins s σ H φ μ x y v u dx dy Q I rx ry hm px py o
  unfold Op.ne at o
  split at o
  · rename_i a b ea eb
    split at o
    · rename_i h
      obtain ⟨as, r1⟩ := view_reads I hm px rx ea
      obtain ⟨bs, r2⟩ := view_reads I hm py ry eb
      exact PySem.SeqAt.ne_plain r1 r2 (plain_py _) (plain_py _) (by omega) ⟨.bl _, H, I, rfl, o φ H Ext.refl hm _ rep_of_bl⟩
    · exact o.elim
  · exact o.elim
theorem ops_ord {op : CmpOp} {fi : Int → Int → Bool} {fs : Str → Str → Bool} {fd : PyData → PyData → Bool}
    (hi : OpR X (compareOp op) (rI0 fun i j => .bl (fi i j))) (hs : OpR X (compareOp op) (fun x y H Q => ∃ i j, x = .str i ∧ y = .str j ∧ Q (.bl (fs i j)) H))
    (hd : ∀ (s : Shared) (a b : Value) (da db : PyData) (as bs : List Addr) (Q : Value → Shared → Prop), Reads s.heap a da as → Reads s.heap b db bs → PySem.W.alike da db = true → da ≠ .none → X.A.units + min da.depth db.depth < cLine → Q (.bool (fd da db)) s →
      wpAny (model X.prog X.w) X.A (compareOp op a b) Q X.xe s) (hu : X.A.units + 200 < cLine) : OpS X W (compareOp op) (Op.ord fi fs fd) := by
  intro pins s σ H φ μ x y v u dx dy Q I rx ry hm px py o
  unfold Op.ord at o
  split at o
  · exact hi pins s σ H x y v u Q I rx ry ⟨_, _, rep_int px, rep_int py, o φ H Ext.refl hm _ rep_of_bl⟩
  · exact hs pins s σ H x y v u Q I rx ry ⟨_, _, rep_str px, rep_str py, o φ H Ext.refl hm _ rep_of_bl⟩
  · split at o
    · rename_i h
      rw [Bool.and_eq_true, Bool.and_eq_true, Bool.and_eq_true, decide_eq_true_eq] at h
      obtain ⟨⟨⟨h1, h2⟩, h3⟩, h4⟩ := h
      obtain ⟨as, r1⟩ := rep_reads I _ (by rw [D.pl]; exact h1) px rx
      obtain ⟨bs, r2⟩ := rep_reads I _ (by rw [D.pl]; exact h2) py ry
      exact hd _ _ _ _ _ _ _ _ r1 r2 h3 (by rw [D.py]; exact fun z => nomatch z) (by omega) ⟨.bl _, H, I, rfl, o φ H Ext.refl hm _ rep_of_bl⟩
    · exact o.elim
  · split at o
    · rename_i h
      rw [Bool.and_eq_true, Bool.and_eq_true, Bool.and_eq_true, decide_eq_true_eq] at h
      obtain ⟨⟨⟨h1, h2⟩, h3⟩, h4⟩ := h
      obtain ⟨as, r1⟩ := rep_reads I _ (by rw [D.pl]; exact h1) px rx
      obtain ⟨bs, r2⟩ := rep_reads I _ (by rw [D.pl]; exact h2) py ry
      exact hd _ _ _ _ _ _ _ _ r1 r2 h3 (by rw [D.py]; exact fun z => nomatch z) (by omega) ⟨.bl _, H, I, rfl, o φ H Ext.refl hm _ rep_of_bl⟩
    · exact o.elim
  · exact o.elim
theorem ops_lt (hu : X.A.units + 200 < cLine) : OpS X W (compareOp .Lt) Op.lt := ops_ord op_lt op_lt_str (fun _ _ _ _ _ _ _ _ r1 r2 h n u q => PySem.W.lt_data r1 r2 h n u q) hu
theorem ops_gt (hu : X.A.units + 200 < cLine) : OpS X W (compareOp .Gt) Op.gt := ops_ord op_gt op_gt_str (fun _ _ _ _ _ _ _ _ r1 r2 h n u q => PySem.W.gt_data r1 r2 h n u q) hu
theorem ops_le (hu : X.A.units + 200 < cLine) : OpS X W (compareOp .LtE) Op.le := ops_ord op_le op_le_str (fun _ _ _ _ _ _ _ _ r1 r2 h n u q => PySem.W.le_data r1 r2 h n u q) hu
theorem ops_ge (hu : X.A.units + 200 < cLine) : OpS X W (compareOp .GtE) Op.ge := ops_ord op_ge op_ge_str (fun _ _ _ _ _ _ _ _ r1 r2 h n u q => PySem.W.ge_data r1 r2 h n u q) hu
theorem ops_is : OpS X W (compareOp .Is) Op.is := by
  intro pins s σ H φ μ x y v u dx dy Q I rx ry hm px py o
  unfold Op.is at o
  split at o
  · exact op_isN pins s σ H x y v u Q I rx ry ⟨rep_non py, by rw [rep_isNone px]; exact o φ H Ext.refl hm _ rep_of_bl⟩
  · exact o.elim
theorem ops_isNot : OpS X W (compareOp .IsNot) Op.isNot := by
  intro pins s σ H φ μ x y v u dx dy Q I rx ry hm px py o
  unfold Op.isNot at o
  split at o
  · exact op_notN pins s σ H x y v u Q I rx ry ⟨rep_non py, by rw [rep_isNone px]; exact o φ H Ext.refl hm _ rep_of_bl⟩
  · exact o.elim
end
end Dp

namespace Dp
open PySem PySem.Spec PyProof.Rows L2

/-! ### built-in functions -/
def CallS (X : Cx) (W : WX) (f : Value) (g : List D → Mem → Res D) : Prop :=
  ∀ (pins : List (Addr × Obj)) (s : Shared) (σ : L2.St) (H : Hp) (φ : Pl) (μ : Mem) (xs : List V) (us : List Value) (ds : List D) (Q : VK), Inv X pins σ H s → Vals xs us → Rel X.K φ H μ → RepAll X.K φ H xs ds →
    OutG X.K W σ φ H (GV X.K Q) (g ds μ) → wpAny (model X.prog X.w) X.A (call f us) (EP X pins σ Q) X.xe s
section
variable {X : Cx} {W : WX} {x : Str} {p pos : Pos} {e : Expr} {es : List Expr} {ms : EA} {id T : String} {g : List D → Mem → Res D}
theorem se_callB (hc : CallS X W (.builtin id) g) (hg : Gl X x) (hm : X.mg x = none) (hv : bootBuiltins x = some (.builtin id)) (ha : PA X (e :: es) (liftA X.K W ms)) (hn : x ≠ "__name__" := by decide) (hdb : (x == ("__debug__" : Str)) = false := by decide)
    (he : starEach (e :: es) X.env = (false, eval e X.env) :: starEach es X.env := by rfl) (hpl : (backTo pos (starEach es X.env)).any (·.1) = false := by rfl) : PE X (.Call (.Name x p) (e :: es) [] pos) (lift X.K W (E.call g ms)) := by
  refine ⟨fun pins s σ H Q I ⟨φ, ρ, μ, hl, hr, o⟩ => ?_⟩
  refine wpAny_Call_Name_kw (ld_blt I hg hm hv ?_ hn hdb)
  exact PyProof.Rows.callWith_builtin1 (useA ha I hl hr (OutG.bind o) fun us s1 vs H1 ds μ1 φ1 I1 rv e1 m1 p1 o1 => hc pins s1 σ H1 φ1 μ1 vs us ds Q I1 rv m1 p1 o1) he hpl
theorem se_callTy (hc : CallS X W (.type T) g) (hg : Gl X x) (hm : X.mg x = none) (hv : bootBuiltins x = some (.type T)) (ha : PA X (e :: es) (liftA X.K W ms)) (hn : x ≠ "__name__" := by decide) (hdb : (x == ("__debug__" : Str)) = false := by decide)
    (he : starEach (e :: es) X.env = (false, eval e X.env) :: starEach es X.env := by rfl) (hpl : (backTo pos (starEach es X.env)).any (·.1) = false := by rfl) : PE X (.Call (.Name x p) (e :: es) [] pos) (lift X.K W (E.call g ms)) := by
  refine ⟨fun pins s σ H Q I ⟨φ, ρ, μ, hl, hr, o⟩ => ?_⟩
  refine wpAny_Call_Name_kw (ld_blt I hg hm hv ?_ hn hdb)
  exact PyProof.Rows.callWith_type1 (useA ha I hl hr (OutG.bind o) fun us s1 vs H1 ds μ1 φ1 I1 rv e1 m1 p1 o1 => hc pins s1 σ H1 φ1 μ1 vs us ds Q I1 rv m1 p1 o1) he hpl
end

/-! ### isinstance -/
inductive Kd where
  | non | bl | int | str | tup | lst | dct
inductive Ty where
  | bool | int | str | tup | lst | dct
def Kd.nm : Kd → String
  | .non => "NoneType" | .bl => "bool" | .int => "int" | .str => "str" | .tup => "tuple" | .lst => "list" | .dct => "dict"
def Ty.nm : Ty → String
  | .bool => "bool" | .int => "int" | .str => "str" | .tup => "tuple" | .lst => "list" | .dct => "dict"
def Ty.has : Ty → Kd → Bool
  | .bool, .bl => true | .int, .int => true | .int, .bl => true | .str, .str => true | .tup, .tup => true | .lst, .lst => true | .dct, .dct => true
  | _, _ => false
def kd (μ : Mem) : D → Option Kd
  | .non => some .non | .bl _ => some .bl | .int _ => some .int | .str _ => some .str | .tup _ => some .tup | .lst _ => some .lst | .scr _ => some .lst
  | .ref i => (match μ[i]? with
    | some (.lst _) => some .lst
    | some (.dct _ _) => some .dct
    | _ => none)
  | _ => none
theorem kit_has (t : Ty) (k : Kd) : kitB k.nm t.nm = some (t.has k) := by
  cases t <;> cases k <;> decide +kernel
theorem kd_ty {K : PySem.W.Frag} {φ : Pl} {H : Hp} {μ : Mem} {v : V} {d : D} {k : Kd} (hm : Rel K φ H μ) (r : Rep K φ H v d) (e : kd μ d = some k) : TyX K H v (.type k.nm) := by
  have ql : ∀ {a : Addr} {vs : List V}, SqF K H a vs → TyX K H (.ref a) (.type "list") := fun {a vs} q => by
    rcases q with ⟨o, q⟩ | ⟨o, its, n, q, qc, _⟩
    · exact .base (.frz q)
    · exact .kList q qc
  unfold kd at e
  cases d with
  | non => cases e; rw [rep_non r]; exact .base .non
  | bl b => cases e; rw [rep_bl r]; exact .base (.bl b)
  | int b => cases e; rw [rep_int r]; exact .base (.int b)
  | str b => cases e; rw [rep_str r]; exact .base (.str b)
  | tup b =>
    cases e
    obtain ⟨p, vs, rfl, q, _⟩ := rep_tup' r
    rcases q with (q | ⟨o, q⟩) | ⟨o, its, n, q, qc, _⟩
    · exact .base (.tup q)
    · exact .fTuple q
    · exact .kTuple q qc
  | lst b => cases e; obtain ⟨p, vs, rfl, q, _⟩ := rep_lst' r; exact .base (.lst q.1)
  | scr b => cases e; unfold Rep at r; obtain ⟨p, rfl, q⟩ := r; exact ql q
  | dct ks b => cases e
  | ref i =>
    unfold Rep at r
    obtain ⟨a, rfl, q⟩ := r
    dsimp only at e
    split at e
    · rename_i xs hx
      cases e
      obtain ⟨vs, h1, _⟩ := hm.obj i a _ q hx
      exact .base (.lst h1)
    · rename_i ks xs hx
      cases e
      obtain ⟨vs, h1, _⟩ := hm.obj i a _ q hx
      exact .base (.dK h1)
    · cases e
  | adr a => cases e
  | ty a => cases e
namespace Op
def isTy (t : Ty) (x : D) (μ : Mem) : Res D := match kd μ x with
  | some k => .ok (.bl (t.has k)) μ
  | none => .bad
end Op
section
variable {X : Cx} {W : WX} {p pt pos : Pos} {e : Expr} {m : EE}
/-- isinstance(e, T) -/
theorem se_isTy {y : Str} (t : Ty) (hg : Gl X "isinstance") (hm : X.mg "isinstance" = none) (he : PE X e (lift X.K W m)) (ht : PE X (.Name y pt) (tC (.ty t.nm)))
    (hs : starEach [e, .Name y pt] X.env = (false, eval e X.env) :: starEach [.Name y pt] X.env := by rfl) (hs2 : starEach [.Name y pt] X.env = [(false, eval (.Name y pt) X.env)] := by rfl)
    (hpl : (backTo pos (starEach [.Name y pt] X.env)).any (·.1) = false := by rfl) : PE X (.Call (.Name "isinstance" p) [e, .Name y pt] [] pos) (lift X.K W (E.op1 (Op.isTy t) m)) := by
  refine ⟨fun pins s σ H Q I ⟨φ, ρ, μ, hl, hr, o⟩ => ?_⟩
  refine (pe_callB (call_isi (X := X)) hg hm rfl (pa_cons he (pa_cons ht pa_nil hs2) hs) (by decide) (by decide) hs hpl).run pins s σ H Q I ?_
  refine ⟨φ, ρ, μ, hl, hr, (OutG.bind o).imp fun d μ1 φ1 H1 e1 r1 o1 v rv => ?_⟩
  unfold Op.isTy at o1
  split at o1
  · rename_i k hk
    exact ⟨v, .ty t.nm, _, _, _, rfl, .ty _, kd_ty r1 rv hk, kit_ty (kit_has t k), o1 φ1 H1 Ext.refl r1 _ rep_of_bl⟩
  · exact o1.elim
end

/-! ### functions of one or two values -/
namespace F
def boolsOf : List D → Option (List Bool)
  | [] => some []
  | .bl b :: xs => (boolsOf xs).map (b :: ·)
  | _ => none
def intsOf : List D → Option (List Int)
  | [] => some []
  | .int b :: xs => (intsOf xs).map (b :: ·)
  | _ => none
def len (ds : List D) (μ : Mem) : Res D := match ds with
  | [.str x] => if x.length ≤ 16777216 then .ok (.int x.length) μ else .bad
  | [.tup xs] => .ok (.int xs.length) μ
  | [.dct ks xs] => .ok (.int ks.length) μ
  | [d] => (match seeQ μ d with
    | some xs => .ok (.int xs.length) μ
    | none => match d with
      | .ref i => (match μ[i]? with
        | some (.dct ks xs) => .ok (.int ks.length) μ
        | _ => .bad)
      | _ => .bad)
  | _ => .bad
def all (ds : List D) (μ : Mem) : Res D := match ds with
  | [d] => (match (seeL μ d).bind boolsOf with
    | some bs => .ok (.bl (bs.all id)) μ
    | none => .bad)
  | _ => .bad
def any (ds : List D) (μ : Mem) : Res D := match ds with
  | [d] => (match (seeL μ d).bind boolsOf with
    | some bs => .ok (.bl (bs.any id)) μ
    | none => .bad)
  | _ => .bad
def sum (ds : List D) (μ : Mem) : Res D := match ds with
  | [d] => (match (seeQ μ d).bind intsOf with
    | some ns => .ok (.int ns.sum) μ
    | none => .bad)
  | _ => .bad
def ord (ds : List D) (μ : Mem) : Res D := match ds with
  | [.str x] => if x.length = 1 then .ok (.int (x.cps.getD 0 0 : Nat)) μ else .bad
  | _ => .bad
def abs (ds : List D) (μ : Mem) : Res D := match ds with
  | [.int i] => .ok (.int (if i < 0 then -i else i)) μ
  | _ => .bad
def int (ds : List D) (μ : Mem) : Res D := match ds with
  | [.int i] => .ok (.int i) μ
  | [.bl k] => .ok (.int (if k then 1 else 0)) μ
  | _ => .bad
def str (ds : List D) (μ : Mem) : Res D := match ds with
  | [.int i] => if i.natAbs.log2 < 1920 then .ok (.str (toString i)) μ else .bad
  | _ => .bad
/-- the first of the greatest, of the least -/
def maxL (x : D) (xs : List D) : D := xs.foldl (fun a y => if PySem.W.dataLt a.py y.py then y else a) x
def minL (x : D) (xs : List D) : D := xs.foldl (fun a y => if PySem.W.dataLt y.py a.py then y else a) x
def alikeD (xs : List D) : Bool := xs.all fun a => !Op.isNone a && xs.all fun b => PySem.W.alike a.py b.py
def max (ds : List D) (μ : Mem) : Res D := match ds with
  | [.int i, .int j] => .ok (.int (if j > i then j else i)) μ
  | [.lst (x :: xs)] => if plAll (x :: xs) && alikeD (x :: xs) && decide (PyData.depthAll (pyAll (x :: xs)) ≤ 150) then .ok (maxL x xs) μ else .bad
  | _ => .bad
def min (ds : List D) (μ : Mem) : Res D := match ds with
  | [.int i, .int j] => .ok (.int (if j < i then j else i)) μ
  | [.lst (x :: xs)] => if plAll (x :: xs) && alikeD (x :: xs) && decide (PyData.depthAll (pyAll (x :: xs)) ≤ 150) then .ok (minL x xs) μ else .bad
  | _ => .bad
def tuple (ds : List D) (μ : Mem) : Res D := match ds with
  | [.tup xs] => .ok (.tup xs) μ
  | [d] => (match seeQ μ d with
    | some xs => .ok (.tup xs) μ
    | none => .bad)
  | _ => .bad
def list (ds : List D) (μ : Mem) : Res D := match ds with
  | [.tup xs] => .ok (.lst xs) μ
  | [d] => (match seeQ μ d with
    | some xs => .ok (.lst xs) μ
    | none => .bad)
  | _ => .bad
/-- .. as an object of the memory -/
def mlist (ds : List D) (μ : Mem) : Res D := match ds with
  | [.tup xs] => .ok (.ref μ.length) (μ ++ [.lst xs])
  | [d] => (match seeQ μ d with
    | some xs => .ok (.ref μ.length) (μ ++ [.lst xs])
    | none => .bad)
  | _ => .bad
def sortOk (xs : List D) : Bool := plAll xs && alikeD xs && ((xs.all fun d => match d with
  | .tup (_ :: _) => true
  | _ => false) || (xs.all fun d => match d with
  | .non => false
  | .tup _ => false
  | _ => true)) && decide (PyData.depthAll (pyAll xs) ≤ 150)
def sorted (ds : List D) (μ : Mem) : Res D := match ds with
  | [d] => (match seeQ μ d with
    | some xs => if sortOk xs then .ok (.lst (xs.mergeSort (PySem.W.dataLe false D.py))) μ else .bad
    | none => .bad)
  | _ => .bad
def repr (ds : List D) (μ : Mem) : Res D := match ds with
  | [d] => (match view μ d with
    | some e => if e.py.showable && decide (e.py.shown.length ≤ 16777216) && decide (e.py.depth ≤ 150) then .ok (.str e.py.shown) μ else .bad
    | none => .bad)
  | _ => .bad
end F
section
variable {K : PySem.W.Frag} {φ : Pl} {H : Hp} {v : V}
theorem bools_rep : ∀ {xs : List D} {vs : List V} {bs : List Bool}, RepAll K φ H vs xs → F.boolsOf xs = some bs → vs = bs.map V.bl
  | [], _, _, r, e => by unfold RepAll at r; subst r; cases e; rfl
  | d :: xs, _, bs, r, e => by
    unfold RepAll at r
    obtain ⟨v, q, rfl, h1, h2⟩ := r
    cases d with
    | bl b =>
      rw [F.boolsOf] at e
      cases h : F.boolsOf xs with
      | none => rw [h] at e; cases e
      | some cs => rw [h] at e; cases e; rw [rep_bl h1, bools_rep h2 h]; rfl
    | _ => cases e
theorem ints_rep : ∀ {xs : List D} {vs : List V} {bs : List Int}, RepAll K φ H vs xs → F.intsOf xs = some bs → vs = bs.map V.int
  | [], _, _, r, e => by unfold RepAll at r; subst r; cases e; rfl
  | d :: xs, _, bs, r, e => by
    unfold RepAll at r
    obtain ⟨v, q, rfl, h1, h2⟩ := r
    cases d with
    | int b =>
      rw [F.intsOf] at e
      cases h : F.intsOf xs with
      | none => rw [h] at e; cases e
      | some cs => rw [h] at e; cases e; rw [rep_int h1, ints_rep h2 h]; rfl
    | _ => cases e
end
mutual
theorem py_inj : ∀ a b : D, a.pl = true → b.pl = true → a.py = b.py → a = b
  | .non, b, _, hb, e => by cases b <;> first | rfl | (simp [D.pl] at hb; done) | (simp [D.py] at e)
  | .bl x, b, _, hb, e => by
    cases b with
    | bl y => rw [D.py, D.py] at e; cases e; rfl
    | _ => first | (simp [D.pl] at hb; done) | (simp [D.py] at e)
  | .int x, b, _, hb, e => by
    cases b with
    | int y => rw [D.py, D.py] at e; cases e; rfl
    | _ => first | (simp [D.pl] at hb; done) | (simp [D.py] at e)
  | .str x, b, _, hb, e => by
    cases b with
    | str y => rw [D.py, D.py] at e; cases e; rfl
    | _ => first | (simp [D.pl] at hb; done) | (simp [D.py] at e)
  | .tup x, b, ha, hb, e => by
    cases b with
    | tup y => rw [D.py, D.py] at e; rw [D.pl] at ha hb; rw [pyAll_inj x y ha hb (PyData.tuple.inj e)]
    | _ => first | (simp [D.pl] at hb; done) | (simp [D.py] at e)
  | .lst x, b, ha, hb, e => by
    cases b with
    | lst y => rw [D.py, D.py] at e; rw [D.pl] at ha hb; rw [pyAll_inj x y ha hb (PyData.list.inj e)]
    | _ => first | (simp [D.pl] at hb; done) | (simp [D.py] at e)
  | .dct _ _, _, ha, _, _ => by rw [D.pl] at ha; cases ha
  | .ref _, _, ha, _, _ => by rw [D.pl] at ha; cases ha
  | .adr _, _, ha, _, _ => by rw [D.pl] at ha; cases ha
  | .ty _, _, ha, _, _ => by rw [D.pl] at ha; cases ha
  | .scr _, _, ha, _, _ => by rw [D.pl] at ha; cases ha
theorem pyAll_inj : ∀ a b : List D, plAll a = true → plAll b = true → pyAll a = pyAll b → a = b
  | [], [], _, _, _ => rfl
  | [], y :: b, _, _, e => by rw [pyAll, pyAll] at e; cases e
  | x :: a, [], _, _, e => by rw [pyAll, pyAll] at e; cases e
  | x :: a, y :: b, ha, hb, e => by
    rw [pyAll, pyAll] at e
    rw [plAll, Bool.and_eq_true] at ha hb
    injection e with e1 e2
    rw [py_inj x y ha.1 hb.1 e1, pyAll_inj a b ha.2 hb.2 e2]
end
theorem maxL_py (x : D) (xs : List D) : (F.maxL x xs).py = PySem.W.maxD x.py (pyAll xs) := by
  rw [pyAll_map]
  unfold F.maxL PySem.W.maxD
  induction xs generalizing x with
  | nil => rfl
  | cons y xs ih =>
    rw [List.foldl_cons, List.map_cons, List.foldl_cons, ih]
    congr 1
    split <;> rfl
theorem minL_py (x : D) (xs : List D) : (F.minL x xs).py = PySem.W.minD x.py (pyAll xs) := by
  rw [pyAll_map]
  unfold F.minL PySem.W.minD
  induction xs generalizing x with
  | nil => rfl
  | cons y xs ih =>
    rw [List.foldl_cons, List.map_cons, List.foldl_cons, ih]
    congr 1
    split <;> rfl
theorem fold_mem (f : D → D → Bool) (x : D) (xs : List D) : xs.foldl (fun a y => if f a y then y else a) x ∈ x :: xs := by
  induction xs generalizing x with
  | nil => exact List.mem_cons_self
  | cons y xs ih =>
    rw [List.foldl_cons]
    by_cases h : f x y = true
    · rw [if_pos h]; exact List.mem_cons_of_mem _ (ih y)
    · rw [if_neg h]
      rcases List.mem_cons.mp (ih x) with e | e
      · rw [e]; exact List.mem_cons_self
      · exact List.mem_cons_of_mem _ (List.mem_cons_of_mem _ e)
theorem plAll_mem {xs : List D} (h : plAll xs = true) {d : D} (m : d ∈ xs) : d.pl = true := by
  rw [plAll_all, List.all_eq_true] at h
  exact h d m
theorem alikeD_ok {xs : List D} (h : F.alikeD xs = true) {a b : D} (ha : a ∈ xs) (hb : b ∈ xs) : PySem.W.alike a.py b.py = true := by
  unfold F.alikeD at h
  rw [List.all_eq_true] at h
  have := h a ha
  rw [Bool.and_eq_true, List.all_eq_true] at this
  exact this.2 b hb
theorem alikeD_non {xs : List D} (h : F.alikeD xs = true) (p : plAll xs = true) {a : D} (ha : a ∈ xs) : a.py ≠ .none := by
  unfold F.alikeD at h
  rw [List.all_eq_true] at h
  have := h a ha
  rw [Bool.and_eq_true] at this
  have hp := plAll_mem p ha
  intro z
  cases a <;> first | (simp [Op.isNone] at this; done) | (simp [D.py] at z; done) | (simp [D.pl] at hp)
theorem alikeAll_of {xs : List D} (h : F.alikeD xs = true) (p : plAll xs = true) : PySem.W.AlikeAll (pyAll xs) := by
  rw [pyAll_map]
  refine ⟨fun d hd d' hd' => ?_, fun d hd => ?_⟩
  · obtain ⟨b, h1, rfl⟩ := List.mem_map.mp hd
    obtain ⟨b', h2, rfl⟩ := List.mem_map.mp hd'
    exact alikeD_ok h h1 h2
  · obtain ⟨b, h1, rfl⟩ := List.mem_map.mp hd
    exact alikeD_non h p h1
theorem vals_get' {vs : List V} {us : List Value} (r : Vals vs us) {i : Nat} {u : Value} (h : us[i]? = some u) : ∃ v, vs[i]? = some v ∧ RelV v u := by
  have hl := r.length
  have hi : i < vs.length := by rw [hl]; exact (List.getElem?_eq_some_iff.mp h).1
  obtain ⟨u', h1, h2⟩ := r.get (List.getElem?_eq_getElem hi)
  rw [h] at h1; cases h1
  exact ⟨_, List.getElem?_eq_getElem hi, h2⟩
mutual
theorem noDict_of : ∀ d : PyData, d.plain = true → d.hasDict = false
  | .none, _ => rfl
  | .bool _, _ => rfl
  | .int _, _ => rfl
  | .str _, _ => rfl
  | .list xs, h => by rw [PyData.plain] at h; rw [PyData.hasDict]; exact noDictAll_of xs h
  | .tuple xs, h => by rw [PyData.plain] at h; rw [PyData.hasDict]; exact noDictAll_of xs h
  | .dict _, h => by rw [PyData.plain] at h; cases h
theorem noDictAll_of : ∀ ds : List PyData, PyData.plainAll ds = true → PyData.hasDictAll ds = false
  | [], _ => rfl
  | d :: ds, h => by
    rw [PyData.plainAll, Bool.and_eq_true] at h
    rw [PyData.hasDictAll, noDict_of d h.1, noDictAll_of ds h.2]; rfl
end
theorem plain_noDict (d : D) : d.py.hasDict = false := noDict_of _ (plain_py d)
section
variable {X : Cx} {W : WX}
theorem one_val {K : PySem.W.Frag} {φ : Pl} {H : Hp} {xs : List V} {us : List Value} {d : D} (r : Vals xs us) (rs : RepAll K φ H xs [d]) : ∃ v u, xs = [v] ∧ us = [u] ∧ RelV v u ∧ Rep K φ H v d := by
  obtain ⟨v, rfl, h⟩ := repAll1 rs
  obtain ⟨u, rfl, ru⟩ := vals1 r
  exact ⟨v, u, rfl, rfl, ru, h⟩
/-- an item picked by its data -/
theorem picked {pins : List (Addr × Obj)} {s : Shared} {σ : L2.St} {H : Hp} {φ : Pl} {μ : Mem} {vs : List V} {its : List Value} {ds : List D} {d : D} {i : Nat} {u : Value} {h' : Heap} {tk : Nat} {bs : List Addr} {Q : VK} (I : Inv X pins σ H s) (hm : Rel X.K φ H μ) (rv : Vals vs its) (rs : RepAll X.K φ H vs ds)
    (p : plAll ds = true) (hd : d ∈ ds) (hu : its[i]? = some u) (hr : Reads h' u d.py bs) (hk : ∀ b o, s.heap.get? b = some o → h'.get? b = some o) (o : OutG X.K W σ φ H (GV X.K Q) (.ok d μ)) : EP X pins σ Q u { s with heap := h', toks := tk } := by
  obtain ⟨v, hv, rvu⟩ := vals_get' rv hu
  obtain ⟨e, he, re⟩ := repAll_get' rs hv
  have I1 : Inv X pins σ H { s with heap := h', toks := tk } := I.kept hk
  have pe := plAll_mem p (List.mem_of_getElem? he)
  obtain ⟨as, re'⟩ := rep_reads I1 e pe re rvu
  have := PySem.SeqAt.plain_unique _ _ _ _ _ (plain_py e) re' hr
  have hed : e = d := py_inj e d pe (plAll_mem p hd) this
  subst hed
  exact ⟨v, H, I1, rvu, o φ H Ext.refl hm _ re⟩
theorem calls_len : CallS X W (.builtin "len") F.len := by
  intro pins s σ H φ μ xs us ds Q I rv hm rs o
  unfold F.len at o
  split at o
  · rename_i x
    obtain ⟨v, u, rfl, rfl, r1, h1⟩ := one_val rv rs
    split at o
    · rename_i hx
      exact call_len pins s σ H _ _ Q I rv ⟨.str x, x.length, by rw [rep_str h1], ⟨by rw [sizeLine_eq]; exact hx, rfl⟩, o φ H Ext.refl hm _ rep_of_int⟩
    · exact o.elim
  · rename_i x
    obtain ⟨v, u, rfl, rfl, r1, h1⟩ := one_val rv rs
    obtain ⟨p, vs, rfl, q, rs'⟩ := rep_tup' h1
    exact call_len pins s σ H _ _ Q I rv ⟨_, x.length, rfl, .inr ⟨vs, q, rs'.length.symm⟩, o φ H Ext.refl hm _ rep_of_int⟩
  · rename_i ks x
    obtain ⟨v, u, rfl, rfl, r1, h1⟩ := one_val rv rs
    unfold Rep at h1
    obtain ⟨p, vs, rfl, q, rs'⟩ := h1
    cases r1
    refine d_len I (.inr q.1) fun t s' I' => ⟨.int ks.length, H, I', ⟨t, ?_⟩, o φ H Ext.refl hm _ rep_of_int⟩
    have e1 := rs'.length
    have e2 := q.2
    rw [List.length_zip, e1, e2, Nat.min_self]
  · rename_i d _ _ _
    obtain ⟨v, u, rfl, rfl, r1, h1⟩ := one_val rv rs
    split at o
    · rename_i ys hy
      obtain ⟨a, vs, rfl, q, rs'⟩ := seeQ_rep hm h1 hy
      exact call_len pins s σ H _ _ Q I rv ⟨_, ys.length, rfl, .inl ⟨vs, q, rs'.length.symm⟩, o φ H Ext.refl hm _ rep_of_int⟩
    · split at o
      · split at o
        · rename_i i ks ys hy
          unfold Rep at h1
          obtain ⟨a, rfl, q⟩ := h1
          obtain ⟨vs, h2, h3, rs'⟩ := hm.obj _ a _ q hy
          cases r1
          refine d_len I (.inl h2) fun t s' I' => ⟨.int ks.length, H, I', ⟨t, ?_⟩, o φ H Ext.refl hm _ rep_of_int⟩
          have e1 := rs'.length
          rw [List.length_zip, e1, h3, Nat.min_self]
        · exact o.elim
      · exact o.elim
  · exact o.elim
theorem calls_all (hc : X.calm = true) : CallS X W (.builtin "all") F.all := by
  intro pins s σ H φ μ xs us ds Q I rv hm rs o
  unfold F.all at o
  split at o
  · rename_i d
    split at o
    · rename_i bs hb
      obtain ⟨ys, h1, h2⟩ := Option.bind_eq_some_iff.mp hb
      obtain ⟨v, u, rfl, rfl, r1, h3⟩ := one_val rv rs
      obtain ⟨a, vs, rfl, q, rs'⟩ := seeL_rep hm h3 h1
      have e := bools_rep rs' h2
      subst e
      exact cr_all hc pins s σ H _ _ Q I rv ⟨a, bs, rfl, .of q, o φ H Ext.refl hm _ rep_of_bl⟩
    · exact o.elim
  · exact o.elim
theorem calls_any (hc : X.calm = true) : CallS X W (.builtin "any") F.any := by
  intro pins s σ H φ μ xs us ds Q I rv hm rs o
  unfold F.any at o
  split at o
  · rename_i d
    split at o
    · rename_i bs hb
      obtain ⟨ys, h1, h2⟩ := Option.bind_eq_some_iff.mp hb
      obtain ⟨v, u, rfl, rfl, r1, h3⟩ := one_val rv rs
      obtain ⟨a, vs, rfl, q, rs'⟩ := seeL_rep hm h3 h1
      have e := bools_rep rs' h2
      subst e
      exact cr_any hc pins s σ H _ _ Q I rv ⟨a, bs, rfl, .of q, o φ H Ext.refl hm _ rep_of_bl⟩
    · exact o.elim
  · exact o.elim
theorem calls_sum (hc : X.calm = true) : CallS X W (.builtin "sum") F.sum := by
  intro pins s σ H φ μ xs us ds Q I rv hm rs o
  unfold F.sum at o
  split at o
  · rename_i d
    split at o
    · rename_i bs hb
      obtain ⟨ys, h1, h2⟩ := Option.bind_eq_some_iff.mp hb
      obtain ⟨v, u, rfl, rfl, r1, h3⟩ := one_val rv rs
      obtain ⟨a, vs, rfl, q, rs'⟩ := seeQ_rep hm h3 h1
      have e := ints_rep rs' h2
      subst e
      exact cr_sum hc pins s σ H _ _ Q I rv ⟨a, bs, rfl, q, o φ H Ext.refl hm _ rep_of_int⟩
    · exact o.elim
  · exact o.elim
theorem calls_abs : CallS X W (.builtin "abs") F.abs := by
  intro pins s σ H φ μ xs us ds Q I rv hm rs o
  unfold F.abs at o
  split at o
  · obtain ⟨v, u, rfl, rfl, r1, h1⟩ := one_val rv rs
    exact call_abs pins s σ H _ _ Q I rv ⟨_, by rw [rep_int h1], o φ H Ext.refl hm _ rep_of_int⟩
  · exact o.elim
theorem calls_ord : CallS X W (.builtin "ord") F.ord := by
  intro pins s σ H φ μ xs us ds Q I rv hm rs o
  unfold F.ord at o
  split at o
  · split at o
    · rename_i x hx
      obtain ⟨v, u, rfl, rfl, r1, h1⟩ := one_val rv rs
      exact call_ord pins s σ H _ _ Q I rv ⟨_, by rw [rep_str h1], hx, o φ H Ext.refl hm _ rep_of_int⟩
    · exact o.elim
  · exact o.elim
theorem calls_int : CallS X W (.type "int") F.int := by
  intro pins s σ H φ μ xs us ds Q I rv hm rs o
  unfold F.int at o
  split at o
  · obtain ⟨v, u, rfl, rfl, r1, h1⟩ := one_val rv rs
    exact call_int1 pins s σ H _ _ Q I rv (.inl ⟨_, by rw [rep_int h1], o φ H Ext.refl hm _ rep_of_int⟩)
  · obtain ⟨v, u, rfl, rfl, r1, h1⟩ := one_val rv rs
    exact call_int1 pins s σ H _ _ Q I rv (.inr ⟨_, by rw [rep_bl h1], o φ H Ext.refl hm _ rep_of_int⟩)
  · exact o.elim
theorem calls_str : CallS X W (.type "str") F.str := by
  intro pins s σ H φ μ xs us ds Q I rv hm rs o
  unfold F.str at o
  split at o
  · split at o
    · rename_i h
      obtain ⟨v, u, rfl, rfl, r1, h1⟩ := one_val rv rs
      exact call_str_int pins s σ H _ _ Q I rv ⟨_, by rw [rep_int h1], h, o φ H Ext.refl hm _ rep_of_str⟩
    · exact o.elim
  · exact o.elim
theorem calls_max (hc : X.calm = true) (hu : X.A.units + 200 < cLine) : CallS X W (.builtin "max") F.max := by
  intro pins s σ H φ μ xs us ds Q I rv hm rs o
  unfold F.max at o
  split at o
  · obtain ⟨v, w, rfl, h1, h2⟩ := repAll2 rs
    exact call_max2 hc pins s σ H _ _ Q I rv ⟨_, _, by rw [rep_int h1, rep_int h2], o φ H Ext.refl hm _ rep_of_int⟩
  · rename_i x ys
    split at o
    · rename_i h
      rw [Bool.and_eq_true, Bool.and_eq_true, decide_eq_true_eq] at h
      obtain ⟨⟨h1, h2⟩, h3⟩ := h
      obtain ⟨v, u, rfl, rfl, r1, h4⟩ := one_val rv rs
      obtain ⟨a, vs, rfl, q, rs'⟩ := rep_lst' h4
      cases r1
      obtain ⟨its, rv', hl, _⟩ := I.list (.of q.1)
      obtain ⟨as, ra⟩ := rep_readsAll I _ h1 rs' rv'
      refine PySem.W.max_list_data (x := x.py) (xs := pyAll ys) (I.ok.hd hc) hl.isList (by simpa [pyAll] using ra) (by simpa [pyAll] using alikeAll_of h2 h1) (by rw [pyAll] at h3; omega) fun i w h' tk bs hi hr hk => ?_
      exact picked I hm rv' rs' h1 (fold_mem _ x ys) (by simpa using hi) (by rw [← maxL_py] at hr; exact hr) hk o
    · exact o.elim
  · exact o.elim
theorem calls_min (hc : X.calm = true) (hu : X.A.units + 200 < cLine) : CallS X W (.builtin "min") F.min := by
  intro pins s σ H φ μ xs us ds Q I rv hm rs o
  unfold F.min at o
  split at o
  · obtain ⟨v, w, rfl, h1, h2⟩ := repAll2 rs
    exact call_min2 hc pins s σ H _ _ Q I rv ⟨_, _, by rw [rep_int h1, rep_int h2], o φ H Ext.refl hm _ rep_of_int⟩
  · rename_i x ys
    split at o
    · rename_i h
      rw [Bool.and_eq_true, Bool.and_eq_true, decide_eq_true_eq] at h
      obtain ⟨⟨h1, h2⟩, h3⟩ := h
      obtain ⟨v, u, rfl, rfl, r1, h4⟩ := one_val rv rs
      obtain ⟨a, vs, rfl, q, rs'⟩ := rep_lst' h4
      cases r1
      obtain ⟨its, rv', hl, _⟩ := I.list (.of q.1)
      obtain ⟨as, ra⟩ := rep_readsAll I _ h1 rs' rv'
      refine PySem.W.min_list_data (x := x.py) (xs := pyAll ys) (I.ok.hd hc) hl.isList (by simpa [pyAll] using ra) (by simpa [pyAll] using alikeAll_of h2 h1) (by rw [pyAll] at h3; omega) fun i w h' tk bs hi hr hk => ?_
      exact picked I hm rv' rs' h1 (fold_mem _ x ys) (by simpa using hi) (by rw [← minL_py] at hr; exact hr) hk o
    · exact o.elim
  · exact o.elim
/-- tuple(l): told to the letter -/
theorem call_tupleF : CallR X (.type "tuple") (fun xs H Q => ∃ p ys, xs = [.ref p] ∧ SqL X.K H p ys ∧ ∀ l o, H l = none → o.dict = none → Q (.ref l) (upd H l (.frz o (.tup ys)))) := by
  intro pins s σ H xs us Q I r h
  obtain ⟨p, ys, rfl, hq, q⟩ := h
  obtain ⟨u, rfl, rx⟩ := vals1 r
  cases rx
  obtain ⟨its, r', pl, hz⟩ := I.list hq
  have hlen := r'.length
  refine call_tuple_list pl.isList (fun h' kp => ?_) (by simp only [List.size_toArray] <;> omega)
  have I1 : Inv X pins σ H { s with heap := h' } := I.kept (t' := s.toks) kp
  have I2 : Inv X pins σ (upd H h'.objs.size (.frz { cls := .type "tuple", data := .seq its.toArray } (.tup ys))) { s with heap := h'.push { cls := .type "tuple", data := .seq its.toArray } } :=
    I1.laid (t' := s.toks) (fun b o e => Heap.get?_push_of_some _ e) (Nat.le_refl _) (show ObjOk X.prog X.w _ _ _ (.frz _ (.tup ys)) from ⟨Heap.get?_push_size _ rfl, hz, its, r', IsTup.new _ _⟩)
  exact ⟨.ref h'.objs.size, _, I2, rfl, q _ _ (I1.hok.fresh (Nat.le_refl _)) rfl⟩
theorem calls_tuple : CallS X W (.type "tuple") F.tuple := by
  intro pins s σ H φ μ xs us ds Q I rv hm rs o
  unfold F.tuple at o
  split at o
  · obtain ⟨v, u, rfl, rfl, r1, h1⟩ := one_val rv rs
    obtain ⟨p, vs, rfl, q, rs'⟩ := rep_tup' h1
    exact call_tuple_of pins s σ H _ _ Q I rv ⟨p, vs, rfl, .inr ⟨q, o φ H Ext.refl hm _ h1⟩⟩
  · split at o
    · rename_i ys hy
      obtain ⟨v, u, rfl, rfl, r1, h1⟩ := one_val rv rs
      obtain ⟨a, vs, rfl, q, rs'⟩ := seeQ_rep hm h1 hy
      exact call_tupleF pins s σ H _ _ Q I rv ⟨a, vs, rfl, q, new_tupF (pins := pins) hm rs' o⟩
    · exact o.elim
  · exact o.elim
theorem calls_list : CallS X W (.type "list") F.list := by
  intro pins s σ H φ μ xs us ds Q I rv hm rs o
  unfold F.list at o
  split at o
  · obtain ⟨v, u, rfl, rfl, r1, h1⟩ := one_val rv rs
    obtain ⟨p, vs, rfl, q, rs'⟩ := rep_tup' h1
    exact call_list_of pins s σ H _ _ Q I rv ⟨p, vs, rfl, .inr q, new_lst (pins := pins) hm rs' o⟩
  · split at o
    · rename_i ys hy
      obtain ⟨v, u, rfl, rfl, r1, h1⟩ := one_val rv rs
      obtain ⟨a, vs, rfl, q, rs'⟩ := seeQ_rep hm h1 hy
      exact call_list_of pins s σ H _ _ Q I rv ⟨a, vs, rfl, .inl q, new_lst (pins := pins) hm rs' o⟩
    · exact o.elim
  · exact o.elim
theorem new_mlst {σ : L2.St} {H : Hp} {φ : Pl} {μ : Mem} {vs : List V} {ds : List D} {Q : VK} (hm : Rel X.K φ H μ) (rs : RepAll X.K φ H vs ds) (o : OutG X.K W σ φ H (GV X.K Q) (.ok (.ref μ.length) (μ ++ [.lst ds]))) : ∀ p, H p = none → Q (.ref p) (upd H p (.lst vs)) :=
  fun p hp => o (φ.push p) _ (Ext.push hm hp) (hm.push hp ⟨vs, upd_same, rs.ext (Ext.push hm hp)⟩) _ (rep_new hm)
theorem calls_mlist : CallS X W (.type "list") F.mlist := by
  intro pins s σ H φ μ xs us ds Q I rv hm rs o
  unfold F.mlist at o
  split at o
  · obtain ⟨v, u, rfl, rfl, r1, h1⟩ := one_val rv rs
    obtain ⟨p, vs, rfl, q, rs'⟩ := rep_tup' h1
    exact call_list_of pins s σ H _ _ Q I rv ⟨p, vs, rfl, .inr q, new_mlst hm rs' o⟩
  · split at o
    · rename_i ys hy
      obtain ⟨v, u, rfl, rfl, r1, h1⟩ := one_val rv rs
      obtain ⟨a, vs, rfl, q, rs'⟩ := seeQ_rep hm h1 hy
      exact call_list_of pins s σ H _ _ Q I rv ⟨a, vs, rfl, .inl q, new_mlst hm rs' o⟩
    · exact o.elim
  · exact o.elim
/-- values that stand for data -/
theorem each_of {φ : Pl} {H : Hp} : ∀ {vs : List V} {us : List Value} {ds : List D}, Vals vs us → RepAll X.K φ H vs ds → PySem.W.EachIs (fun u d => ∃ v, RelV v u ∧ Rep X.K φ H v d) us ds
  | _, _, [], r, rs => by unfold RepAll at rs; subst rs; cases r; exact .nil
  | _, _, d :: ds, r, rs => by
    unfold RepAll at rs
    obtain ⟨v, q, rfl, h1, h2⟩ := rs
    cases r with
    | cons r1 r2 => exact .cons ⟨v, r1, h1⟩ (each_of r2 h2)
theorem of_each {φ : Pl} {H : Hp} : ∀ {us : List Value} {ds : List D}, PySem.W.EachIs (fun u d => ∃ v, RelV v u ∧ Rep X.K φ H v d) us ds → ∃ vs, Vals vs us ∧ RepAll X.K φ H vs ds
  | _, _, .nil => ⟨[], .nil, RepAll.nil_⟩
  | _, _, .cons ⟨v, h1, h2⟩ t => by
    obtain ⟨vs, a, b⟩ := of_each t
    exact ⟨v :: vs, .cons h1 a, RepAll.cons_ h2 b⟩
theorem each_reads {pins : List (Addr × Obj)} {s : Shared} {σ : L2.St} {H : Hp} {φ : Pl} (I : Inv X pins σ H s) : ∀ {vs : List V} {us : List Value} {ds : List D}, plAll ds = true → Vals vs us → RepAll X.K φ H vs ds → PySem.W.EachIs (fun v b => ∃ as, Reads s.heap v (D.py b) as) us ds
  | _, _, [], _, r, rs => by unfold RepAll at rs; subst rs; cases r; exact .nil
  | _, _, d :: ds, p, r, rs => by
    unfold RepAll at rs
    obtain ⟨v, q, rfl, h1, h2⟩ := rs
    rw [plAll, Bool.and_eq_true] at p
    cases r with
    | cons r1 r2 => exact .cons (rep_reads I d p.1 h1 r1) (each_reads I p.2 r2 h2)
theorem depth_mem : ∀ {ds : List D} {d : D}, d ∈ ds → d.py.depth ≤ PyData.depthAll (pyAll ds)
  | x :: xs, d, h => by
    rw [pyAll, PyData.depthAll]
    rcases List.mem_cons.mp h with e | e
    · subst e; exact Nat.le_max_left _ _
    · exact Nat.le_trans (depth_mem e) (Nat.le_max_right _ _)
theorem sortOk_of {xs : List D} (h : F.sortOk xs = true) : plAll xs = true ∧ PySem.W.AllAlike (xs.map D.py) ∧ PySem.W.Sortable (xs.map D.py) ∧ PyData.depthAll (pyAll xs) ≤ 150 := by
  unfold F.sortOk at h
  rw [Bool.and_eq_true, Bool.and_eq_true, Bool.and_eq_true, decide_eq_true_eq, Bool.or_eq_true] at h
  obtain ⟨⟨⟨h1, h2⟩, h3⟩, h4⟩ := h
  refine ⟨h1, fun d hd d' hd' => ?_, ?_, h4⟩
  · obtain ⟨b, k1, rfl⟩ := List.mem_map.mp hd
    obtain ⟨b', k2, rfl⟩ := List.mem_map.mp hd'
    exact alikeD_ok h2 k1 k2
  · rcases h3 with h3 | h3
    · rw [List.all_eq_true] at h3
      refine .inl fun d hd => ?_
      obtain ⟨b, k1, rfl⟩ := List.mem_map.mp hd
      have := h3 b k1
      split at this
      · rename_i _ x r
        exact ⟨x.py, pyAll r, by rw [D.py, pyAll]⟩
      · cases this
    · rw [List.all_eq_true] at h3
      refine .inr fun d hd => ?_
      obtain ⟨b, k1, rfl⟩ := List.mem_map.mp hd
      have hb := h3 b k1
      have hp := plAll_mem h1 k1
      cases b with
      | non => cases hb
      | tup _ => cases hb
      | dct _ _ => rw [D.pl] at hp; cases hp
      | ref _ => rw [D.pl] at hp; cases hp
      | adr _ => rw [D.pl] at hp; cases hp
      | ty _ => rw [D.pl] at hp; cases hp
      | scr _ => rw [D.pl] at hp; cases hp
      | bl _ => exact ⟨fun z => by simp [D.py] at z, fun _ z => by simp [D.py] at z⟩
      | int _ => exact ⟨fun z => by simp [D.py] at z, fun _ z => by simp [D.py] at z⟩
      | str _ => exact ⟨fun z => by simp [D.py] at z, fun _ z => by simp [D.py] at z⟩
      | lst _ => exact ⟨fun z => by simp [D.py] at z, fun _ z => by simp [D.py] at z⟩
theorem calls_sorted (hu : X.A.units + 200 < cLine) : CallS X W (.builtin "sorted") F.sorted := by
  intro pins s σ H φ μ xs us ds Q I rv hm rs o
  unfold F.sorted at o
  split at o
  · split at o
    · rename_i ys hy
      split at o
      · rename_i h
        obtain ⟨h1, h2, h3, h4⟩ := sortOk_of h
        obtain ⟨v, u, rfl, rfl, r1, hv⟩ := one_val rv rs
        obtain ⟨a, vs, rfl, q, rs'⟩ := seeQ_rep hm hv hy
        cases r1
        obtain ⟨its, rv', hl, hz⟩ := I.list q
        refine PySem.W.sorted_data (enc := D.py) hl.isList (each_of rv' rs') (each_reads I h1 rv' rs') h2 h3 (by rw [← rs'.length]; exact hz) (fun b hb => by have := depth_mem hb; omega) fun out ho eo => ?_
        obtain ⟨ws, w1, w2⟩ := of_each eo
        obtain ⟨ep, he'⟩ := PyProof.Rows.sortedAll_at s.heap its out.toArray
        have hlen : ws.length ≤ sizeLine := by rw [w1.length, ho, ← rs'.length]; exact hz
        exact ⟨.ref _, upd H (s.heap.objs.size + 1) (.lst ws), I.laid (t' := s.toks) (fun _ _ => PyProof.Rows.sortedAll_old) (Nat.le_succ _) ⟨hlen, out, ep, w1, he'⟩, rfl, new_lst (pins := pins) hm w2 o _ (I.hok.fresh (Nat.le_succ _))⟩
      · exact o.elim
    · exact o.elim
  · exact o.elim
theorem calls_repr (hG : X.A.guards = some []) (hu : X.A.units + 200 < cLine) : CallS X W (.builtin "repr") F.repr := by
  intro pins s σ H φ μ xs us ds Q I rv hm rs o
  have key : ∀ {v : V} {u : Value} {a : Addr} {d' : D} {as : List Addr}, us = [u] → u = .ref a → Reads s.heap u d'.py as → d'.py.hasDict = false → d'.py.showable = true → d'.py.shown.length ≤ 16777216 → d'.py.depth ≤ 150 → OutG X.K W σ φ H (GV X.K Q) (.ok (.str d'.py.shown) μ) →
      wpAny (model X.prog X.w) X.A (call (.builtin "repr") us) (EP X pins σ Q) X.xe s := fun {v u a d' as} e1 e2 r hd hs hz hdp o => by
    subst e1 e2
    exact PySem.repr_of_reads' r hs (fun z => by rw [hd] at z; cases z) hG (by omega) (fun _ _ q => q) (fun h' t tk hk => ⟨.str _, H, I.kept hk, ⟨t, rfl⟩, o φ H Ext.refl hm _ rep_of_str⟩) (by rw [sizeLine_eq]; exact hz)
  unfold F.repr at o
  split at o
  · rename_i d
    split at o
    · rename_i e hy
      split at o
      · rename_i h
        rw [Bool.and_eq_true, Bool.and_eq_true, decide_eq_true_eq, decide_eq_true_eq] at h
        obtain ⟨⟨h1, h2⟩, h3⟩ := h
        obtain ⟨v, u, rfl, rfl, r1, hv⟩ := one_val rv rs
        obtain ⟨as, ra⟩ := view_reads I hm hv r1 hy
        have sz : sizeLine = 16777216 := sizeLine_eq
        cases e with
        | tup xs =>
          have hf : ∃ a, u = .ref a := by
            rw [D.py] at ra
            cases ra
            exact ⟨_, rfl⟩
          obtain ⟨a, ea⟩ := hf
          exact key (v := v) rfl ea ra (plain_noDict _) h1 h2 h3 o
        | lst xs =>
          have hf : ∃ a, u = .ref a := by
            rw [D.py] at ra
            cases ra
            exact ⟨_, rfl⟩
          obtain ⟨a, ea⟩ := hf
          exact key (v := v) rfl ea ra (plain_noDict _) h1 h2 h3 o
        | int i =>
          have hf : ∃ t, u = .int i t := by
            rw [D.py] at ra
            cases ra
            exact ⟨_, rfl⟩
          obtain ⟨t, ea⟩ := hf
          subst ea
          exact PySem.P.repr_of_int (by simpa [D.py, PyData.showable] using h1) ⟨.str _, H, I.tok _, ⟨_, rfl⟩, o φ H Ext.refl hm _ rep_of_str⟩
        | str x =>
          have hf : ∃ t, u = .str x t := by
            rw [D.py] at ra
            cases ra
            exact ⟨_, rfl⟩
          obtain ⟨t, ea⟩ := hf
          subst ea
          exact PySem.P.repr_of_str ⟨.str _, H, I.tok _, ⟨_, rfl⟩, o φ H Ext.refl hm _ rep_of_str⟩ (by rw [sz]; exact h2)
        | bl b =>
          have hf : u = .bool b := by
            rw [D.py] at ra
            cases ra
            rfl
          subst hf
          exact PySem.P.repr_of_bool ⟨.str _, H, I.tok _, ⟨_, rfl⟩, o φ H Ext.refl hm _ rep_of_str⟩
        | non =>
          have hf : u = .none := by
            rw [D.py] at ra
            cases ra
            rfl
          subst hf
          exact PySem.P.repr_of_none ⟨.str _, H, I.tok _, ⟨_, rfl⟩, o φ H Ext.refl hm _ rep_of_str⟩
        | _ => exact absurd (view_pl hy) (by rw [D.pl]; exact Bool.false_ne_true)
      · exact o.elim
    · exact o.elim
  · exact o.elim
end
end Dp

namespace Dp
open PySem PySem.Spec PyProof.Rows L2

/-! ### dicts by keys -/
def keyOf : D → Option Key
  | .int i => some (.inl i)
  | .str x => some (.inr x)
  | _ => none
def dGet : List Key → List D → Key → Option D
  | k' :: ks, x :: xs, k => if k' = k then some x else dGet ks xs k
  | _, _, _ => none
def dSet : List Key → List D → Key → D → List D
  | k' :: ks, x :: xs, k, d => (if k' = k then d else x) :: dSet ks xs k d
  | _, _, _, _ => []
def dPutK (ks : List Key) (xs : List D) (k : Key) : List Key := if (dGet ks xs k).isSome then ks else ks ++ [k]
def dPutX (ks : List Key) (xs : List D) (k : Key) (d : D) : List D := if (dGet ks xs k).isSome then dSet ks xs k d else xs ++ [d]
theorem keyOf_rep {K : PySem.W.Frag} {φ : Pl} {H : Hp} {v : V} {d : D} {k : Key} (r : Rep K φ H v d) (e : keyOf d = some k) : v = kV k := by
  cases d with
  | int i => cases e; rw [rep_int r]; rfl
  | str i => cases e; rw [rep_str r]; rfl
  | _ => cases e
theorem dGet_rep {K : PySem.W.Frag} {φ : Pl} {H : Hp} {k : Key} : ∀ {ks : List Key} {xs : List D} {vs : List V}, RepAll K φ H vs xs → (match dGet ks xs k with
    | some d => ∃ v, valV (ks.zip vs) k = some v ∧ Rep K φ H v d
    | none => valV (ks.zip vs) k = none)
  | [], xs, vs, r => by simp [dGet, valV]
  | k' :: ks, [], vs, r => by unfold RepAll at r; subst r; simp [dGet, valV]
  | k' :: ks, x :: xs, vs, r => by
    unfold RepAll at r
    obtain ⟨v, q, rfl, h1, h2⟩ := r
    unfold dGet
    rw [List.zip_cons_cons]
    by_cases h : k' = k
    · rw [if_pos h, valV_pos (show (k', v).1 = k from h)]
      exact ⟨v, rfl, h1⟩
    · rw [if_neg h, valV_neg (show ¬ (k', v).1 = k from h)]
      exact dGet_rep h2
theorem dGet_isSome {K : PySem.W.Frag} {φ : Pl} {H : Hp} {k : Key} {ks : List Key} {xs : List D} {vs : List V} (r : RepAll K φ H vs xs) : (dGet ks xs k).isSome = (valV (ks.zip vs) k).isSome := by
  have := dGet_rep (ks := ks) (k := k) r
  cases h : dGet ks xs k with
  | none => rw [h] at this; rw [this]; rfl
  | some d => rw [h] at this; obtain ⟨v, e, _⟩ := this; rw [e]; rfl
theorem dSet_rep {K : PySem.W.Frag} {φ : Pl} {H : Hp} {k : Key} {v : V} {d : D} (h : Rep K φ H v d) : ∀ {ks : List Key} {xs : List D} {vs : List V}, ks.length = xs.length → RepAll K φ H vs xs → ∃ ws, ((ks.zip vs).map fun kv => if kv.1 = k then (kv.1, v) else kv) = ks.zip ws ∧ RepAll K φ H ws (dSet ks xs k d)
  | [], [], vs, _, r => ⟨[], rfl, RepAll.nil_⟩
  | k' :: ks, x :: xs, vs, hl, r => by
    unfold RepAll at r
    obtain ⟨w, q, rfl, h1, h2⟩ := r
    obtain ⟨ws, e, rs⟩ := dSet_rep h (ks := ks) (k := k) (by simpa using hl) h2
    unfold dSet
    by_cases hk : k' = k
    · refine ⟨v :: ws, ?_, ?_⟩
      · rw [List.zip_cons_cons, List.map_cons, List.zip_cons_cons, e, if_pos (show (k', w).1 = k from hk)]
      · rw [if_pos hk]; exact RepAll.cons_ h rs
    · refine ⟨w :: ws, ?_, ?_⟩
      · rw [List.zip_cons_cons, List.map_cons, List.zip_cons_cons, e, if_neg (show ¬ (k', w).1 = k from hk)]
      · rw [if_neg hk]; exact RepAll.cons_ h1 rs
theorem dSet_len : ∀ (ks : List Key) (xs : List D) (k : Key) (d : D), ks.length = xs.length → (dSet ks xs k d).length = xs.length
  | [], [], _, _, _ => rfl
  | k' :: ks, x :: xs, k, d, h => by unfold dSet; rw [List.length_cons, dSet_len ks xs k d (by simpa using h), List.length_cons]
theorem dPut_len {ks : List Key} {xs : List D} {k : Key} {d : D} (h : ks.length = xs.length) : (dPutK ks xs k).length = (dPutX ks xs k d).length := by
  unfold dPutK dPutX
  split
  · rw [dSet_len _ _ _ _ h, h]
  · rw [List.length_append, List.length_append, h]; rfl
theorem dPut_rep {K : PySem.W.Frag} {φ : Pl} {H : Hp} {k : Key} {v : V} {d : D} {ks : List Key} {xs : List D} {vs : List V} (hl : ks.length = xs.length) (r : RepAll K φ H vs xs) (h : Rep K φ H v d) : ∃ ws, putK (ks.zip vs) k v = (dPutK ks xs k).zip ws ∧ RepAll K φ H ws (dPutX ks xs k d) := by
  have e := dGet_isSome (ks := ks) (k := k) r
  unfold dPutK dPutX
  by_cases hs : (dGet ks xs k).isSome = true
  · rw [if_pos hs, if_pos hs]
    obtain ⟨ws, e1, r1⟩ := dSet_rep h (ks := ks) (k := k) hl r
    refine ⟨ws, ?_, r1⟩
    unfold putK
    rw [if_pos (by rw [valV_any, ← e]; exact hs), e1]
  · rw [if_neg hs, if_neg hs]
    refine ⟨vs ++ [v], ?_, RepAll.append r (RepAll.cons_ h RepAll.nil_)⟩
    rw [putK_new v (by rw [← Option.not_isSome_iff_eq_none, ← e]; exact hs), List.zip_append (by rw [hl, r.length])]
    rfl

section
variable {X : Cx}
theorem new_frz {pins : List (Addr × Obj)} {σ : L2.St} {H : Hp} {s : Shared} {Q : VK} {ob : Obj} {us : List Value} {xs : List V} (I : Inv X pins σ H s) (e : ob = { cls := .type "tuple", data := .seq us.toArray }) (z : xs.length ≤ sizeLine) (r : Vals xs us)
    (q : ∀ p o, H p = none → o.dict = none → Q (.ref p) (upd H p (.frz o (.tup xs)))) : EP X pins σ Q (.ref s.heap.objs.size) { s with heap := s.heap.push ob } := by
  subst e
  refine ⟨.ref s.heap.objs.size, _, I.laid (t' := s.toks) (o := .frz { cls := .type "tuple", data := .seq us.toArray } (.tup xs)) (fun b ob q => Heap.get?_push_of_some _ q) (Nat.le_refl _) ?_, rfl, q _ _ (I.hok.fresh (Nat.le_refl _)) rfl⟩
  exact ⟨Heap.get?_push_size _ rfl, z, us, r, IsTup.new _ _⟩
/-- t[lo:hi]: the whole of it is t itself; else a tuple told to the letter -/
theorem sl_tupF : SlR X (fun x lo hi H Q => ∃ a xs, x = .ref a ∧ SqT X.K H a xs ∧
    (HT.sIx xs.length 0 lo = 0 ∧ HT.sIx xs.length xs.length hi = xs.length → Q (.ref a) H) ∧ (∀ p o, H p = none → o.dict = none → Q (.ref p) (upd H p (.frz o (.tup (cutV xs lo hi)))))) := by
  intro pins s σ H x v vl vu lo hi sl Q I rx hs pl pu h
  obtain ⟨a, xs, rfl, hx, q1, q2⟩ := h
  cases rx
  obtain ⟨its, r, ht, hz⟩ := I.tuple hx
  have hlen : its.toArray.size = xs.length := by rw [List.size_toArray]; exact r.length.symm
  refine ⟨"tuple", _, PyProof.Rows.slot_tuple_getitem.lookup, ht.typeIs, ?_⟩
  by_cases hw : HT.sIx xs.length 0 lo = 0 ∧ HT.sIx xs.length xs.length hi = xs.length
  · exact getItem_tuple_whole ht hs pl pu (by rw [hlen]; exact hw) ⟨.ref a, H, I, rfl, q1 hw⟩
  · refine HT.getItem_tuple_cut ht hs pl pu (by rw [hlen]; exact hw) ?_ (by rw [hlen]; exact hz)
    rw [hlen]
    exact new_frz I rfl (Nat.le_trans (cutV_length xs lo hi) hz) ((r.drop (HT.sIx xs.length 0 lo)).take (HT.sIx xs.length xs.length hi - HT.sIx xs.length 0 lo)) q2
end
/-! ### items, parts, membership -/
def cutD (xs : List D) (lo hi : Option Int) : List D := (xs.drop (HT.sIx xs.length 0 lo)).take (HT.sIx xs.length xs.length hi - HT.sIx xs.length 0 lo)
/-- a dict's entries -/
def seeD (μ : Mem) : D → Option (List Key × List D)
  | .dct ks xs => some (ks, xs)
  | .ref i => (match μ[i]? with
    | some (.dct ks xs) => some (ks, xs)
    | _ => none)
  | _ => none
theorem seeD_rep {K : PySem.W.Frag} {φ : Pl} {H : Hp} {μ : Mem} {v : V} {d : D} {ks : List Key} {xs : List D} (hm : Rel K φ H μ) (r : Rep K φ H v d) (e : seeD μ d = some (ks, xs)) : ∃ a vs, v = .ref a ∧ Rd H a (.dK (ks.zip vs)) ∧ ks.length = xs.length ∧ RepAll K φ H vs xs := by
  unfold seeD at e
  split at e
  · cases e
    unfold Rep at r
    obtain ⟨p, vs, rfl, q, rs⟩ := r
    exact ⟨p, vs, rfl, .inr q.1, q.2, rs⟩
  · split at e
    · rename_i i ks' xs' hx
      cases e
      unfold Rep at r
      obtain ⟨a, rfl, q⟩ := r
      obtain ⟨vs, h1, h2, rs⟩ := hm.obj _ a _ q hx
      exact ⟨a, vs, rfl, .inl h1, h2, rs⟩
    · cases e
  · cases e
def ok? {α : Type} (r : Option α) (μ : Mem) : Res α := match r with
  | some a => .ok a μ
  | none => .bad
namespace Op
def itemL (xs : List D) (i : D) (μ : Mem) : Res D := match i with
  | .int j => ok? (atI xs j) μ
  | _ => .bad
def itemS (z : Str) (i : D) (μ : Mem) : Res D := match i with
  | .int j => if z.length ≤ 16777216 then ok? ((atI z.cps.toList j).map fun c => .str ⟨#[c]⟩) μ else .bad
  | _ => .bad
def itemG (o i : D) (μ : Mem) : Res D := match seeQ μ o with
  | some xs => itemL xs i μ
  | none => match seeD μ o, keyOf i with
    | some (ks, xs), some k => ok? (dGet ks xs k) μ
    | _, _ => .bad
def item (o i : D) (μ : Mem) : Res D := match o with
  | .str z => itemS z i μ
  | .tup xs => itemL xs i μ
  | o => itemG o i μ
def slice (o : D) (lo hi : Option Int) (μ : Mem) : Res D := match o with
  | .str z => if z.length ≤ 16777216 then .ok (.str (cutS z lo hi)) μ else .bad
  | .tup xs => .ok (.tup (cutD xs lo hi)) μ
  | o => (match seeQ μ o with
    | some xs => .ok (.lst (cutD xs lo hi)) μ
    | none => .bad)
def mem (x y : D) (μ : Mem) : Option Bool := match y with
  | .tup ys => (match view μ x with
    | some a => if plAll ys = true ∧ min (PyData.depthAll (pyAll ys)) a.py.depth ≤ 150 then some ((pyAll ys).any fun z => PyData.eqv z a.py) else none
    | none => none)
  | .str z => (match x with
    | .str y => some (!(Builtin.Str.occurrences z y 0 z.length 1).isEmpty)
    | _ => none)
  | y => (match seeQ μ y with
    | some ys => (match view μ x with
      | some a => if plAll ys = true ∧ min (PyData.depthAll (pyAll ys)) a.py.depth ≤ 150 then some ((pyAll ys).any fun z => PyData.eqv z a.py) else none
      | none => none)
    | none => (match seeD μ y, keyOf x with
      | some (ks, xs), some k => some (dGet ks xs k).isSome
      | _, _ => none))
def isin (x y : D) (μ : Mem) : Res D := match mem x y μ with
  | some b => .ok (.bl b) μ
  | none => .bad
def notin (x y : D) (μ : Mem) : Res D := match mem x y μ with
  | some b => .ok (.bl (!b)) μ
  | none => .bad
/-- o[i] = d -/
def set (o i d : D) (μ : Mem) : Option Mem := match o with
  | .ref n => (match μ[n]? with
    | some (.lst xs) => (match i with
      | .int k => (match ixN xs.length k with
        | some j => some (μ.set n (.lst (xs.set j d)))
        | none => none)
      | _ => none)
    | some (.dct ks xs) => (match keyOf i with
      | some k => if ks.length < 16777216 then some (μ.set n (.dct (dPutK ks xs k) (dPutX ks xs k d))) else none
      | none => none)
    | _ => none)
  | _ => none
end Op
section
variable {K : PySem.W.Frag} {φ : Pl} {H : Hp} {μ : Mem}
theorem atI_rep {vs : List V} {xs : List D} {j : Int} {d : D} (r : RepAll K φ H vs xs) (e : atI xs j = some d) : ∃ v, atI vs j = some v ∧ Rep K φ H v d := by
  unfold atI at e ⊢
  rw [r.length]
  cases h : ixN xs.length j with
  | none => rw [h] at e; cases e
  | some k =>
    rw [h] at e
    exact r.get e
theorem cut_rep {vs : List V} {xs : List D} (r : RepAll K φ H vs xs) (lo hi : Option Int) : RepAll K φ H (cutV vs lo hi) (cutD xs lo hi) := by
  unfold cutV cutD
  rw [r.length]
  exact RepAll.take _ (RepAll.drop _ r)
theorem mem_write {i : Nat} {a : Addr} {o : HO} {m : MO} (hm : Rel K φ H μ) (hi : φ.pl[i]? = some a) (hn : ∀ xs, H a ≠ some (.tup xs)) (hf : ∀ o u, H a ≠ some (.frz o u)) (k : Ext φ H φ (upd H a o) → ObjRep K φ (upd H a o) a m) : Ext φ H φ (upd H a o) ∧ Rel K φ (upd H a o) (μ.set i m) := by
  have e := Ext.write hm hi (o := o) hn hf
  exact ⟨e, hm.write hi e (k e)⟩
end
section
variable {X : Cx} {W : WX} {a b : Expr} {ma mb : EE} {pos : Pos}
/-- a[b] -/
theorem se_item (hu : X.A.units + 200 < cLine) (ha : PE X a (lift X.K W ma)) (hb : PE X b (lift X.K W mb)) (hs : PlainIx b := by exact fun _ _ => rfl) : PE X (.Subscript a b pos) (lift X.K W (E.op2 Op.item ma mb)) := by
  refine ⟨fun pins s σ H Q I ⟨φ, ρ, μ, hl, hm, o⟩ => Subscript_ (use2 ha hb I hl hm o fun v u s2 x y H2 φ2 μ2 dx dy I2 rx ry e2 m2 px py o2 => ?_)⟩
  have gen : OutG X.K W σ φ2 H2 (GV X.K Q) (Op.itemG dx dy μ2) → wpAny (model X.prog X.w) X.A (subscriptTail a b v u) (EP X pins σ Q) X.xe s2 := fun o3 => by
    clear o2
    have o2 := o3
    clear o3
    unfold Op.itemG at o2
    split at o2
    · rename_i xs hx
      obtain ⟨p, vs, ex, q, rs⟩ := seeQ_rep m2 px hx
      unfold Op.itemL at o2
      split at o2
      · rename_i j
        cases h : atI xs j with
        | none => rw [h] at o2; exact o2.elim
        | some d =>
          rw [h] at o2
          obtain ⟨w, hw, rw'⟩ := atI_rep rs h
          exact ix_list a b pins s2 σ H2 x y v u Q I2 rx ry ⟨p, vs, j, w, ex, rep_int py, q, hw, o2 φ2 H2 Ext.refl m2 _ rw'⟩ (hs _ _)
      · exact o2.elim
    · split at o2
      · rename_i ks xs k hx hk
        obtain ⟨p, vs, ex, q, hlen, rs⟩ := seeD_rep m2 px hx
        have ek := keyOf_rep py hk
        have g := dGet_rep (ks := ks) (k := k) rs
        cases h : dGet ks xs k with
        | none => rw [h] at o2; exact o2.elim
        | some d =>
          rw [h] at o2 g
          obtain ⟨w, hw, rw'⟩ := g
          subst ex ek
          cases (show v = Value.ref p from rx)
          have dg : DGet H2 p (kV k) (some w) := .inl ⟨_, k, q, rfl, hw.symm⟩
          have hT := dict_typeIs I2 dg
          have hin : wpAny (model X.prog X.w) X.A (getItem (.ref p) u) (EP X pins σ Q) X.xe s2 := d_getItem (by omega) I2 dg ry fun w' s' I' rw2 => ⟨w, H2, I', rw2, o2 φ2 H2 Ext.refl m2 _ rw'⟩
          exact tail_any hT F.slot_dict_getitem.lookup hin (hs _ _)
      · exact o2.elim
  cases dx with
  | str z =>
    have o3 : OutG X.K W σ φ2 H2 (GV X.K Q) (Op.itemS z dy μ2) := o2
    clear gen o2
    unfold Op.itemS at o3
    split at o3
    · rename_i j
      split at o3
      · rename_i hz
        cases hc : atI z.cps.toList j with
        | none => rw [hc] at o3; exact o3.elim
        | some c =>
          rw [hc] at o3
          exact ix_str a b pins s2 σ H2 x y v u Q I2 rx ry ⟨z, j, c, rep_str px, rep_int py, by rw [sizeLine_eq]; exact hz, hc, o3 φ2 H2 Ext.refl m2 _ rep_of_str⟩ (hs _ _)
      · exact o3.elim
    · exact o3.elim
  | tup xs =>
    have o3 : OutG X.K W σ φ2 H2 (GV X.K Q) (Op.itemL xs dy μ2) := o2
    clear gen o2
    obtain ⟨p, vs, rfl, q, rs⟩ := rep_tup' px
    unfold Op.itemL at o3
    split at o3
    · rename_i j
      cases h : atI xs j with
      | none => rw [h] at o3; exact o3.elim
      | some d =>
        rw [h] at o3
        obtain ⟨w, hw, rw'⟩ := atI_rep rs h
        exact ix_tup a b pins s2 σ H2 _ y v u Q I2 rx ry ⟨p, vs, j, w, rfl, rep_int py, q, hw, o3 φ2 H2 Ext.refl m2 _ rw'⟩ (hs _ _)
    · exact o3.elim
  | _ => exact gen o2
def Part := Dp.Loc → Mem → Res (Option Int)
namespace Prt
def no : Part := fun _ μ => .ok none μ
def of (m : EE) : Part := fun ρ μ => (m ρ μ).bind fun d μ => match d with
  | .int i => .ok (some i) μ
  | _ => .bad
end Prt
def E.slice (a : EE) (lo hi : Part) : EE := fun ρ μ => (a ρ μ).bind fun x μ => (lo ρ μ).bind fun l μ => (hi ρ μ).bind fun h μ => Op.slice x l h μ
def liftO (K : PySem.W.Frag) (W : WX) (m : Part) : TO := fun σ H Q => ∃ φ ρ μ, RepL K φ H σ ρ ∧ Rel K φ H μ ∧ OutG K W σ φ H (fun o _ _ H' => Q o H') (m ρ μ)
theorem so_none : PO X none (liftO X.K W Prt.no) := ⟨fun pins s σ H Q I ⟨φ, ρ, μ, hl, hm, o⟩ => po_none.run pins s σ H Q I (o φ H Ext.refl hm)⟩
theorem so_some {e : Expr} {m : EE} (h : PE X e (lift X.K W m)) : PO X (some e) (liftO X.K W (Prt.of m)) := ⟨fun pins s σ H Q I ⟨φ, ρ, μ, hl, hm, o⟩ => (po_some h).run pins s σ H Q I ⟨φ, ρ, μ, hl, hm, (OutG.bind o).imp fun d μ1 φ1 H1 e1 m1 o1 v rv => by
  cases d with
  | int i => exact ⟨i, rep_int rv, o1 φ1 H1 Ext.refl m1⟩
  | _ => exact o1.elim⟩⟩
theorem useO {oe : Option Expr} {m : Part} {pins : List (Addr × Obj)} {σ : L2.St} {H : Hp} {s : Shared} {φ : Pl} {μ : Mem} {ρ : Dp.Loc} {G : Option Int → Mem → Pl → Hp → Prop} {P : Value → Shared → Prop} (h : PO X oe (liftO X.K W m)) (I : Inv X pins σ H s) (hl : RepL X.K φ H σ ρ) (hm : Rel X.K φ H μ)
    (o : OutG X.K W σ φ H G (m ρ μ)) (k : ∀ u s' H' d μ' φ', Inv X pins σ H' s' → IsPart u d → Ext φ H φ' H' → Rel X.K φ' H' μ' → G d μ' φ' H' → P u s') : wpAny (model X.prog X.w) X.A (evalPart oe X.env) P X.xe s := by
  refine thn (h.run pins s σ H (fun d H' => ∃ μ' φ', Ext φ H φ' H' ∧ Rel X.K φ' H' μ' ∧ G d μ' φ' H') I ⟨φ, ρ, μ, hl, hm, o.imp fun a μ' φ' H' e r g => ⟨μ', φ', e, r, g⟩⟩) ?_
  rintro u s' ⟨d, H', I', pu, μ', φ', e, r, g⟩
  exact k u s' H' d μ' φ' I' pu e r g
/-- a[lo:hi] -/
theorem se_slice {lo hi : Option Expr} {ml mh : Part} {p2 : Pos} (ha : PE X a (lift X.K W ma)) (hl' : PO X lo (liftO X.K W ml)) (hu : PO X hi (liftO X.K W mh)) : PE X (.Subscript a (.Slice lo hi none p2) pos) (lift X.K W (E.slice ma ml mh)) := by
  refine ⟨fun pins s σ H Q I ⟨φ, ρ, μ, hl, hm, o⟩ => Subscript_ (use ha I hl hm (OutG.bind o) fun v s1 x H1 dx μ1 φ1 I1 rx e1 m1 px o1 => ?_)⟩
  refine wpAny_Slice (useO hl' I1 (hl.ext e1) m1 (OutG.bind o1) fun vl s2 H2 l μ2 φ2 I2 pl e2 m2 o2 => useO hu I2 (hl.ext (e1.trans e2)) m2 (OutG.bind o2) fun vu s3 H3 u μ3 φ3 I3 pu e3 m3 o3 => ?_)
  rw [evalPart_none]
  refine wpAny_pure ?_
  have I4 : Inv X pins σ H3 { s3 with heap := s3.heap.push { cls := .type "slice", data := .fields #[vl, vu, .none] } } := I3.kept (t' := s3.toks) fun b ob q => Heap.get?_push_of_some _ q
  have px3 := px.ext (e2.trans e3)
  have go : ∀ (r : V → Option Int → Option Int → Hp → VK → Prop), SlR X r → r x l u H3 Q → wpAny (model X.prog X.w) X.A (subscriptTail a (.Slice lo hi none p2) v (.ref s3.heap.objs.size)) (EP X pins σ Q) X.xe { s3 with heap := s3.heap.push { cls := .type "slice", data := .fields #[vl, vu, .none] } } := fun r hr q => by
    obtain ⟨T, id, hT, ht, hg⟩ := hr pins { s3 with heap := s3.heap.push { cls := .type "slice", data := .fields #[vl, vu, .none] } } σ H3 x v vl vu l u s3.heap.objs.size Q I4 rx (Heap.IsSliceOf.new ..) pl pu q
    exact tail_any (ops := [.ref s3.heap.objs.size, v]) ht hT hg (by with_unfolding_all rfl)
  unfold Op.slice at o3
  split at o3
  · rename_i z
    split at o3
    · rename_i hz
      exact go _ sl_str ⟨z, rep_str px3, by rw [sizeLine_eq]; exact hz, o3 φ3 H3 Ext.refl m3 _ rep_of_str⟩
    · exact o3.elim
  · rename_i xs
    obtain ⟨p, vs, ex, q, rs, xq⟩ := rep_tupX px3
    refine go _ sl_tupF ⟨p, vs, ex, q, fun hw => ?_, new_tupF (pins := pins) m3 (cut_rep rs l u) o3⟩
    have e : cutD xs l u = xs := by
      unfold cutD
      rw [rs.length] at hw
      rw [hw.1, hw.2]
      simp
    refine o3 φ3 H3 Ext.refl m3 _ (rep_tup q (by rw [e]; exact rs) (by rw [e]; exact xq))
  · split at o3
    · rename_i xs hx
      obtain ⟨p, vs, ex, q, rs⟩ := seeQ_rep m3 px3 hx
      exact go _ sl_list ⟨p, vs, ex, q, new_lst (pins := pins) m3 (cut_rep rs l u) o3⟩
    · exact o3.elim
theorem mem_run (hu : X.A.units + 200 < cLine) {f : Value → Value → Sem Value} {gb : Bool → Bool}
    (hT : ∀ (s : Shared) (c x : Value) (xs : List PyData) (d : PyData) (as bs : List Addr) (Q : Value → Shared → Prop), Reads s.heap c (.tuple xs) as → Reads s.heap x d bs → PyData.plainAll xs = true → d.plain = true → X.A.units + 1 + min (PyData.depthAll xs) d.depth < cLine → Q (.bool (gb (xs.any fun y => PyData.eqv y d))) s → wpAny (model X.prog X.w) X.A (f x c) Q X.xe s)
    (hL : ∀ (s : Shared) (c x : Value) (xs : List PyData) (d : PyData) (as bs : List Addr) (Q : Value → Shared → Prop), Reads s.heap c (.list xs) as → Reads s.heap x d bs → PyData.plainAll xs = true → d.plain = true → X.A.units + 1 + min (PyData.depthAll xs) d.depth < cLine → Q (.bool (gb (xs.any fun y => PyData.eqv y d))) s → wpAny (model X.prog X.w) X.A (f x c) Q X.xe s)
    (hS : OpR X f (fun x y H Q => ∃ i j, x = .str i ∧ y = .str j ∧ Q (.bl (gb (!(Builtin.Str.occurrences j i 0 j.length 1).isEmpty))) H))
    (hD : ∀ (pins : List (Addr × Obj)) (σ : L2.St) (H : Hp) (s : Shared) (a : Addr) (y : V) (u : Value) (o : Option V) (Q : Value → Shared → Prop), Inv X pins σ H s → DGet H a y o → RelV y u → (∀ s', Inv X pins σ H s' → Q (.bool (gb o.isSome)) s') → wpAny (model X.prog X.w) X.A (f u (.ref a)) Q X.xe s) :
    OpS X W f (fun x y μ => match Op.mem x y μ with
      | some b => .ok (.bl (gb b)) μ
      | none => .bad) := by
  intro pins s σ H φ μ x y v u dx dy Q I rx ry hm px py o
  dsimp only at o
  split at o
  rotate_left
  · exact o.elim
  rename_i bb hb
  have fin : ∀ {b : Bool} {s' : Shared}, b = bb → Inv X pins σ H s' → EP X pins σ Q (.bool (gb b)) s' := fun {b s'} e I' => by
    subst e; exact ⟨.bl (gb b), H, I', rfl, o φ H Ext.refl hm _ rep_of_bl⟩
  have lis : ∀ {p : Addr} {vs : List V} {ys : List D}, y = .ref p → SqL X.K H p vs → RepAll X.K φ H vs ys → (match view μ dx with
    | some a => if plAll ys = true ∧ min (PyData.depthAll (pyAll ys)) a.py.depth ≤ 150 then some ((pyAll ys).any fun z => PyData.eqv z a.py) else none
    | none => none) = some bb → wpAny (model X.prog X.w) X.A (f v u) (EP X pins σ Q) X.xe s := fun {p vs ys} ey q rs hb => by
    split at hb
    · rename_i a ha
      split at hb
      · rename_i h
        cases hb
        subst ey
        obtain ⟨as, r1⟩ := view_reads I hm px rx ha
        obtain ⟨bs, r2⟩ := list_reads I q rs h.1 ry
        rw [D.py] at r2
        exact hL _ _ _ _ _ _ _ _ r2 r1 (plainAll_py _) (plain_py _) (by omega) (fin rfl I)
      · cases hb
    · cases hb
  unfold Op.mem at hb
  split at hb
  · rename_i ys
    split at hb
    · rename_i a ha
      split at hb
      · rename_i h
        cases hb
        obtain ⟨as, r1⟩ := view_reads I hm px rx ha
        obtain ⟨bs, r2⟩ := rep_reads I (.tup ys) (by rw [D.pl]; exact h.1) py ry
        rw [D.py] at r2
        exact hT _ _ _ _ _ _ _ _ r2 r1 (plainAll_py _) (plain_py _) (by omega) (fin rfl I)
      · cases hb
    · cases hb
  · split at hb
    · cases hb
      exact hS pins s σ H x y v u Q I rx ry ⟨_, _, rep_str px, rep_str py, o φ H Ext.refl hm _ rep_of_bl⟩
    · cases hb
  · split at hb
    · rename_i ys hy
      obtain ⟨p, vs, ey, q, rs⟩ := seeQ_rep hm py hy
      exact lis ey q rs hb
    · split at hb
      · rename_i ks xs k hd hk
        cases hb
        obtain ⟨p, vs, ey, q, hlen, rs⟩ := seeD_rep hm py hd
        have ek := keyOf_rep px hk
        subst ey ek
        cases (show u = Value.ref p from ry)
        exact hD pins σ H s p _ v _ _ I (.inl ⟨_, k, q, rfl, rfl⟩) rx fun s' I' => fin (dGet_isSome rs).symm I'
      · cases hb
theorem ops_in (hu : X.A.units + 200 < cLine) : OpS X W (compareOp .In) Op.isin :=
  mem_run (gb := fun b => b) hu (fun _ _ _ _ _ _ _ _ r1 r2 h1 h2 h3 q => PySem.SeqAt.in_tuple_data r1 r2 h1 h2 h3 q) (fun _ _ _ _ _ _ _ _ r1 r2 h1 h2 h3 q => PySem.SeqAt.in_list_data r1 r2 h1 h2 h3 q) op_in_str (fun _ _ _ _ _ _ _ _ _ I g r q => d_in (by omega) I g r q)
theorem ops_notin (hu : X.A.units + 200 < cLine) : OpS X W (compareOp .NotIn) Op.notin :=
  mem_run (gb := fun b => !b) hu (fun _ _ _ _ _ _ _ _ r1 r2 h1 h2 h3 q => PySem.SeqAt.notIn_tuple_data r1 r2 h1 h2 h3 q) (fun _ _ _ _ _ _ _ _ r1 r2 h1 h2 h3 q => PySem.SeqAt.notIn_list_data r1 r2 h1 h2 h3 q) op_notin_str (fun _ _ _ _ _ _ _ _ _ I g r q => d_notIn (by omega) I g r q)
/-- o[i] = .. -/
def G.item (mo mi : EE) : EG := fun d ρ μ => match mo ρ μ with
  | .ok o μ => (match mi ρ μ with
    | .ok i μ => (Op.set o i d μ).map fun μ => (ρ, μ)
    | _ => none)
  | _ => none
def rSetA : TSet := fun o i v H Q => rSetL o i v H Q ∨ rSetD o i v H Q
theorem set_any (hu : X.A.units + 200 < cLine) : PSet X rSetA := fun pins s σ H o i v ov iv u Q I ro ri rv h => by
  rcases h with h | h
  · exact set_list pins s σ H o i v ov iv u Q I ro ri rv h
  · exact set_dict (by omega) pins s σ H o i v ov iv u Q I ro ri rv h
theorem pg_itemD {vs : List Nat} (hu : X.A.units + 200 < cLine) (ha : PE X a (lift X.K W0 ma)) (hb : PE X b (lift X.K W0 mb))
    (hs : ∀ v, assign (.Subscript a b pos) X.env v = (do
      let ov ← holding [v] (eval a X.env)
      let iv ← holding [v, ov] (eval b X.env)
      standAt pos
      holding [v, ov, iv] (setItem ov iv v)
      release [v, ov, iv] []) := by intro _; rfl) : PG X (.Subscript a b pos) (liftG X.K vs (G.item ma mb)) :=
  pg_anti (pg_sub ha hb (set_any hu) hs) fun v σ H Q ⟨φ, ρ, μ, d, hl, hm, rv, o⟩ => by
    unfold G.item at o
    refine ⟨φ, ρ, μ, hl, hm, ?_⟩
    cases h1 : ma ρ μ with
    | bad => rw [h1] at o; exact o.elim
    | err x μ' => rw [h1] at o; exact o.elim
    | ok dx μ1 =>
      rw [h1] at o
      intro φ1 H1 e1 m1 x rx
      refine ⟨φ1, ρ, μ1, hl.ext e1, m1, ?_⟩
      dsimp only at o
      cases h2 : mb ρ μ1 with
      | bad => rw [h2] at o; exact o.elim
      | err x μ' => rw [h2] at o; exact o.elim
      | ok dy μ2 =>
        rw [h2] at o
        intro φ2 H2 e2 m2 y ry
        dsimp only at o
        have e12 := e1.trans e2
        have rx2 := rx.ext e2
        have rv2 := rv.ext e12
        unfold Op.set at o
        split at o
        rotate_left
        · exact o.elim
        rename_i n
        unfold Rep at rx2
        obtain ⟨ad, rfl, hn⟩ := rx2
        split at o
        · rename_i xs hx
          obtain ⟨us, h3, rs⟩ := m2.obj n ad _ hn hx
          split at o
          · rename_i k
            split at o
            · rename_i j hj
              obtain ⟨e3, m3⟩ := mem_write (o := .lst (us.set j v)) (m := .lst (xs.set j d)) m2 hn (by rw [h3]; exact fun _ z => nomatch z) (by rw [h3]; exact fun _ _ z => nomatch z) fun e => ⟨_, upd_same, (rs.set rv2 j).ext e⟩
              exact .inl ⟨ad, us, k, j, rfl, rep_int ry, h3, by rw [rs.length]; exact hj, o φ2 _ (e12.trans e3) m3 σ (hl.ext (e12.trans e3)) rfl⟩
            · exact o.elim
          · exact o.elim
        · rename_i ks xs hx
          obtain ⟨us, h3, h4, rs⟩ := m2.obj n ad _ hn hx
          split at o
          · rename_i k hk
            split at o
            · rename_i hz
              obtain ⟨ws, ew, rw'⟩ := dPut_rep (k := k) h4 rs rv2
              obtain ⟨e3, m3⟩ := mem_write (o := .dK (putK (ks.zip us) k v)) (m := .dct (dPutK ks xs k) (dPutX ks xs k d)) m2 hn (by rw [h3]; exact fun _ z => nomatch z) (by rw [h3]; exact fun _ _ z => nomatch z) fun e => ⟨ws, by rw [upd_same, ew], dPut_len h4, rw'.ext e⟩
              refine .inr ⟨ad, _, rfl, .inl ⟨ks.zip us, k, h3, keyOf_rep ry hk, ?_, rfl⟩, o φ2 _ (e12.trans e3) m3 σ (hl.ext (e12.trans e3)) rfl⟩
              rw [List.length_zip, rs.length, h4, Nat.min_self, sizeLine_eq, ← h4]
              exact hz
            · exact o.elim
          · exact o.elim
        · exact o.elim
end
end Dp

namespace Dp
open PySem PySem.Spec PyProof.Rows L2

/-! ### methods -/
def MethS (X : Cx) (W : WX) (id : String) (g : D → List D → Mem → Res D) : Prop :=
  ∀ (pins : List (Addr × Obj)) (s : Shared) (σ : L2.St) (H : Hp) (φ : Pl) (μ : Mem) (x : V) (xs : List V) (v : Value) (us : List Value) (dx : D) (ds : List D) (Q : VK), Inv X pins σ H s → RelV x v → Vals xs us → Rel X.K φ H μ → Rep X.K φ H x dx → RepAll X.K φ H xs ds →
    OutG X.K W σ φ H (GV X.K Q) (g dx ds μ) → wpAny (model X.prog X.w) X.A (call (.builtin id) (v :: us)) (EP X pins σ Q) X.xe s
/-- what a receiver is -/
inductive RTy where
  | list | dict | str
def RTy.nm : RTy → String
  | .list => "list" | .dict => "dict" | .str => "str"
def RTy.ok : RTy → D → Mem → Bool
  | .list, d, μ => (seeQ μ d).isSome
  | .dict, d, μ => (seeD μ d).isSome
  | .str, .str _, _ => true
  | .str, _, _ => false
def E.meth (t : RTy) (g : D → List D → Mem → Res D) (o : EE) (as : EA) : EE := fun ρ μ => (o ρ μ).bind fun x μ => if t.ok x μ = true then (as ρ μ).bind fun ds μ => g x ds μ else .bad
section
variable {X : Cx} {W : WX} {o e : Expr} {es : List Expr} {mo : EE} {ms : EA} {name : Str} {apos cpos : Pos} {id : String} {g : D → List D → Mem → Res D}
theorem rty_is {t : RTy} {pins : List (Addr × Obj)} {σ : L2.St} {s : Shared} {u : Value} {φ : Pl} {H : Hp} {μ : Mem} {v : V} {d : D} (I : Inv X pins σ H s) (ru : RelV v u) (hm : Rel X.K φ H μ) (r : Rep X.K φ H v d) (h : t.ok d μ = true) :
    s.TypeIs u t.nm ∧ ∀ a, u = .ref a → ∃ ob, s.heap.get? a = some ob ∧ ob.dict = none := by
  cases t with
  | list =>
    obtain ⟨xs, hx⟩ := Option.isSome_iff_exists.mp h
    obtain ⟨a, vs, rfl, q, _⟩ := seeQ_rep hm r hx
    exact tyV_is (T := "list") I ru (show tyV X.K "list" (.ref a) H from .inl ⟨rfl, vs, q⟩)
  | dict =>
    obtain ⟨⟨ks, xs⟩, hx⟩ := Option.isSome_iff_exists.mp h
    obtain ⟨a, vs, rfl, q, _⟩ := seeD_rep hm r hx
    obtain ⟨z, lo, ws, rel, dd⟩ := dk_rd I.hok q
    cases (show u = Value.ref a from ru)
    exact ⟨dd.typeIs, fun b e => by cases e; obtain ⟨o, e1, e2⟩ := dd.mapOf.noDict a rfl; exact ⟨o, e1, e2⟩⟩
  | str =>
    cases d with
    | str z =>
      cases rep_str r
      exact tyV_is (T := "str") I ru (show tyV X.K "str" (.str z) H from rfl)
    | _ => cases h
theorem se_meth0 (t : RTy) (pa : PlainAttrs t.nm) (slot : Slot t.nm name id) (hty : typeOf (.builtin id) = pure (.type "method_descriptor")) (hg : MethS X W id g) (ho : PE X o (lift X.K W mo))
    (hbase : attributeBase o name X.env (eval o X.env) = eval o X.env := by rfl) (hline : (apos.endLine == cpos.line) = true := by rfl) : PE X (.Call (.Attribute o name apos) [] [] cpos) (lift X.K W (E.meth t g mo A.nil)) := by
  refine ⟨fun pins s σ H Q I ⟨φ, ρ, μ, hl, hr, oo⟩ => ?_⟩
  refine wpAny_Call_method0_late hbase hline (use ho I hl hr (OutG.bind oo) fun v s1 x H1 d μ1 φ1 I1 r1 e1 m1 p1 o1 => ?_)
  split at o1
  · rename_i hok
    obtain ⟨h1, h2⟩ := rty_is I1 r1 m1 p1 hok
    exact ⟨t.nm, id, pa, slot, hty, h1, h2, Calls.callWith_builtin rfl (PySem.evalArgs_none (hg pins s1 σ H1 φ1 μ1 x [] v [] d [] Q I1 r1 .nil m1 p1 RepAll.nil_ o1))⟩
  · exact o1.elim
theorem se_meth (t : RTy) (pa : PlainAttrs t.nm) (slot : Slot t.nm name id) (hty : typeOf (.builtin id) = pure (.type "method_descriptor")) (hg : MethS X W id g) (ho : PE X o (lift X.K W mo)) (ha : PA X (e :: es) (liftA X.K W ms))
    (hbase : attributeBase o name X.env (eval o X.env) = eval o X.env := by rfl)
    (hfew : ((backTo cpos (starEach (e :: es) X.env)).all (fun x => !x.1) && (backToKw cpos (keywordEach [] X.env)).all (fun x => x.1.isSome)
      && decide ((e :: es).length + ([] : List Keyword).length + (if ([] : List Keyword).isEmpty then 0 else 1) < 30)) = true := by rfl)
    (hline : (apos.endLine == cpos.line) = true := by rfl) (hs : starEach (e :: es) X.env = (false, eval e X.env) :: starEach es X.env := by rfl) (hplain : (backTo cpos (starEach es X.env)).any (·.1) = false := by rfl) :
    PE X (.Call (.Attribute o name apos) (e :: es) [] cpos) (lift X.K W (E.meth t g mo ms)) := by
  refine ⟨fun pins s σ H Q I ⟨φ, ρ, μ, hl, hr, oo⟩ => ?_⟩
  refine wpAny_Call_method_late hbase hfew hline rfl (use ho I hl hr (OutG.bind oo) fun v s1 x H1 d μ1 φ1 I1 r1 e1 m1 p1 o1 => ?_)
  split at o1
  rotate_left
  · exact o1.elim
  rename_i hok
  obtain ⟨h1, h2⟩ := rty_is I1 r1 m1 p1 hok
  refine ⟨t.nm, id, pa, slot, hty, h1, h2, ?_⟩
  have hA : wpAny (model X.prog X.w) X.A (spliced (backTo cpos (starEach (e :: es) X.env))) (fun us s2 => wpAny (model X.prog X.w) X.A (call (.builtin id) (v :: us)) (EP X pins σ Q) X.xe s2) X.xe s1 :=
    useA ha I1 (hl.ext e1) m1 (OutG.bind o1) fun us s2 vs H2 ds μ2 φ2 I2 r2 e2 m2 p2 o2 => hg pins s2 σ H2 φ2 μ2 x vs v us d ds Q I2 r1 r2 m2 (p1.ext e2) p2 o2
  rw [hs] at hA ⊢
  exact Calls.callWith_builtin (by show (false || (backTo cpos (starEach es X.env)).any (·.1)) = false; rw [hplain] <;> rfl) (Calls.evalArgs_plain hA)
end

namespace Mt
/-- the list that the memory holds there -/
def lstAt (μ : Mem) : D → Option (Nat × List D)
  | .ref i => (match μ[i]? with
    | some (.lst xs) => some (i, xs)
    | _ => none)
  | _ => none
def append (x : D) (ds : List D) (μ : Mem) : Res D := match lstAt μ x, ds with
  | some (i, xs), [d] => if xs.length < 16777216 then .ok .non (μ.set i (.lst (xs ++ [d]))) else .bad
  | _, _ => .bad
def extend (x : D) (ds : List D) (μ : Mem) : Res D := match lstAt μ x, ds with
  | some (i, xs), [d] => (match seeL μ d with
    | some ys => if xs.length + ys.length ≤ 16777216 then .ok .non (μ.set i (.lst (xs ++ ys))) else .bad
    | none => .bad)
  | _, _ => .bad
def pop (x : D) (ds : List D) (μ : Mem) : Res D := match lstAt μ x, ds with
  | some (i, xs), [] => (match xs[xs.length - 1]? with
    | some d => .ok d (μ.set i (.lst xs.dropLast))
    | none => .bad)
  | some (i, xs), [.int j] => if -(2 ^ 63) ≤ j ∧ j < 2 ^ 63 then (match seqIndex? j xs.length with
    | some k => (match xs[k]? with
      | some d => .ok d (μ.set i (.lst (xs.eraseIdx k)))
      | none => .bad)
    | none => .bad) else .bad
  | _, _ => .bad
end Mt
section
variable {K : PySem.W.Frag} {φ : Pl} {H : Hp} {μ : Mem}
theorem lstAt_rep {v : V} {d : D} {i : Nat} {xs : List D} (hm : Rel K φ H μ) (r : Rep K φ H v d) (e : Mt.lstAt μ d = some (i, xs)) : ∃ a vs, v = .ref a ∧ φ.pl[i]? = some a ∧ H a = some (.lst vs) ∧ RepAll K φ H vs xs := by
  unfold Mt.lstAt at e
  split at e
  · split at e
    · rename_i j ys hy
      cases e
      unfold Rep at r
      obtain ⟨a, rfl, q⟩ := r
      obtain ⟨vs, h1, rs⟩ := hm.obj _ a _ q hy
      exact ⟨a, vs, rfl, q, h1, rs⟩
    · cases e
  · cases e
theorem lst_write {i : Nat} {a : Addr} {vs vs' : List V} {xs' : List D} (hm : Rel K φ H μ) (hi : φ.pl[i]? = some a) (h : H a = some (.lst vs)) (rs : RepAll K φ H vs' xs') : Ext φ H φ (upd H a (.lst vs')) ∧ Rel K φ (upd H a (.lst vs')) (μ.set i (.lst xs')) :=
  mem_write hm hi (by rw [h]; exact fun _ z => nomatch z) (by rw [h]; exact fun _ _ z => nomatch z) fun e => ⟨vs', upd_same, rs.ext e⟩
theorem RepAll.dropLast {vs : List V} {xs : List D} (r : RepAll K φ H vs xs) : RepAll K φ H vs.dropLast xs.dropLast := by
  rw [List.dropLast_eq_take, List.dropLast_eq_take, r.length]
  exact RepAll.take _ r
theorem RepAll.eraseIdx {vs : List V} {xs : List D} (r : RepAll K φ H vs xs) (k : Nat) : RepAll K φ H (vs.eraseIdx k) (xs.eraseIdx k) := by
  rw [List.eraseIdx_eq_take_drop_succ, List.eraseIdx_eq_take_drop_succ]
  exact RepAll.append (RepAll.take _ r) (RepAll.drop _ r)
end
section
variable {X : Cx} {W : WX}
theorem meth_append : MethS X W "list.append" Mt.append := by
  intro pins s σ H φ μ x xs v us dx ds Q I rx rxs hm px pxs o
  unfold Mt.append at o
  split at o
  · rename_i i ys d hy
    split at o
    · rename_i hz
      obtain ⟨a, vs, rfl, hi, h1, rs⟩ := lstAt_rep hm px hy
      obtain ⟨w, rfl, rw'⟩ := repAll1 pxs
      obtain ⟨e, m⟩ := lst_write hm hi h1 (RepAll.append rs (RepAll.cons_ rw' RepAll.nil_))
      exact mt_append pins s σ H _ _ v us Q I rx rxs ⟨a, vs, w, rfl, rfl, h1, by rw [rs.length, sizeLine_eq]; exact hz, o φ _ e m _ rep_of_non⟩
    · exact o.elim
  · exact o.elim
theorem meth_extend : MethS X W "list.extend" Mt.extend := by
  intro pins s σ H φ μ x xs v us dx ds Q I rx rxs hm px pxs o
  unfold Mt.extend at o
  split at o
  · rename_i i ys d hy
    split at o
    · rename_i zs hzs
      split at o
      · rename_i hz
        obtain ⟨a, vs, rfl, hi, h1, rs⟩ := lstAt_rep hm px hy
        obtain ⟨w, rfl, rw'⟩ := repAll1 pxs
        obtain ⟨b, ws, rfl, h2, rs2⟩ := seeL_rep hm rw' hzs
        obtain ⟨e, m⟩ := lst_write hm hi h1 (RepAll.append rs rs2)
        exact mt_extend pins s σ H _ _ v us Q I rx rxs ⟨a, b, vs, ws, rfl, rfl, h1, h2, by rw [rs.length, rs2.length, sizeLine_eq]; exact hz, o φ _ e m _ rep_of_non⟩
      · exact o.elim
    · exact o.elim
  · exact o.elim
theorem meth_pop : MethS X W "list.pop" Mt.pop := by
  intro pins s σ H φ μ x xs v us dx ds Q I rx rxs hm px pxs o
  unfold Mt.pop at o
  split at o
  · rename_i i ys hy
    split at o
    · rename_i d hd
      obtain ⟨a, vs, rfl, hi, h1, rs⟩ := lstAt_rep hm px hy
      unfold RepAll at pxs
      subst pxs
      rw [← rs.length] at hd
      obtain ⟨w, hw, rw'⟩ := rs.get hd
      obtain ⟨e, m⟩ := lst_write hm hi h1 rs.dropLast
      exact mt_pop pins s σ H _ _ v us Q I rx rxs ⟨a, vs, w, rfl, rfl, h1, hw, o φ _ e m _ (rw'.ext e)⟩
    · exact o.elim
  · rename_i i ys j hy
    split at o
    · rename_i hz
      split at o
      · rename_i k hk
        split at o
        · rename_i d hd
          obtain ⟨a, vs, rfl, hi, h1, rs⟩ := lstAt_rep hm px hy
          obtain ⟨w0, rfl, rw0⟩ := repAll1 pxs
          obtain ⟨w, hw, rw'⟩ := rs.get hd
          obtain ⟨e, m⟩ := lst_write hm hi h1 (rs.eraseIdx k)
          exact mt_popAt pins s σ H _ _ v us Q I rx rxs ⟨a, vs, j, k, w, rfl, by rw [rep_int rw0], h1, hz.1, hz.2, by rw [rs.length]; exact hk, hw, o φ _ e m _ (rw'.ext e)⟩
        · exact o.elim
      · exact o.elim
    · exact o.elim
  · exact o.elim
end

/-! ### dicts -/
/-- {}: a new dict of the memory -/
def E.dnew : EE := fun _ μ => .ok (.ref μ.length) (μ ++ [.dct [] []])
section
variable {X : Cx} {W : WX} {pos : Pos}
theorem se_dnew : PE X (.Dict [] [] pos) (lift X.K W E.dnew) := ⟨fun pins s σ H Q I ⟨φ, ρ, μ, hl, hm, o⟩ =>
  pe_dnewK.run pins s σ H Q I fun p hp => o (φ.push p) _ (Ext.push hm hp) (hm.push hp ⟨[], upd_same, rfl, RepAll.nil_⟩) _ (rep_new hm)⟩
end
namespace Op
def intKeys : List Key → Option (List Int)
  | [] => some []
  | .inl i :: ks => (intKeys ks).map (i :: ·)
  | _ => none
/-- sorted(d.keys()) of ints -/
def sortedKeys (d : D) (μ : Mem) : Res D := match seeD μ d with
  | some (ks, _) => (match intKeys ks with
    | some ns => .ok (.lst ((ns.mergeSort (fun a b => decide (a ≤ b))).map .int)) μ
    | none => .bad)
  | none => .bad
end Op
theorem intKeys_map : ∀ {ks : List Key} {ns : List Int}, Op.intKeys ks = some ns → ks = ns.map Sum.inl
  | [], ns, e => by cases e; rfl
  | .inl i :: ks, ns, e => by
    rw [Op.intKeys] at e
    cases h : Op.intKeys ks with
    | none => rw [h] at e; cases e
    | some ms => rw [h] at e; cases e; rw [List.map_cons, intKeys_map h]
  | .inr _ :: ks, ns, e => by cases e
theorem perm_sorted {a b : List Int} (p : a.Perm b) (ha : a.Pairwise (· ≤ ·)) (hb : b.Pairwise (· ≤ ·)) : a = b :=
  p.eq_of_pairwise (fun a b _ _ h1 h2 => Int.le_antisymm h1 h2) ha hb
theorem vals_of_ints' : ∀ {us : List Value} {ns : List Int}, IntsAre us ns → Vals (ns.map V.int) us
  | _, _, .nil => .nil
  | _, _, .cons _ _ t => .cons ⟨_, rfl⟩ (vals_of_ints' t)
section
variable {X : Cx} {W : WX} {o : Expr} {mo : EE} {p apos cpos pos : Pos}
theorem se_sortedKeys (hc : X.calm = true) (hg : Gl X "sorted") (hm : X.mg "sorted" = none) (ho : PE X o (lift X.K W mo)) (hbase : attributeBase o "keys" X.env (eval o X.env) = eval o X.env := by rfl) (hline : (apos.endLine == cpos.line) = true := by rfl)
    (he : starEach [.Call (.Attribute o "keys" apos) [] [] cpos] X.env = [(false, eval (.Call (.Attribute o "keys" apos) [] [] cpos) X.env)] := by rfl) :
    PE X (.Call (.Name "sorted" p) [.Call (.Attribute o "keys" apos) [] [] cpos] [] pos) (lift X.K W (E.op1 Op.sortedKeys mo)) := by
  refine ⟨fun pins s σ H Q I ⟨φ, ρ, μ, hl, hr, oo⟩ => ?_⟩
  refine wpAny_Call_Name_kw (ld_blt I hg hm rfl ?_ (by decide) (by decide))
  refine PyProof.Rows.callWith_builtin1 ?_ (by rw [he]; rfl) (by rfl)
  show wpAny _ _ (spliced (backTo pos (starEach [.Call (.Attribute o "keys" apos) [] [] cpos] X.env))) _ _ s
  rw [he]
  refine Calls.spliced_cons ?_
  refine wpAny_Call_method (T := "dict") (id := "dict.keys") hbase rfl hline F.plainAttrs_dict F.slot_dict_keys F.type_dict_keys (use ho I hl hr (OutG.bind oo) fun u s1 x H1 d μ1 φ1 I1 r1 e1 m1 p1 o1 => ?_)
  unfold Op.sortedKeys at o1
  split at o1
  rotate_left
  · exact o1.elim
  rename_i ks xs hd
  split at o1
  rotate_left
  · exact o1.elim
  rename_i ns hks
  obtain ⟨a, ws, rfl, hH, hlen, rs⟩ := seeD_rep m1 p1 hd
  cases (show u = Value.ref a from r1)
  obtain ⟨z, lo, vs, rel, dd⟩ := dk_rd I1.hok hH
  obtain ⟨ep, hat⟩ := dd.dictAt
  refine ⟨dd.typeIs, dd.mapOf.noDict, ?_⟩
  have hkeys : vs.map (·.1) = ns.map Sum.inl := by
    rw [← rel.keys, List.map_fst_zip (by rw [hlen, rs.length]; exact Nat.le_refl _), intKeys_map hks]
  have hl' : vs.length = ns.length := by
    have e := congrArg List.length hkeys
    rw [List.length_map, List.length_map] at e
    exact e
  have hzl : vs.length ≤ sizeLine := by rw [← rel.length]; exact z
  refine method_meetsIn F.slot_dict_keys F.entry_dict_keys rfl (PySem.evalArgs_none ⟨rfl, dd.typeIs, F.args_dict_keys_1 _, _, PySem.W.kdl_meets_keys (mixKind X.prog X.w) a lo, ⟨vs, dd⟩, ?_⟩)
  -- the view stands
  refine Calls.spliced_nil ?_
  have I2 : Inv X pins σ H1 { s1 with heap := s1.heap.push { cls := .type "dict_keys", data := .fields #[.ref a] } } := I1.kept (t' := s1.toks) fun b ob q => Heap.get?_push_of_some _ q
  refine Calls.call_function_entry PyProof.Rows.kind_sorted PyProof.Rows.plain_sorted PyProof.Rows.entry_sorted (PyProof.Rows.args_sorted1 _) ?_
  unfold Builtin.«sorted»
  refine wpAny_bind (m := checkCount "sorted" 1 1 _) (wpAny_pure ?_)
  refine wpAny_bind (PySem.W.kdu_collect (A := X.A.in1) (PySem.W.kdl_keys (knd := mixKind X.prog X.w) (kvs := vs) (ep := ep)) (I2.ok.hd hc) ⟨⟨_, Heap.get?_push_size _ rfl, rfl, rfl⟩, hat.push _⟩ hzl fun h' tk acc hk hacc => ?_)
  have hal : acc.toList.length = ns.length := by rw [Array.length_toList, hacc.1, hl']
  have hS : IntsAre acc.toList ns := ints_each hal fun j v e => by
    obtain ⟨k, x, e1, e2⟩ := hacc.2 j v (by rw [← Array.getElem?_toList]; exact e)
    have e3 : (vs.map (·.1))[j]? = some k := by rw [List.getElem?_map, e1]; rfl
    rw [hkeys, List.getElem?_map] at e3
    cases e4 : ns[j]? with
    | none => rw [e4] at e3; cases e3
    | some y =>
      rw [e4] at e3
      have e5 : Sum.inl y = k := Option.some.inj e3
      subst e5
      rcases keyIs_shape (show keyIs (Sum.inl y) v = true from e2) with ⟨i, t, ek, ev⟩ | ⟨z, t, ek, ev⟩
      · cases ek
        exact ⟨y, t, rfl, ev⟩
      · cases ek
  have I3 : Inv X pins σ H1 { s1 with heap := h', toks := tk } := I2.kept hk
  have hzn : ns.length ≤ sizeLine := by rw [← hl']; exact hzl
  refine wpAny_bind (wpAny_newList ?_ (by rw [hal]; exact hzn))
  have hoL : (h'.push (seqObj "list" acc.toList.toArray 0)).get? h'.objs.size = some (seqObj "list" acc.toList.toArray 0) := Heap.get?_push_size _ rfl
  show wpAny _ _ _ _ _ { s1 with heap := h'.push (seqObj "list" acc.toList.toArray 0), toks := tk }
  refine wpAny_bind (wpAny_holding (wpAny_call_entry PyProof.Rows.slot_list_sort ⟨_, hoL, rfl⟩ PyProof.Rows.entry_list_sort
    (PyProof.Rows.list_sort_treeAny (s := { s1 with heap := h'.push (seqObj "list" acc.toList.toArray 0), toks := tk }) hoL hS (by rw [hal]; exact hzn) fun out ys g1 g2 g3 => ⟨_, rfl, ?_⟩) (PyProof.Rows.args_list_sort _)))
  obtain ⟨e', he'⟩ := PyProof.Rows.sortedHeap_at (vs := acc.toList) (out := out) hoL
  have hys : ys = ns.mergeSort (fun a b => decide (a ≤ b)) := perm_sorted (g2.trans (List.mergeSort_perm ns _).symm) g3 (by
    have := List.pairwise_mergeSort (le := fun a b : Int => decide (a ≤ b)) (fun a b c h1 h2 => decide_eq_true (Int.le_trans (of_decide_eq_true h1) (of_decide_eq_true h2))) (fun a b => by rcases Int.le_total a b with h | h <;> simp [h]) ns
    exact this.imp fun h => of_decide_eq_true h)
  have hlen' : (ys.map V.int).length ≤ sizeLine := by
    rw [List.length_map, g2.length_eq]; exact hzn
  refine wpAny_pure ⟨_, rfl, .ref h'.objs.size, upd H1 h'.objs.size (.lst (ys.map V.int)), I3.laid (t' := tk) (fun b u e => ?_) (Nat.le_refl _) ⟨hlen', out.toList, e', vals_of_ints' g1, by simpa using he'⟩, rfl, ?_⟩
  · rw [PyProof.Rows.sortedHeap_old (Nat.ne_of_lt (Heap.lt_size e)) (Nat.lt_trans (Heap.lt_size e) (by show _ < (h'.push _).objs.size; rw [Heap.size_push]; exact Nat.lt_succ_self _))]
    exact Heap.get?_push_of_some _ e
  · subst hys
    exact new_lst (pins := pins) m1 (repAll_ints _) o1 _ (I3.hok.fresh (Nat.le_refl _))
end
end Dp

namespace Dp
open PySem PySem.Spec PyProof.Rows L2

/-! ### what the top has written -/
/-- a def, under its name -/
structure DefIn (K : PySem.W.Frag) (x : Str) (st : Stmt) : Prop where
  ex : ∃ (y : Str) (f : Addr) (fd : FuncData), PySem.W.nsIn K mainGlobals x = some (some (.ref f)) ∧ Fun K y y st f fd
theorem defIn_mk {K : PySem.W.Frag} {x y : Str} {st : Stmt} {f : Addr} {od an : Option Addr} {sl : Array (Option Value)} {oc kV dc pm cd ct : Value} (a : PySem.W.nsIn K mainGlobals x = some (some (.ref f)))
    (l : K.lookup f = some ⟨oc, od, .func (PySem.W.fnOf y y (defArgs st) (defBody st) (defScope st) .none kV dc pm an cd ct), sl⟩) (c : PySem.W.codeIn K cd y = true) (k : PySem.W.keepIn K (.ref f) = true) : DefIn K x st :=
  ⟨_, f, _, a, fun_mk l c k⟩
theorem with_def {K : PySem.W.Frag} {h : Heap} {x y : Str} {st : Stmt} {C : Prop} {f : Addr} {od an : Option Addr} {sl : Array (Option Value)} {oc kV dc pm cd ct : Value} (_X : K.In h) (a : PySem.W.nsIn K mainGlobals x = some (some (.ref f)))
    (l : K.lookup f = some ⟨oc, od, .func (PySem.W.fnOf y y (defArgs st) (defBody st) (defScope st) .none kV dc pm an cd ct), sl⟩) (c : PySem.W.codeIn K cd y = true) (k : PySem.W.keepIn K (.ref f) = true) (cont : DefIn K x st → C) : C := cont (defIn_mk a l c k)
theorem DefIn.cal {P : Program} {w : World} {K : PySem.W.Frag} {mg : Str → Option Value} {base h : Heap} {k np : Nat} {x : Str} {st : Stmt} {ps : List Str} {fn : List D → Mem → Res D} (d : DefIn K x st) (X : K.In h) (G : h.Ns mainGlobals mg)
    (F : ∀ {y : Str} f fd, Fun K y y st f fd → FnG P w K mg base (L2.CX P w) k f fd ps (spOf K ps.length fn)) : Cal P w K mg base k x st ps fn := by
  obtain ⟨yy, f, fd, a, hf⟩ := d.ex
  exact ⟨yy, f, fd, F f fd hf, PySem.W.mg_of X G a, hf⟩
theorem loose_int {p : Program} {lv : List (Str × PySem.W.WData)} {mg : Str → Option Value} {h : Heap} (x : PySem.W.XL p lv mg h) {n : Str} {i : Int} (hq : (n, PySem.W.WData.int i) ∈ lv) : ∃ t, mg n = some (.int i t) := by
  obtain ⟨v, e, r⟩ := x.2.val _ hq
  cases r with
  | int _ t => exact ⟨t, e⟩
/-! ### the law's call -/
theorem law_callG {P : Program} {w : World} {K : PySem.W.Frag} {mg mb : Str → Option Value} {k : Nat} {fa a : Addr} {x y : Str} {st : Stmt} {fn : List D → Mem → Res D} {s₁ : Shared} {vs : List Value} {ns : List Int}
    (KX : K.In s₁.heap) (hns : s₁.heap.Ns mainGlobals mg) (hb : s₁.heap.Ns builtinsNs mb) (hbb : ∀ x : Str, x ≠ "__name__" → mb x = bootBuiltins x) (hlim : s₁.heap.NoLimit) (hg : s₁.gens = #[])
    (ha : s₁.heap.get? a = some { cls := .type "list", data := .seq vs.toArray }) (hi : IntsAre vs ns) (hl : ns.length ≤ sizeLine) (hr : Room k callerA) (hfa : mg y = some (.ref fa))
    (F : ∀ base : Heap, K.In base → base.Ns mainGlobals mg → Cal P w K mg base k y st [x] fn)
    (hbn : ∀ {zz : Str} (kV doc pm : Value) (an : Option Addr) (cdv ct : Value) (us : List Value), us.length = 1 → bindArgs (PySem.W.fnOf zz zz (defArgs st) (defBody st) (defScope st) .none kV doc pm an cdv ct) ⟨us, []⟩ = pure ([x].zip us))
    (hlaw : ∃ μ', fn [.scr ns] [] = .ok (.bl true) μ') :
    codeAny (model P w) callerA (.call (.ref fa) ⟨[.ref a], []⟩) (fun r s' => r = .ok (.ret (.bool true)) ∧ OldK s₁.heap s'.heap ∧ s'.os = s₁.os ∧ AllBare s'.gens) s₁ := by
  have rv := vals_ints hi
  have lenV := hi.length
  have core : ∀ H : Hp, Only H → SqF K H a (ns.map V.int) → HOk P w H s₁.heap → (∀ b, H b ≠ none → b = a) → (H a ≠ none → K.lookup a = none) →
      codeAny (model P w) callerA (.call (.ref fa) ⟨[.ref a], []⟩) (fun r s' => r = .ok (.ret (.bool true)) ∧ OldK s₁.heap s'.heap ∧ s'.os = s₁.os ∧ AllBare s'.gens) s₁ := by
    intro H hO hS hok hA hK
    have noA : ∀ {b : Addr} {o : Obj} {es : Array DictEntry} {ep : Nat}, s₁.heap.get? b = some o → o.data = .dict es ep → H b = none := fun {b o es ep} e d => by
      cases q : H b with
      | none => rfl
      | some u =>
        have e' : b = a := hA b (by rw [q]; simp)
        subst e'
        rw [ha] at e; cases e
        have d' : Data.seq vs.toArray _ = Data.dict es ep := d
        cases d'
    have nsK : ∀ {b : Addr} {m : Str → Option Value}, s₁.heap.Ns b m → (hidT s₁.heap H).Ns b m := fun {b m} ⟨o, es, ep, e, d, r⟩ => ⟨o, es, ep, hidT_get e (noA e d), d, r⟩
    have hKb : K.In (hidT s₁.heap H) := fun b o e => hidT_get (KX b o e) (by
      cases q : H b with
      | none => rfl
      | some u =>
        have e' : b = a := hA b (by rw [q]; simp)
        subst e'
        rw [hK (by rw [q]; simp)] at e; cases e)
    have hM : Mod K mg (hidT s₁.heap H) := ⟨hKb, nsK hns, ⟨mb, nsK hb, hbb⟩, let ⟨mc, h1, h2⟩ := hlim; ⟨mc, nsK h1, h2⟩⟩
    have e0 : Env0 P w K mg (hidT s₁.heap H) callerA [] s₁ H := ⟨rfl, hM, fun b o e => of_hidT e, Nat.le_of_eq (hidT_size _ _), trivial, fun b hb => absurd (show b ∈ ([] : List Addr) from hb) (by simp), hok, .of_eq hg⟩
    obtain ⟨yy, f, fd, FG, hm, hf⟩ := (F _ hKb (nsK hns)).ex
    rw [hfa] at hm
    cases hm
    have hbind : BindsTo s₁ fd ⟨[.ref a], []⟩ ([x].zip [.ref a]) := by
      obtain ⟨oc, od, kV, doc, pm, an, cdv, ct, osl, rfl, lk, hcd⟩ := hf.ex
      exact .of_eq (hbn kV doc pm an cdv ct [.ref a] rfl)
    have hsp : spOf K 1 fn [.ref a] H (fun v _ => v = .bl true) fun _ _ _ => False := by
      obtain ⟨μ', e⟩ := hlaw
      refine ⟨⟨[], fun _ => False⟩, [], [.scr ns], rfl, RepAll.cons_ (by unfold Rep; exact ⟨a, rfl, hS⟩) RepAll.nil_, ⟨rfl, by simp, fun b q => q.elim, fun i a o e => by simp at e⟩, ?_⟩
      rw [e]
      exact fun φ' H' _ _ v rv => rep_bl rv
    refine codeAny_mono (FG.run callerA [] s₁ H ⟨[.ref a], []⟩ [.ref a] [.ref a] _ _ rfl hr e0 hbind (.cons rfl .nil) hsp) fun r s' h => ?_
    cases r with
    | error e =>
      obtain ⟨_, _, _, _, _, _, _, _, _, _, _, _, z⟩ := h
      exact z.elim
    | ok fl =>
      cases fl with
      | next => exact False.elim h
      | brk => exact False.elim h
      | cont => exact False.elim h
      | ret u =>
        obtain ⟨v, H', os, bare, un, hok', r', q⟩ := h
        have q' : v = .bl true := q
        subst q'
        obtain rfl : u = Value.bool true := r'
        refine ⟨rfl, OldK.of_keep fun b o e => ?_, os, bare⟩
        cases q : H b with
        | none => exact un.keep b o e q (by intro z; exact absurd (show b ∈ ([] : List Addr) from z) (by simp)) (by simp)
        | some u =>
          rcases hO b with z | ⟨ob, xs, z⟩
          · rw [q] at z; cases z
          · have z2 := un.frzs b ob _ z
            obtain ⟨e1, _⟩ := hok b _ z
            obtain ⟨e2, _⟩ := hok' b _ z2
            rw [e] at e1; cases e1
            exact e2
  cases hk : K.lookup a with
  | some o =>
    have e := KX a o hk
    rw [ha] at e
    cases e
    refine core (fun _ => none) (fun _ => .inl rfl) (.inr ⟨_, vs.toArray, _, hk, rfl, rfl, rfl, by rw [List.size_toArray, lenV]; exact hl, by simpa using rv⟩) (fun b u z => by have z' : (none : Option HO) = some u := z; cases z') (fun b z => absurd rfl z) fun z => absurd rfl z
  | none =>
    refine core (fun b => if b = a then some (.frz { cls := .type "list", data := .seq vs.toArray } (.lst (ns.map V.int))) else none) (fun b => ?_) (.inl ⟨{ cls := .type "list", data := .seq vs.toArray }, if_pos rfl⟩) (fun b u z => ?_) (fun b z => ?_) fun _ => hk
    · by_cases hb : b = a
      · exact .inr ⟨_, _, if_pos hb⟩
      · exact .inl (if_neg hb)
    · by_cases hb : b = a
      · have z' := (if_pos hb).symm.trans z
        cases z'
        subst hb
        exact ⟨ha, by rw [List.length_map]; exact hl, vs, _, rv, ha⟩
      · have z' := (if_neg hb).symm.trans z
        cases z'
    · by_cases hb : b = a
      · exact hb
      · exact absurd (if_neg hb) z
theorem walk_ofD {l : PySem.W.OpenLaw} {n k : Nat} {q : Program} {loose : List Str} {XP : (Str → Option Value) → Heap → Prop} {YP : World → Heap → Prop} {d : DefRec} {K : Params → PySem.W.Frag} {x : Str} {st : Stmt} {fn : List D → Mem → Res D}
    (hn : l.most = some n) (hn2 : n ≤ sizeLine) (hdf : d.params.defaults = []) (hr : Room k callerA)
    (hY : ∀ (w : World) (h : Heap), YP w h → (K w.params).In h)
    (F : ∀ (w : World) (mg : Str → Option Value) (h : Heap), XP mg h → (K w.params).In h → h.Ns mainGlobals mg → ∀ base : Heap, (K w.params).In base → base.Ns mainGlobals mg → Cal l.prog w (K w.params) mg base k d.name st [x] fn)
    (hbn : ∀ {zz : Str} (kV doc pm : Value) (an : Option Addr) (cdv ct : Value) (us : List Value), us.length = 1 → bindArgs (PySem.W.fnOf zz zz (defArgs st) (defBody st) (defScope st) .none kV doc pm an cdv ct) ⟨us, []⟩ = pure ([x].zip us))
    (hlaw : ∀ ns : List Int, ns.length ≤ n → (∀ z ∈ ns, Builtin.Int.intBits z ≤ 1048576) → ∃ μ', fn [.scr ns] [] = .ok (.bl true) μ') :
    PySem.W.WalkO q loose XP YP l.row.toRowW d [] (fun f vs => PySem.call f vs) := by
  refine Att.attach_callB hn hdf fun w s₀ s₁ mg mb fa o pm cd doc a vs ns G Y ho hd hcd hmg hobj hints hlen hbits hg => ?_
  exact law_callG (hY w _ Y) G.T.g G.T.b G.T.builtins G.T.nolimit hg hobj hints (Nat.le_trans hlen hn2) hr hmg (fun base h1 h2 => F w mg _ G.X (hY w _ Y) G.T.g base h1 h2) hbn (hlaw ns hlen hbits)
end Dp

namespace Dp
open PySem PySem.Spec PyProof.Rows L2

/-! ### rules in short, for printed proofs -/
theorem room_hu {k : Nat} {A : Around} (hr : Room k A) : A.units + 200 < cLine := by have := hr.un; omega
section
variable {X : Cx} {W : WX} {e a b c : Expr} {m ma mb mc : EE} {pos : Pos}
theorem se_int {i : Int} {j : Nat} : PE X (.Constant (.int i) j pos) (lift X.K W (E.val (.int i))) := se_val pe_int fun _ _ => rep_of_int
theorem se_bl {i : Bool} {j : Nat} : PE X (.Constant (.bool i) j pos) (lift X.K W (E.val (.bl i))) := se_val pe_bl fun _ _ => rep_of_bl
theorem se_str {i : Str} {j : Nat} : PE X (.Constant (.str i) j pos) (lift X.K W (E.val (.str i))) := se_val pe_str fun _ _ => rep_of_str
theorem se_non {j : Nat} : PE X (.Constant .none j pos) (lift X.K W (E.val .non)) := se_val pe_non fun _ _ => rep_of_non
theorem sv (i : Nat) {x : Str} (hN : X.N[i]? = some x := by rfl) (hv : Vis X.env.scope x := by first | exact Or.inl rfl | exact Or.inr (Or.inl rfl) | exact Or.inr (Or.inr rfl)) (hd : (x == ("__debug__" : Str)) = false := by decide)
    (hcd : (x == ("__classdict__" : Str)) = false := by decide) : PE X (.Name x pos) (lift X.K W (E.var i)) := se_var (pe_var hN hv hd hcd)
theorem se_gint {x : Str} {i : Int} (h : ∃ t, X.mg x = some (.int i t)) (hg : Gl X x := by rfl) (hd : (x == ("__debug__" : Str)) = false := by decide) : PE X (.Name x pos) (lift X.K W (E.val (.int i))) := by
  obtain ⟨t, h⟩ := h
  exact se_val (pe_glob hg h (v := .int i) ⟨t, rfl⟩ hd) fun _ _ => rep_of_int
theorem se_gstr {x : Str} {i : Str} (h : ∃ t, X.mg x = some (.str i t)) (hg : Gl X x := by rfl) (hd : (x == ("__debug__" : Str)) = false := by decide) : PE X (.Name x pos) (lift X.K W (E.val (.str i))) := by
  obtain ⟨t, h⟩ := h
  exact se_val (pe_glob hg h (v := .str i) ⟨t, rfl⟩ hd) fun _ _ => rep_of_str
theorem se_one {op : BoolOp} (h : PE X a (lift X.K W ma)) : PE X (.BoolOp op [a] pos) (lift X.K W ma) := pe_one h
def T.chain (g g' : D → D → Mem → Res D) (a b c : EE) : EB := T.ofB (E.chain g g' a b c)
theorem st_chain {op op' : CmpOp} {g g' : D → D → Mem → Res D} (ho : OpS X W (compareOp op) g) (ho' : OpS X W (compareOp op') g') (ha : PE X a (lift X.K W ma)) (hb : PE X b (lift X.K W mb)) (hc : PE X c (lift X.K W mc))
    (hm : lastMarks [op, op'] [b, c] = false := by with_unfolding_all rfl) : PT X (.Compare a [op, op'] [b, c] pos) (liftB X.K W (T.ofB (E.chain g g' ma mb mc))) := by
  refine ⟨fun pins s σ H Q I ⟨φ, ρ, μ, hl, hr, o⟩ => ?_⟩
  have o := OutG.bind o
  refine isTrue_chain (use ha I hl hr (OutG.bind o) fun v s1 x H1 d1 μ1 φ1 I1 r1 e1 m1 p1 o1 => test_link (use hb I1 (hl.ext e1) m1 (OutG.bind o1) fun u s2 y H2 d2 μ2 φ2 I2 r2 e2 m2 p2 o2 => ?_)) hm
  refine thn (ho pins s2 σ H2 φ2 μ2 x y v u d1 d2 (fun z H' => ∃ k μ' φ', z = .bl k ∧ Ext φ2 H2 φ' H' ∧ Rel X.K φ' H' μ' ∧ (if k = true then OutG X.K W σ φ' H' (fun d μ φ H => OutG X.K W σ φ H (GB Q) (match d with
    | .bl b => .ok b μ
    | _ => .bad)) ((mc ρ μ').bind fun w μ => g' d2 w μ) else Q false H')) I2 r1 r2 m2 (p1.ext e2) p2 ((OutG.bind o2).imp fun d μ' φ' H' e' r' o' w hw => ?_)) ?_
  · cases d with
    | bl k =>
      cases k with
      | true => exact ⟨true, μ', φ', rep_bl hw, e', r', by rw [if_pos rfl]; exact o'⟩
      | false => exact ⟨false, μ', φ', rep_bl hw, e', r', by rw [if_neg Bool.false_ne_true]; exact o' φ' H' Ext.refl r' φ' H' Ext.refl r'⟩
    | _ => exact o'.elim
  · rintro z s3 ⟨w, H3, I3, r3, k, μ3, φ3, rfl, e3, m3, q⟩
    cases r3
    refine wpAny_truthy_bool ?_
    cases k with
    | false => exact ite_ff ⟨H3, I3, by rw [if_neg Bool.false_ne_true] at q; exact q⟩
    | true =>
      have q' : OutG X.K W σ φ3 H3 (fun d μ φ H => OutG X.K W σ φ H (GB Q) (match d with
        | .bl b => .ok b μ
        | _ => .bad)) ((mc ρ μ3).bind fun w μ => g' d2 w μ) := by rw [if_pos rfl] at q; exact q
      refine ite_tt (test_last (use hc I3 ((hl.ext e1).ext (e2.trans e3)) m3 (OutG.bind q') fun w' s4 z' H4 d4 μ4 φ4 I4 r4 e4 m4 p4 o4 => ?_))
      refine thn (ho' pins s4 σ H4 φ4 μ4 y z' u w' d2 d4 (fun z H' => ∃ k, z = .bl k ∧ Q k H') I4 r2 r4 m4 (p2.ext (e3.trans e4)) p4 (o4.imp fun d μ' φ' H' e' r' o' w hw => ?_)) ?_
      · cases d with
        | bl k => exact ⟨k, rep_bl hw, o' φ' H' Ext.refl r'⟩
        | _ => exact o'.elim
      · rintro z s5 ⟨w, H5, I5, r5, k, rfl, q5⟩
        cases r5
        exact wpAny_truthy_bool ⟨H5, I5, q5⟩
theorem se_chain {op op' : CmpOp} {g g' : D → D → Mem → Res D} (ho : OpS X W (compareOp op) g) (ho' : OpS X W (compareOp op') g') (ha : PE X a (lift X.K W ma)) (hb : PE X b (lift X.K W mb)) (hc : PE X c (lift X.K W mc))
    (hm : lastMarks [op, op'] [b, c] = false := by with_unfolding_all rfl) : PE X (.Compare a [op, op'] [b, c] pos) (lift X.K W (E.chain g g' ma mb mc)) := chain_run ho ho' ha hb hc hm
def E.notE (a : EE) : EE := fun ρ μ => (T.of a ρ μ).bind fun b μ => .ok (.bl (!b)) μ
theorem se_notE (ha : PE X a (lift X.K W ma)) : PE X (.UnaryOp .Not a pos) (lift X.K W (E.notE ma)) := se_not (ta := T.yes) ha
end
/-! ### statements -/
namespace S
/-- what is not reached -/
def never : ES := fun _ _ => none
def par2 (i j : Nat) (as : EA) : ES := fun ρ μ => ofR (as ρ μ) ρ fun ds μ => match ds with
  | [a, b] => some (.next ((ρ.set i (some a)).set j (some b)), μ)
  | _ => none
def par3 (i j l : Nat) (as : EA) : ES := fun ρ μ => ofR (as ρ μ) ρ fun ds μ => match ds with
  | [a, b, c] => some (.next (((ρ.set i (some a)).set j (some b)).set l (some c)), μ)
  | _ => none
end S
section
variable {X : Cx} {W : WX} {st : Stmt} {pos : Pos}
theorem ps_neverD : PS X st (liftS X.K W S.never) := ⟨fun pins s σ H De I ⟨φ, ρ, μ, hl, hm, o⟩ => o.elim⟩
theorem ps_par2D {i j : Nat} {x y : Str} {a b : Expr} {ms : EA} {px py pt : Pos} {kt k2 pt2} (hc : X.calm = true) (hN : X.N.Nodup) (hi : X.N[i]? = some x) (hj : X.N[j]? = some y) (hij : i ≠ j)
    (hx : X.env.scope.names.lookup x = some .local) (hy : X.env.scope.names.lookup y = some .local) (ha : PA X [a, b] (liftA X.K W ms))
    (hw : swappedStores [.Tuple [.Name x px, .Name y py] kt pt] (.Tuple [a, b] k2 pt2) X.env = pure (some [x, y]) := by rfl)
    (hs : swapsWithSole [.Tuple [.Name x px, .Name y py] kt pt] (.Tuple [a, b] k2 pt2) pos.line X.env = pure false := by rfl) :
    PS X (.Assign [.Tuple [.Name x px, .Name y py] kt pt] (.Tuple [a, b] k2 pt2) pos) (liftS X.K W (S.par2 i j ms)) :=
  ps_anti (ps_par hc hN hi hj hij hx hy ha hw hs) fun De σ H ⟨φ, ρ, μ, hl, hm, o⟩ => ⟨φ, ρ, μ, hl, hm, (OutS.ofR hl o).imp fun ds μ1 φ1 H1 e1 m1 o1 vs rs => by
    split at o1
    · rename_i a b
      obtain ⟨v, w, rfl, h1, h2⟩ := repAll2 rs
      exact ⟨v, w, rfl, o1 φ1 _ H1 Ext.refl m1 (((hl.ext e1).set h1).set h2)⟩
    · exact o1.elim⟩
theorem ps_par3D {i j l : Nat} {x y z : Str} {a b c : Expr} {ms : EA} {px py pz pt : Pos} {kt k2 pt2} (hc : X.calm = true) (hN : X.N.Nodup) (hi : X.N[i]? = some x) (hj : X.N[j]? = some y) (hl' : X.N[l]? = some z) (hij : i ≠ j) (hil : i ≠ l) (hjl : j ≠ l)
    (hx : X.env.scope.names.lookup x = some .local) (hy : X.env.scope.names.lookup y = some .local) (hz : X.env.scope.names.lookup z = some .local) (ha : PA X [a, b, c] (liftA X.K W ms))
    (hw : swappedStores [.Tuple [.Name x px, .Name y py, .Name z pz] kt pt] (.Tuple [a, b, c] k2 pt2) X.env = pure (some [x, y, z]) := by rfl)
    (hs : swapsWithSole [.Tuple [.Name x px, .Name y py, .Name z pz] kt pt] (.Tuple [a, b, c] k2 pt2) pos.line X.env = pure false := by rfl) :
    PS X (.Assign [.Tuple [.Name x px, .Name y py, .Name z pz] kt pt] (.Tuple [a, b, c] k2 pt2) pos) (liftS X.K W (S.par3 i j l ms)) :=
  ps_anti (ps_par3 hc hN hi hj hl' hij hil hjl hx hy hz ha hw hs) fun De σ H ⟨φ, ρ, μ, hl, hm, o⟩ => ⟨φ, ρ, μ, hl, hm, (OutS.ofR hl o).imp fun ds μ1 φ1 H1 e1 m1 o1 vs rs => by
    split at o1
    · rename_i a b c
      obtain ⟨v, w, u, rfl, h1, h2, h3⟩ := repAll3 rs
      exact ⟨v, w, u, rfl, o1 φ1 _ H1 Ext.refl m1 ((((hl.ext e1).set h1).set h2).set h3)⟩
    · exact o1.elim⟩
end
/-! ### what is walked: a list, a tuple, a text, the script -/
namespace Q
def anyI (d : D) (μ : Mem) : Res (List D) := match d with
  | .lst xs => .ok xs μ
  | .tup xs => .ok xs μ
  | .str x => .ok (signs x) μ
  | .scr ns => .ok (ns.map .int) μ
  | .ref i => (match μ[i]? with
    | some (.lst xs) => .ok xs (μ.set i (.flst xs))
    | some (.flst xs) => .ok xs μ
    | _ => .bad)
  | _ => .bad
def any (e : EE) : EA := fun ρ μ => (e ρ μ).bind anyI
end Q
theorem it_scr {K : PySem.W.Frag} {φ : Pl} {H : Hp} {a : Addr} {ns : List Int} (q : SqF K H a (ns.map V.int)) : ItOk K φ H (Itl K a) (ns.map D.int) := by
  have w := walk_list (K := K) (a := a) (xs := ns.map V.int)
  rw [List.length_map] at w
  have hl : (ns.map D.int).length = ns.length := List.length_map _
  rw [← hl] at w
  refine ⟨_, _, w, fun φ1 H1 μ1 e _ => ((e.leans (K := K)).fz _ _ q).sq, fun i φ1 H1 μ1 x H2 _ e m y => ?_⟩
  obtain ⟨rfl, hx⟩ := y
  obtain ⟨d, h1, h2⟩ := repAll_get' (repAll_ints (K := K) (φ := φ1) (H := H2) ns) hx
  exact ⟨d, h1, h2, Ext.refl, m⟩
/-- a list of the memory that is locked -/
theorem it_frz {K : PySem.W.Frag} {φ : Pl} {H : Hp} {a : Addr} {od : Obj} {vs : List V} {xs : List D} (q : H a = some (.frz od (.lst vs))) (r : RepAll K φ H vs xs) : ItOk K φ H (Itl K a) xs := by
  have w := walk_list (K := K) (a := a) (xs := vs)
  rw [r.length] at w
  refine ⟨_, _, w, fun φ1 H1 μ1 e _ => .inl (.inr ⟨od, e.1.frzs _ _ _ q⟩), fun i φ1 H1 μ1 x H2 _ e m y => ?_⟩
  obtain ⟨rfl, hx⟩ := y
  obtain ⟨d, h1, h2⟩ := repAll_get' r hx
  exact ⟨d, h1, Rep.mono e.leans _ h2, Ext.refl, m⟩
section
variable {X : Cx} {W : WX} {tg e : Expr} {m : EE}
theorem pi_any (he : PE X e (lift X.K W m)) : PI X tg e (liftI X.K W (Q.any m)) := by
  refine ⟨fun pins s σ H R I ⟨φ, ρ, μ, hl, hm, o⟩ => ?_⟩
  unfold Q.any at o
  cases h : m ρ μ with
  | bad => rw [h] at o; exact o.elim
  | err x μ1 => exact (pi_of he).run pins s σ H R I ⟨φ, ρ, μ, hl, hm, by unfold Q.of; rw [h] at o ⊢; exact o⟩
  | ok d μ1 =>
    rw [h] at o
    cases d with
    | str x => exact (pi_strD he).run pins s σ H R I ⟨φ, ρ, μ, hl, hm, by unfold Q.str; rw [h]; exact o⟩
    | lst x => exact (pi_of he).run pins s σ H R I ⟨φ, ρ, μ, hl, hm, by unfold Q.of; rw [h]; exact o⟩
    | tup x => exact (pi_of he).run pins s σ H R I ⟨φ, ρ, μ, hl, hm, by unfold Q.of; rw [h]; exact o⟩
    | scr ns =>
      have o' : OutG X.K W σ φ H (fun d _ φ' H' => d = .scr ns ∧ ∀ J, ItOk X.K φ' H' J (ns.map D.int) → R J H') (m ρ μ) := by
        rw [h]
        exact fun φ' H' e r => ⟨rfl, o φ' H' e r⟩
      refine use he I hl hm o' fun u s1 v H1 d μ1 φ1 I1 r1 e1 m1 p1 o1 => ?_
      obtain ⟨rfl, o1⟩ := o1
      unfold Rep at p1
      obtain ⟨p, rfl, q⟩ := p1
      cases r1
      obtain ⟨its, rv, pl, hz⟩ := I1.list q.sq
      refine wpAny_pyIter_list pl.isList ?_
      refine ⟨s1.heap.objs.size, [s1.heap.objs.size], _, _, H1, rfl, I1.kept (t' := s1.toks) fun b o e => Heap.get?_push_of_some _ e, turn_list p _, ⟨_, Heap.get?_push_size _ rfl, rfl, rfl⟩, fun b hb => ?_, o1 _ (it_scr q)⟩
      have e : b = s1.heap.objs.size := by simpa using hb
      subst e
      exact I1.fpOk (Nat.le_refl _) (I1.hok.fresh (Nat.le_refl _))
    | ref i =>
      have oB : Dp.Q.anyI (.ref i) μ1 ≠ .bad := fun z => by
        have o : OutG X.K W σ φ H (fun ds _ φ' H' => ∀ J, ItOk X.K φ' H' J ds → R J H') (Dp.Q.anyI (.ref i) μ1) := o
        rw [z] at o; exact o
      have o' : OutG X.K W σ φ H (fun d μ0 φ' H' => (d = .ref i ∧ μ0 = μ1) ∧ ∀ (φ2 : Pl) (H2 : Hp) (μ2 : Mem) (xs : List D), Dp.Q.anyI (.ref i) μ1 = .ok xs μ2 → Ext φ' H' φ2 H2 → Rel X.K φ2 H2 μ2 → ∀ J, ItOk X.K φ2 H2 J xs → R J H2) (m ρ μ) := by
        rw [h]
        intro φ' H' e r
        refine ⟨⟨rfl, rfl⟩, fun φ2 H2 μ2 xs ea e2 r2 => ?_⟩
        have o : OutG X.K W σ φ H (fun ds _ φ' H' => ∀ J, ItOk X.K φ' H' J ds → R J H') (Dp.Q.anyI (.ref i) μ1) := o
        rw [ea] at o
        exact o φ2 H2 (e.trans e2) r2
      refine use he I hl hm o' fun u s1 v H1 d μ0 φ1 I1 r1 e1 m1 p1 o1 => ?_
      obtain ⟨⟨rfl, rfl⟩, oo⟩ := o1
      unfold Rep at p1
      obtain ⟨a, rfl, hi⟩ := p1
      cases r1
      have fin : ∀ {H2 : Hp} {vs : List V} {xs : List D} {od : Obj} {μ2 : Mem}, Inv X pins σ H2 s1 → H2 a = some (.frz od (.lst vs)) → RepAll X.K φ1 H2 vs xs → Dp.Q.anyI (.ref i) μ0 = .ok xs μ2 → Ext φ1 H1 φ1 H2 → Rel X.K φ1 H2 μ2 → wpAny (model X.prog X.w) X.A (pyIter (.ref a)) (fun it s2 => PIE X pins σ tg R it s2) X.xe s1 := by
        intro H2 vs xs od μ2 I2 q rs ea e2 m2
        obtain ⟨its, rv, pl, hz⟩ := I2.list (.inl (.inr ⟨od, q⟩))
        refine wpAny_pyIter_list pl.isList ?_
        refine ⟨s1.heap.objs.size, [s1.heap.objs.size], _, _, H2, rfl, I2.kept (t' := s1.toks) fun b o e => Heap.get?_push_of_some _ e, turn_list a _, ⟨_, Heap.get?_push_size _ rfl, rfl, rfl⟩, fun b hb => ?_, oo φ1 H2 μ2 xs ea e2 m2 _ (it_frz q rs)⟩
        have e : b = s1.heap.objs.size := by simpa using hb
        subst e
        exact I2.fpOk (Nat.le_refl _) (I2.hok.fresh (Nat.le_refl _))
      cases hx : μ0[i]? with
      | none => exact absurd (by unfold Dp.Q.anyI; simp only [hx]) oB
      | some ob =>
        cases ob with
        | lst xs =>
          obtain ⟨vs, h1, rs⟩ := m1.obj i a _ hi hx
          obtain ⟨od, J⟩ := I1.lock h1 True.intro
          obtain ⟨e3, m3⟩ := mem_write (o := .frz od (.lst vs)) (m := .flst xs) m1 hi (by rw [h1]; exact fun _ z => nomatch z) (by rw [h1]; exact fun _ _ z => nomatch z) fun e => ⟨od, vs, upd_same, rs.ext e⟩
          exact fin J upd_same (rs.ext e3) (by unfold Dp.Q.anyI; simp only [hx]) e3 m3
        | flst xs =>
          obtain ⟨od, vs, h1, rs⟩ := m1.obj i a _ hi hx
          exact fin I1 h1 rs (by unfold Dp.Q.anyI; simp only [hx]) Ext.refl m1
        | dct ks xs => exact absurd (by unfold Dp.Q.anyI; simp only [hx]) oB
        | ins C ks xs => exact absurd (by unfold Dp.Q.anyI; simp only [hx]) oB
        | gone => exact absurd (by unfold Dp.Q.anyI; simp only [hx]) oB
    | _ => exact o.elim
end
end Dp

namespace Dp
open PySem PySem.Spec PyProof.Rows L2
/-! ### raise, try -/
/-- a class of errors without own __init__, as the top has written it -/
structure ExcIn (K : PySem.W.Frag) (mg : Str → Option Value) (i : Nat) : Prop where
  ex : ∃ (C : Addr) (bmB : List Value) (B newId initId : String), PySem.W.nsIn K mainGlobals (excName i) = some (some (.ref C)) ∧ mg (excName i) = some (.ref C) ∧ ExcBaseFacts B newId initId bmB ∧ PySem.W.excIn K C bmB newId = true ∧ PySem.W.keepIn K (.ref C) = true ∧
    PySem.W.subIn K (.ref C) (.type "BaseException") = some true ∧ PySem.W.typeIn K (.ref C) = some (.type "type")
/-- whether an error of one class is of another -/
structure ExcSub (K : PySem.W.Frag) (mg : Str → Option Value) (i h : Nat) (b : Bool) : Prop where
  ex : ∃ (C D : Addr), PySem.W.nsIn K mainGlobals (excName i) = some (some (.ref C)) ∧ PySem.W.nsIn K mainGlobals (excName h) = some (some (.ref D)) ∧ mg (excName h) = some (.ref D) ∧ PySem.W.exmOne K (.ref C) (.ref D) = some b
def excSub (c h : Nat) : Bool := h == 0 || c == h
namespace S
def raise (i : Nat) : ES := fun ρ μ => some (.exc ⟨i, none⟩ ρ, μ)
def noX : SR → SR
  | some (.exc _ _, _) => none
  | r => r
def handle (x : Exn) : List (Nat × ES) → ES
  | [] => fun ρ μ => some (.exc x ρ, μ)
  | (h, s) :: r => fun ρ μ => bif excSub x.cls h then noX (s ρ μ) else handle x r ρ μ
def tryM (kn : List Nat) (hs : List (Nat × ES)) (b : ES) : ES := fun ρ μ => match b ρ μ with
  | some (.exc x ρ', μ') => if x.cls ∈ kn then handle x hs ρ' μ' else none
  | r => r
end S
section
variable {X : Cx} {W : WX} {pos : Pos}
theorem ps_raiseD {i : Nat} {x m : Str} {j : Nat} {p p2 pos' : Pos} (hc : X.calm = true) (tk : Takes X W) (F : ExcIn X.K X.mg i) (hx : excName i = x := by rfl) (hg : Gl X x := by rfl) (hdb : (x == ("__debug__" : Str)) = false := by decide) :
    PS X (.Raise (some (.Call (.Name x p) [.Constant (.str m) j p2] [] pos)) none pos') (liftS X.K W (S.raise i)) := by
  obtain ⟨C, bmB, B, newId, initId, h1, h2, h3, h4, h5, h6, h7⟩ := F.ex
  rw [hx] at h1 h2
  exact ps_anti (ps_raise hc tk (pmk_own h3 h4 h2 h5 (raises_own h6 h7) hg hdb)) fun De σ H ⟨φ, ρ, μ, hl, hm, o⟩ => o φ σ H (.ref C) none Ext.refl hm hl ⟨by rw [hx]; exact h1, rfl⟩
inductive HdsD (X : Cx) (kn : List Nat) : List ExceptHandler → List (Nat × ES) → Prop
  | nil : HdsD X kn [] []
  | cons {x : Str} {i : Nat} {s : ES} {b₀ : Stmt} {suite : List Stmt} {np pos' : Pos} {hds : List ExceptHandler} {hs : List (Nat × ES)} (hx : excName i = x) (hg : Gl X x) (hdb : (x == ("__debug__" : Str)) = false) (hn : kn ≠ [])
      (sub : ∀ c ∈ kn, ExcSub X.K X.mg c i (excSub c i))
      (hsu : ∀ (a : Addr) (pn : List (Addr × Obj)), PSs (X.suite a pn) (b₀ :: suite) (liftS X.K (fun _ _ _ _ => False) s)) (r : HdsD X kn hds hs) :
      HdsD X kn (.ExceptHandler (some (.Name x np)) none (b₀ :: suite) pos' :: hds) ((i, s) :: hs)
theorem out_noX {K : PySem.W.Frag} {W W' : WX} {De : Ends} {φ : Pl} {H : Hp} {r : SR} (h : OutS K W De φ H (S.noX r)) : OutS K W' De φ H r := by
  match r, h with
  | some (.next ρ, μ'), h => exact h
  | some (.brk ρ, μ'), h => exact h
  | some (.cont ρ, μ'), h => exact h
  | some (.ret d, μ'), h => exact h
  | some (.exc x ρ, μ'), h => exact h.elim
  | none, h => exact h.elim
theorem hds_ok {kn : List Nat} {hds : List ExceptHandler} {hs : List (Nat × ES)} (h : HdsD X kn hds hs) : ∃ l, HdsOk X hds l ∧ ∀ (De : Ends) (x : Exn) (ρ : Dp.Loc) (μ : Mem) (φ : Pl) (H : Hp), x.cls ∈ kn → OutS X.K W De φ H (S.handle x hs ρ μ) →
    ∀ φ' σ' H' cls dx, Ext φ H φ' H' → Rel X.K φ' H' μ → RepL X.K φ' H' σ' ρ → XRep X.K φ' H' x cls dx → wMany X.K W De l cls dx σ' H' := by
  induction h with
  | nil => exact ⟨[], .nil, fun De x ρ μ φ H _ o φ' σ' H' cls dx e r l xr => o φ' σ' H' cls dx e r l xr⟩
  | @cons x i s b₀ suite np pos' hds hs hx hg hdb hn sub hsu r ih =>
    obtain ⟨l, h1, h2⟩ := ih
    obtain ⟨c0, hc0⟩ := List.exists_mem_of_ne_nil _ hn
    obtain ⟨_, D, _, q2, q3, _⟩ := (sub c0 hc0).ex
    refine ⟨(.ref D, fun _ _ _ => liftS X.K (fun _ _ _ _ => False) s) :: l, .cons ⟨hg, hdb, .inl (by rw [← hx]; exact q3)⟩ (fun a oe cls d pn _ _ => hsu a _) h1, fun De y ρ μ φ H hy o φ' σ' H' cls dx e m rl xr => ?_⟩
    obtain ⟨C', D', p1, p2, p3, p4⟩ := (sub y.cls hy).ex
    have ed : D' = D := by rw [p3] at q3; cases q3; rfl
    subst ed
    have ec : cls = .ref C' := by
      have := xr.1
      rw [p1] at this; cases this; rfl
    subst ec
    refine ⟨_, p4, fun hb a _ => ⟨φ', ρ, μ, rl, m, ?_⟩, fun hb => ?_⟩
    · have o' : OutS X.K W De φ H (bif excSub y.cls i then S.noX (s ρ μ) else S.handle y hs ρ μ) := o
      rw [hb] at o'
      exact OutS.ext e (out_noX o')
    · have o' : OutS X.K W De φ H (bif excSub y.cls i then S.noX (s ρ μ) else S.handle y hs ρ μ) := o
      rw [hb] at o'
      exact h2 De y ρ μ φ H hy o' φ' σ' H' _ dx e m rl xr
theorem ps_tryD {kn : List Nat} {body : List Stmt} {b : ES} {h₀ : ExceptHandler} {hds : List ExceptHandler} {hs : List (Nat × ES)} (hst : X.stack = X.env :: X.outer) (hf : X.env.frame = some X.env.locals) (tk : Takes X W)
    (hb : ∀ (W : WX) (pn : List (Addr × Obj)) (xe : Value → Shared → Prop), Takes (X.tr pn xe) W → PassesOwn (model X.prog X.w) X.A X.env xe → PSs (X.tr pn xe) body (liftS X.K W b))
    (hh : HdsD X kn (h₀ :: hds) hs) : PS X (.Try body (h₀ :: hds) [] [] pos) (liftS X.K W (S.tryM kn hs b)) := by
  obtain ⟨l, h1, h2⟩ := hds_ok (W := W) hh
  refine ps_anti (ps_try_many hst hf tk hb h1) fun De σ H ⟨φ, ρ, μ, hl, hm, o⟩ => ⟨φ, ρ, μ, hl, hm, ?_⟩
  unfold S.tryM at o
  revert o
  match b ρ μ with
  | some (.next ρ', μ') => exact fun o => o
  | some (.brk ρ', μ') => exact fun o => o
  | some (.cont ρ', μ') => exact fun o => o
  | some (.ret d, μ') => exact fun o => o
  | none => exact fun o => o
  | some (.exc x ρ', μ') =>
    intro o
    dsimp only at o
    split at o
    · rename_i hk
      intro φ' σ' H' cls dx e r l' xr
      exact h2 De x ρ' μ' φ H hk o φ' σ' H' cls dx e r l' xr
    · exact o.elim
end
/-! ### the head: what the top has written of the classes -/
theorem ExcIn.mk_ {K : PySem.W.Frag} {h : Heap} {mg : Str → Option Value} {i : Nat} {x : Str} {C : Addr} (X : K.In h) (G : h.Ns mainGlobals mg) (hx : excName i = x) (a : PySem.W.nsIn K mainGlobals x = some (some (.ref C)))
    (xF : PySem.W.excIn K C [.type "ValueError", .type "Exception", .type "BaseException", .type "object"] "ValueError.__new__" = true) (kF : PySem.W.keepIn K (.ref C) = true) (bF : PySem.W.subIn K (.ref C) (.type "BaseException") = some true) (tF : PySem.W.typeIn K (.ref C) = some (.type "type")) : ExcIn K mg i :=
  ⟨C, _, _, _, _, by rw [hx]; exact a, by rw [hx]; exact PySem.W.mg_of X G a, PySem.F.excBase_ValueError, xF, kF, bF, tF⟩
theorem ExcSub.mk_ {K : PySem.W.Frag} {h : Heap} {mg : Str → Option Value} {i j : Nat} {x y : Str} {C D : Addr} {b : Bool} (X : K.In h) (G : h.Ns mainGlobals mg) (hx : excName i = x) (hy : excName j = y) (a : PySem.W.nsIn K mainGlobals x = some (some (.ref C))) (a2 : PySem.W.nsIn K mainGlobals y = some (some (.ref D)))
    (h1 : PySem.W.subIn K (.ref D) (.type "BaseException") = some true) (h2 : PySem.W.isClsIn K D = true) (h3 : PySem.W.typeIn K (.ref D) = some (.type "type")) (h4 : PySem.W.subIn K (.ref C) (.ref D) = some b) : ExcSub K mg i j b := by
  refine ⟨C, D, by rw [hx]; exact a, by rw [hy]; exact a2, by rw [hy]; exact PySem.W.mg_of X G a2, ?_⟩
  have e1 : (PySem.W.subIn K (.ref D) (.type "BaseException") == some true) = true := by rw [h1] <;> rfl
  have e2 : ((PySem.W.clsIn K D).isSome && PySem.W.typeIn K (.ref D) == some (.type "type")) = true := by
    have h2' : (PySem.W.clsIn K D).isSome = true := h2
    rw [h2', h3] <;> rfl
  show (if (PySem.W.subIn K (.ref D) (.type "BaseException") == some true) = true then (if ((PySem.W.clsIn K D).isSome && PySem.W.typeIn K (.ref D) == some (.type "type")) = true then PySem.W.subIn K (.ref C) (.ref D) else none) else none) = some b
  rw [if_pos e1, if_pos e2]
  exact h4
theorem with_exc {K : PySem.W.Frag} {h : Heap} {mg : Str → Option Value} {P : Prop} (i : Nat) (x : Str) {C : Addr} (X : K.In h) (G : h.Ns mainGlobals mg) (a : PySem.W.nsIn K mainGlobals x = some (some (.ref C)))
    (xF : PySem.W.excIn K C [.type "ValueError", .type "Exception", .type "BaseException", .type "object"] "ValueError.__new__" = true) (kF : PySem.W.keepIn K (.ref C) = true) (bF : PySem.W.subIn K (.ref C) (.type "BaseException") = some true) (tF : PySem.W.typeIn K (.ref C) = some (.type "type")) (hx : excName i = x) (cont : ExcIn K mg i → P) : P :=
  cont (.mk_ X G hx a xF kF bF tF)
theorem with_sub {K : PySem.W.Frag} {h : Heap} {mg : Str → Option Value} {P : Prop} (i j : Nat) (x y : Str) (b : Bool) {C D : Addr} (X : K.In h) (G : h.Ns mainGlobals mg) (a : PySem.W.nsIn K mainGlobals x = some (some (.ref C))) (a2 : PySem.W.nsIn K mainGlobals y = some (some (.ref D)))
    (h1 : PySem.W.subIn K (.ref D) (.type "BaseException") = some true) (h2 : PySem.W.isClsIn K D = true) (h3 : PySem.W.typeIn K (.ref D) = some (.type "type")) (h4 : PySem.W.subIn K (.ref C) (.ref D) = some b) (hx : excName i = x) (hy : excName j = y) (cont : ExcSub K mg i j b → P) : P :=
  cont (.mk_ X G hx hy a a2 h1 h2 h3 h4)
end Dp
namespace Dp
theorem fa_nil {P : Nat → Prop} : ∀ c ∈ ([] : List Nat), P c := fun _ h => nomatch h
theorem fa_cons {P : Nat → Prop} {a : Nat} {l : List Nat} (h : P a) (t : ∀ c ∈ l, P c) : ∀ c ∈ a :: l, P c := fun c hc => by
  rcases List.mem_cons.mp hc with e | e
  · rw [e]; exact h
  · exact t c e
end Dp

namespace Dp
open PySem PySem.Spec PyProof.Rows L2 HT
/-! ### x[::-1] -/
section
variable {prog : Program} {w : World} {A : Around} {E : Value → Shared → Prop} {s : Shared}
theorem adjust_rev (n : Nat) : Builtin.Slice.sliceAdjust none none (-1) (n : Int) = ((n : Int) - 1, -1) := by
  have h1 : ((-1 : Int) < 0) := by decide
  unfold Builtin.Slice.sliceAdjust
  simp only [h1, if_true]
theorem places_rev (n : Nat) : Builtin.Slice.slicePlaces ((n : Int) - 1) (-1) (-1) = n := by
  unfold Builtin.Slice.slicePlaces
  have h1 : ¬ ((-1 : Int) > 0) := by decide
  simp only [h1, if_false]
  rw [show (-(-1 : Int)) = 1 by decide]
  simp only [Int.ediv_one]
  split <;> omega
theorem sliceApplied_rev {sl : Addr} {vs : Value} {n : Nat} {Q : Int × Int × Nat → Shared → Prop} (hs : s.heap.IsSliceOf sl .none .none vs) (ps : IsPart vs (some (-1)))
    (h : Q ((n : Int) - 1, -1, n) s) : wpAny (model prog w) A (Builtin.Slice.sliceApplied (.ref sl) (pure (n : Int))) Q E s := by
  obtain ⟨os, hos, hcs, hds⟩ := id hs
  unfold Builtin.Slice.sliceApplied Builtin.Slice.sliceFields
  refine wpAny_bind (wpAny_bind (wpAny_field hos hds (x := .none) rfl (wpAny_bind (wpAny_field hos hds (x := .none) rfl (wpAny_bind (wpAny_field hos hds (x := vs) rfl (wpAny_pure ?_)))))))
  refine wpAny_bind (slicePart_ ps ?_)
  show wpAny _ _ (if ((-1 : Int) == 0) = true then _ else _) _ _ s
  rw [if_neg (by decide)]
  refine wpAny_bind (slicePart_ .none (wpAny_bind (slicePart_ .none (wpAny_bind (wpAny_pure ?_)))))
  show wpAny _ _ (match Builtin.Slice.sliceAdjust none none (-1) (n : Int) with | (lo, hi) => pure (lo, (-1 : Int), Builtin.Slice.slicePlaces lo hi (-1))) _ _ s
  rw [adjust_rev n]
  show wpAny _ _ (pure ((n : Int) - 1, (-1 : Int), Builtin.Slice.slicePlaces ((n : Int) - 1) (-1) (-1))) _ _ s
  rw [places_rev]
  exact wpAny_pure h
theorem fm_congr {α β : Type} {f g : α → Option β} : ∀ {l : List α}, (∀ x ∈ l, f x = g x) → l.filterMap f = l.filterMap g
  | [], _ => rfl
  | a :: l, h => by rw [List.filterMap_cons, List.filterMap_cons, h a List.mem_cons_self, fm_congr fun x hx => h x (List.mem_cons_of_mem _ hx)]
theorem pick_rev (xs : Array Value) : ((List.range xs.size).filterMap fun (m : Nat) => xs[((xs.size : Int) - 1 + (m : Int) * -1).toNat]?).toArray = xs.toList.reverse.toArray := by
  have e : (List.range xs.size).filterMap (fun (m : Nat) => xs[((xs.size : Int) - 1 + (m : Int) * -1).toNat]?) = (List.range xs.size).filterMap ((fun i => xs[i]?) ∘ fun k => xs.size - 1 - k) := by
    apply fm_congr
    intro m hm
    have := List.mem_range.mp hm
    show xs[((xs.size : Int) - 1 + (m : Int) * -1).toNat]? = xs[xs.size - 1 - m]?
    congr 1
    omega
  rw [e, ← List.filterMap_map, PySem.W.krv_range, List.filterMap_reverse]
  have := PySem.W.krv_all xs
  rw [this]
theorem getItem_tuple_rev {t sl : Addr} {items : Array Value} {vs : Value} {Q : Value → Shared → Prop} (ht : IsTup s.heap t items) (hs : s.heap.IsSliceOf sl .none .none vs) (ps : IsPart vs (some (-1)))
    (h : Q (.ref s.heap.objs.size) { s with heap := s.heap.push { cls := .type "tuple", data := .seq (items.toList.reverse).toArray } })
    (hsz : items.size ≤ sizeLine) : wpAny (model prog w) A (getItem (.ref t) (.ref sl)) Q E s := by
  have htake : sizeOk (.seq (items.toList.reverse).toArray) := by
    show (items.toList.reverse).toArray.size ≤ sizeLine
    rw [List.size_toArray, List.length_reverse, Array.length_toList]
    exact hsz
  obtain ⟨os, hos, hcs, hds⟩ := id hs
  have hTs : s.TypeIs (.ref sl) "slice" := ⟨os, hos, hcs⟩
  unfold getItem
  try with_reducible refine wpAny_holding ?_
  first | refine wpAny_bind (wpAny_pure ?_) | skip
  refine wpAny_bind (wpAny_sequenceKey ht.typeIs (by decide) ?_)
  refine wpAny_bind (wpAny_callSpecial?_slot (name := Str.ofString "__getitem__") ht.typeIs PyProof.Rows.slot_tuple_getitem
    (wpAny_call_entry PyProof.Rows.slot_tuple_getitem ht.typeIs entry_tuple_getitem ?_ (args_tuple_getitem _ _)))
  show wpAny _ _ (Builtin.Tuple.tupleItemsOf (.ref t) >>= _) _ _ s
  refine wpAny_bind (tupleItemsOf_ ht ?_)
  refine wpAny_bind (wpAny_typeOf hTs ?_)
  rw [if_pos (by decide)]
  refine wpAny_bind (sliceApplied_rev hs ps ?_)
  have hno : ¬ ((((items.size : Int) - 1 == 0) && (-1 : Int) == 1 && (items.size == items.size)) = true) := by
    intro q
    rw [Bool.and_eq_true, Bool.and_eq_true] at q
    have := q.1.2
    revert this
    decide
  show wpAny _ _ (if ((((items.size : Int) - 1 == 0) && (-1 : Int) == 1 && (items.size == items.size)) = true) then _ else _) _ _ s
  rw [if_neg hno, pick_rev]
  first
    | exact wpAny_bind (m := Builtin.Tuple.tupleExact _) (wpAny_newObj_type (wpAny_pure ⟨_, rfl, wpAny_pure h⟩) htake)
    | exact wpAny_bind (m := Builtin.Tuple.tupleExact _) (wpAny_newObj_type (wpAny_bind (wpAny_pure (wpAny_pure ⟨_, rfl, wpAny_pure h⟩))) htake)
    | exact wpAny_bind (wpAny_bind (m := Builtin.Tuple.tupleExact _) (wpAny_newObj_type (wpAny_pure (wpAny_pure ⟨_, rfl, wpAny_pure h⟩)) htake))
    | exact wpAny_bind (wpAny_bind (m := Builtin.Tuple.tupleExact _) (wpAny_newObj_type (wpAny_pure ⟨_, rfl, wpAny_pure h⟩) htake))
end
def Op.rev (d : D) (μ : Mem) : Res D := match d with
  | .tup xs => .ok (.tup xs.reverse) μ
  | .lst xs => .ok (.lst xs.reverse) μ
  | _ => .bad
section
variable {X : Cx} {W : WX} {a : Expr} {ma : EE}
theorem se_rev {k : Nat} {p1 p2 p3 pos : Pos} (ha : PE X a (lift X.K W ma)) : PE X (.Subscript a (.Slice none none (some (.UnaryOp .USub (.Constant (.int 1) k p1) p2)) p3) pos) (lift X.K W (E.op1 Op.rev ma)) := by
  refine ⟨fun pins s σ H Q I ⟨φ, ρ, μ, hl, hm, o⟩ => Subscript_ (use ha I hl hm (OutG.bind o) fun v s1 x H1 dx μ1 φ1 I1 r1 e1 m1 px o1 => ?_)⟩
  have hst : PO X (some (.UnaryOp .USub (.Constant (.int 1) k p1) p2)) (tPart (tUn (rU fun i => .int (-i)) (tC (.int 1)))) := po_some (pe_un un_neg pe_int)
  refine wpAny_Slice (thn (po_none.run pins s1 σ H1 (fun o H2 => o = none ∧ H2 = H1) I1 ⟨rfl, rfl⟩) fun vl s2 ⟨l, H2, I2, pl, el, e2⟩ => ?_)
  subst el e2
  refine thn (po_none.run pins s2 σ H2 (fun o H3 => o = none ∧ H3 = H2) I2 ⟨rfl, rfl⟩) fun vu s3 ⟨u, H3, I3, pu, eu, e3⟩ => ?_
  subst eu e3
  refine thn (hst.run pins s3 σ H3 (fun o H4 => o = some (-1) ∧ H4 = H3) I3 ⟨1, rfl, -1, rfl, rfl, rfl⟩) fun vs s4 ⟨o', H4, I4, ps, eo, e4⟩ => ?_
  subst eo e4
  cases pl
  cases pu
  have I5 : Inv X pins σ H4 { s4 with heap := s4.heap.push { cls := .type "slice", data := .fields #[.none, .none, vs] } } := I4.kept (t' := s4.toks) fun b ob q => Heap.get?_push_of_some _ q
  unfold Op.rev at o1
  split at o1
  · rename_i xs
    obtain ⟨p, ws, ex, q, rs⟩ := rep_tup' px
    subst ex
    cases r1
    obtain ⟨its, r, ht, hz⟩ := I5.tuple q
    have hlen := r.length
    show wpAny (model X.prog X.w) X.A (subscriptTail a (.Slice none none (some (.UnaryOp .USub (.Constant (.int 1) k p1) p2)) p3) (.ref p) (.ref s4.heap.objs.size)) (EP X pins σ Q) X.xe { s4 with heap := s4.heap.push { cls := .type "slice", data := .fields #[.none, .none, vs] } }
    refine tail_any (ops := [.ref p, .ref s4.heap.objs.size]) ht.typeIs PyProof.Rows.slot_tuple_getitem.lookup ?_ (by with_unfolding_all rfl)
    refine getItem_tuple_rev ht (Heap.IsSliceOf.new _ .none .none vs) ps ?_ (by rw [List.size_toArray]; omega)
    exact new_frz I5 (us := its.reverse) (by simp) (by rw [List.length_reverse]; exact hz) r.reverse fun p o hp hd => o1 _ _ (Ext.fresh hp) (m1.fresh hp) _ (rep_tupF upd_same hd (rs.reverse.ext (Ext.fresh hp)))
  · rename_i xs
    have px' := px
    unfold Rep at px'
    obtain ⟨p, ws, ex, ⟨q, _⟩, rs⟩ := px'
    subst ex
    cases r1
    obtain ⟨its, r, ht, hz⟩ := I5.list (.of q)
    have hlen := r.length
    show wpAny (model X.prog X.w) X.A (subscriptTail a (.Slice none none (some (.UnaryOp .USub (.Constant (.int 1) k p1) p2)) p3) (.ref p) (.ref s4.heap.objs.size)) (EP X pins σ Q) X.xe { s4 with heap := s4.heap.push { cls := .type "slice", data := .fields #[.none, .none, vs] } }
    refine tail_any (ops := [.ref p, .ref s4.heap.objs.size]) ht.isList.typeIs (PySem.slot_list_getitem.lookup) ?_ (by with_unfolding_all rfl)
    refine wpAny_getItem_list_slice ht.isList (Heap.IsSliceOf.new _ .none .none vs) .none .none ps (by decide) ?_ (by rw [List.size_toArray]; omega)
    rw [PySem.W.krv_pick]
    have hp := I5.hok.fresh (Nat.le_refl _)
    refine ⟨.ref _, _, I5.laid (t' := s4.toks) (o := .lst ws.reverse) (fun b ob q => Heap.get?_push_of_some _ q) (Nat.le_refl _) ?_, rfl, o1 _ _ (Ext.fresh hp) (m1.fresh hp) _ (rep_lst upd_same (m1.out hp) (rs.reverse.ext (Ext.fresh hp)))⟩
    exact ⟨by rw [List.length_reverse]; exact hz, _, 0, r.reverse, Heap.get?_push_size _ rfl⟩
  · exact o1.elim
end
end Dp

namespace Dp
open PySem PySem.Spec PyProof.Rows L2
/-! ### a def that is handed the whole memory; its own objects are forgotten behind it -/
mutual
def D.und (n : Nat) : D → Bool
  | .ref i => decide (i < n)
  | .tup xs => undAll n xs
  | .lst xs => undAll n xs
  | .dct _ xs => undAll n xs
  | .adr _ => true
  | .ty _ => true
  | .scr _ => true
  | .non => true
  | .bl _ => true
  | .int _ => true
  | .str _ => true
def undAll (n : Nat) : List D → Bool
  | [] => true
  | x :: xs => x.und n && undAll n xs
end
def MO.und (n : Nat) : MO → Bool
  | .lst xs => undAll n xs
  | .dct _ xs => undAll n xs
  | .ins _ _ xs => undAll n xs
  | .gone => true
  | .flst xs => undAll n xs
def truncOut (mb : Bool) (n : Nat) (μ' : Mem) (d : D) : Res D :=
  if d.und n = true then .ok d (μ'.take n) else match d with
    | .ref j => match μ'[j]? with
      | some o => if o.und n = true then (bif mb then .ok (.ref n) (μ'.take n ++ [o]) else match o with
        | .lst xs => .ok (.lst xs) (μ'.take n)
        | _ => .bad) else .bad
      | none => .bad
    | _ => .bad
def trunc (mb : Bool) (fn : List D → Mem → Res D) : List D → Mem → Res D := fun ds μ => match fn ds μ with
  | .ok d μ' => if μ.length ≤ μ'.length ∧ (μ'.take μ.length).all (MO.und μ.length) = true then truncOut mb μ.length μ' d else .bad
  | .err x μ' => if μ.length ≤ μ'.length ∧ (μ'.take μ.length).all (MO.und μ.length) = true ∧ x.nr = true then .err x (μ'.take μ.length) else .bad
  | .bad => .bad
section
variable {K : PySem.W.Frag} {φ φ' : Pl} {H H' : Hp} {n : Nat}
structure BHolds (n : Nat) (φ φ' : Pl) : Prop where
  pl : ∀ (i : Nat) (a : Addr), i < n → φ.pl[i]? = some a → φ'.pl[i]? = some a
  out : ∀ p, φ.out p → (∃ u, H' p = some u) → φ'.out p
mutual
theorem Rep.below_mono (l : @BHolds H' n φ φ') : ∀ (d : D) {v : V}, d.und n = true → Rep K φ H' v d → Rep K φ' H' v d
  | .non, _, _, h => by unfold Rep at h ⊢; exact h
  | .bl _, _, _, h => by unfold Rep at h ⊢; exact h
  | .int _, _, _, h => by unfold Rep at h ⊢; exact h
  | .str _, _, _, h => by unfold Rep at h ⊢; exact h
  | .tup ds, _, b, h => by
    unfold Rep at h ⊢
    obtain ⟨p, vs, e, q, r⟩ := h
    exact ⟨p, vs, e, q, RepAll.below_mono l ds (by rw [D.und] at b; exact b) r⟩
  | .lst ds, _, b, h => by
    unfold Rep at h ⊢
    obtain ⟨p, vs, e, ⟨q, m⟩, r⟩ := h
    exact ⟨p, vs, e, ⟨q, l.out p m ⟨_, q⟩⟩, RepAll.below_mono l ds (by rw [D.und] at b; exact b) r⟩
  | .dct ks ds, _, b, h => by
    unfold Rep at h ⊢
    obtain ⟨p, vs, e, ⟨q, z⟩, r⟩ := h
    exact ⟨p, vs, e, ⟨q, z⟩, RepAll.below_mono l ds (by rw [D.und] at b; exact b) r⟩
  | .ref i, _, b, h => by
    unfold Rep at h ⊢
    obtain ⟨a, e, q⟩ := h
    rw [D.und, decide_eq_true_eq] at b
    exact ⟨a, e, l.pl i a b q⟩
  | .adr _, _, _, h => by unfold Rep at h ⊢; exact h
  | .ty _, _, _, h => by unfold Rep at h ⊢; exact h
  | .scr ns, _, _, h => by unfold Rep at h ⊢; exact h
theorem RepAll.below_mono (l : @BHolds H' n φ φ') : ∀ (ds : List D) {vs : List V}, undAll n ds = true → RepAll K φ H' vs ds → RepAll K φ' H' vs ds
  | [], _, _, h => by unfold RepAll at h ⊢; exact h
  | d :: ds, _, b, h => by
    unfold RepAll at h ⊢
    obtain ⟨v, r, e, h1, h2⟩ := h
    rw [undAll, Bool.and_eq_true] at b
    exact ⟨v, r, e, Rep.below_mono l d b.1 h1, RepAll.below_mono l ds b.2 h2⟩
end
theorem ObjRep.below_mono (l : @BHolds H' n φ φ') {a : Addr} {o : MO} (b : o.und n = true) (h : ObjRep K φ H' a o) : ObjRep K φ' H' a o := by
  cases o with
  | lst xs => obtain ⟨vs, q, r⟩ := h; exact ⟨vs, q, r.below_mono l _ b⟩
  | dct ks xs => obtain ⟨vs, q, z, r⟩ := h; exact ⟨vs, q, z, r.below_mono l _ b⟩
  | ins C ks xs => obtain ⟨dx, vs, q, z, r⟩ := h; exact ⟨dx, vs, q, z, r.below_mono l _ b⟩
  | gone => exact h
  | flst xs => obtain ⟨od, vs, q, r⟩ := h; exact ⟨od, vs, q, r.below_mono l _ b⟩
theorem nr_below {n : Nat} : ∀ (d : D), d.nr = true → True := fun _ _ => trivial
end
section
variable {K : PySem.W.Frag}
theorem trunc_ok {np : Nat} {mb : Bool} {fn : List D → Mem → Res D} : ∀ vs H Q E, spOf K np (trunc mb fn) vs H Q E → spOf K np fn vs H Q E := by
  rintro vs H Q E ⟨φ, μ, ds, hlen, rs, hm, o⟩
  refine ⟨φ, μ, ds, hlen, rs, hm, ?_⟩
  unfold trunc at o
  have hφ : φ.pl.length = μ.length := hm.len
  -- what the memory behind tells of the places ahead
  have back : ∀ {φ' : Pl} {H' : Hp} {μ' : Mem}, Ext φ H φ' H' → Rel K φ' H' μ' → μ.length ≤ μ'.length → (μ'.take μ.length).all (MO.und μ.length) = true →
      Ext φ H φ H' ∧ @BHolds H' μ.length φ' φ ∧ Rel K φ H' (μ'.take μ.length) := fun {φ' H' μ'} e r hl hb => by
    have eav := e.av
    have hbh : @BHolds H' μ.length φ' φ := by
      refine ⟨fun i a hi q => ?_, fun p m _ => ⟨fun z => m.1 ?_, fun z => m.2 (by rw [eav]; exact z)⟩⟩
      · have hi' : i < φ.pl.length := by omega
        have q2 := e.get (List.getElem?_eq_getElem hi')
        rw [q] at q2
        rw [List.getElem?_eq_getElem hi']
        exact q2.symm
      · obtain ⟨t, et⟩ := e.pre
        rw [et]
        exact List.mem_append_left _ z
    refine ⟨⟨⟨[], by simp⟩, e.keep, e.tups, e.frzs, fun b q n => absurd q n⟩, hbh, ?_⟩
    refine ⟨by rw [List.length_take]; omega, hm.nd, fun b hb' => ⟨(hm.av b hb').1, (r.av b (by rw [eav]; exact hb')).2⟩, fun i a ob e1 e2 => ?_⟩
    have hi : i < μ.length := by
      have := (List.getElem?_eq_some_iff.mp e1).1
      omega
    have hob : ob.und μ.length = true := List.all_eq_true.mp hb _ (List.mem_of_getElem? e2)
    rw [List.getElem?_take_of_lt hi] at e2
    exact (r.obj i a ob (e.get e1) e2).below_mono hbh hob
  cases hfn : fn ds μ with
  | bad => rw [hfn] at o; exact o.elim
  | err x μ' =>
    rw [hfn] at o
    dsimp only at o
    split at o
    rotate_left
    · exact o.elim
    rename_i hc
    intro φ' H' cls dx e r xr
    obtain ⟨e0, hh, r0⟩ := back e r hc.1 hc.2.1
    refine o φ H' cls dx e0 r0 ⟨xr.1, ?_⟩
    have x2 := xr.2
    have xn := hc.2.2
    unfold Exn.nr at xn
    cases hx : x.fld with
    | none => rw [hx] at x2; exact x2
    | some fs =>
      rw [hx] at x2 xn
      obtain ⟨a, vs, h2, h3, h4⟩ := x2
      have hl : Holds K φ' H' φ H' := ⟨fun _ _ h => h, fun p u h n => ⟨h, hh.out p n ⟨u, h⟩⟩, fun _ _ h => h, fun _ h => h, fun _ _ h => h⟩
      exact ⟨a, vs, h2, h3, h4.nr_mono hl _ xn⟩
  | ok d μ' =>
    rw [hfn] at o
    dsimp only at o
    split at o
    rotate_left
    · exact o.elim
    rename_i hc
    intro φ' H' e r v rv
    obtain ⟨e0, hh, r0⟩ := back e r hc.1 hc.2
    unfold truncOut at o
    split at o
    · rename_i hn
      exact o φ H' e0 r0 v (Rep.below_mono hh d hn rv)
    · rename_i hnb
      split at o
      · rename_i j
        unfold Rep at rv
        obtain ⟨a, rfl, ha⟩ := rv
        rw [D.und, decide_eq_true_eq] at hnb
        have hnew : a ∉ φ.pl := fun z => by
          obtain ⟨j', hj', ej⟩ := List.mem_iff_getElem.mp z
          have q1 := e.get (List.getElem?_eq_some_iff.mpr ⟨hj', ej⟩)
          obtain ⟨h1, q1⟩ := List.getElem?_eq_some_iff.mp q1
          obtain ⟨h2, q2⟩ := List.getElem?_eq_some_iff.mp ha
          have : j = j' := (List.getElem_inj r.nd).mp (q2.trans q1.symm)
          omega
        have hn0 : H a = none := e.new a (List.mem_of_getElem? ha) hnew
        have hout : φ.out a := hm.out hn0
        have hap : a ∈ φ'.pl := List.mem_of_getElem? ha
        split at o
        · rename_i ob hob
          split at o
          · rename_i hfl
            cases mb with
            | true =>
              have e1 : Ext φ H (φ.push a) H' := ⟨⟨[a], rfl⟩, e0.keep, e0.tups, e0.frzs, fun b q n => by
                rcases List.mem_append.mp q with q | q
                · exact absurd q n
                · have : b = a := by simpa using q
                  rw [this]; exact hn0⟩
              have hl2 : @BHolds H' μ.length φ' (φ.push a) := ⟨fun i b hi q => by
                have := hh.pl i b hi q
                show (φ.pl ++ [a])[i]? = some b
                rw [List.getElem?_append_left (by omega)]; exact this, fun p n u => ⟨fun z => by
                rcases List.mem_append.mp z with z | z
                · exact (hh.out p n u).1 z
                · have : p = a := by simpa using z
                  rw [this] at n; exact n.1 hap, (hh.out p n u).2⟩⟩
              refine o (φ.push a) H' e1 ⟨by simp [r0.len], ?_, fun b hb => ⟨fun z => ?_, (r0.av b hb).2⟩, fun i b u e1' e2 => ?_⟩ _ ?_
              · exact List.nodup_append.mpr ⟨r0.nd, by simp, fun x hx y hy => by
                  have ey : y = a := by simpa using hy
                  rw [ey]; intro z; exact hout.1 (by rw [← z]; exact hx)⟩
              · rcases List.mem_append.mp z with z | z
                · exact (r0.av b hb).1 z
                · have : b = a := by simpa using z
                  rw [this] at hb; exact hout.2 hb
              · have e1' : (φ.pl ++ [a])[i]? = some b := e1'
                by_cases hi' : i < φ.pl.length
                · rw [List.getElem?_append_left hi'] at e1'
                  rw [List.getElem?_append_left (by rw [← r0.len]; exact hi')] at e2
                  have hob' : u.und μ.length = true := List.all_eq_true.mp hc.2 _ (List.mem_of_getElem? e2)
                  rw [List.getElem?_take_of_lt (by omega)] at e2
                  exact (r.obj i b u (e.get e1') e2).below_mono hl2 hob'
                · rw [List.getElem?_append_right (Nat.le_of_not_lt hi')] at e1'
                  rw [List.getElem?_append_right (by rw [← r0.len]; exact Nat.le_of_not_lt hi'), ← r0.len] at e2
                  have z : i - φ.pl.length = 0 := by
                    cases q : i - φ.pl.length with
                    | zero => rfl
                    | succ n => rw [q] at e1'; simp at e1'
                  rw [z] at e1' e2
                  simp at e1' e2
                  subst e1'; subst e2
                  exact (r.obj j a ob ha hob).below_mono hl2 hfl
              · unfold Rep
                exact ⟨a, rfl, by rw [← hφ]; simp⟩
            | false =>
              have hob' := (r.obj j a ob ha hob).below_mono hh hfl
              cases ob with
              | lst xs =>
                obtain ⟨ws, h1, h2⟩ := hob'
                exact o φ H' e0 r0 _ (rep_lst h1 hout h2)
              | dct ks xs => exact o.elim
              | ins C ks xs => exact o.elim
              | gone => exact o.elim
              | flst xs => exact o.elim
          · exact o.elim
        · exact o.elim
      · exact o.elim
end
theorem fnT {P : Program} {w : World} {K : PySem.W.Frag} {mg : Str → Option Value} {base : Heap} {k : Nat} {f : Addr} {fd : FuncData} {ps : List Str} {np : Nat} {fn : List D → Mem → Res D} (mb : Bool) (F : FnG P w K mg base (L2.CX P w) k f fd ps (spOf K np fn)) :
    FnG P w K mg base (L2.CX P w) k f fd ps (spOf K np (trunc mb fn)) := F.imp fun vs H Q E h => trunc_ok vs H Q E h
end Dp
namespace Dp
open PySem PySem.Spec PyProof.Rows L2
/-- how a def is handed its memory: 0 its arguments' objects alone, 1 all and forgets its own, 2 all -/
def wrap (m : Nat) (mb : Bool) (fn : List D → Mem → Res D) : List D → Mem → Res D := match m with
  | 0 => proto mb fn
  | 1 => trunc mb fn
  | _ => fn
theorem fnW {P : Program} {w : World} {K : PySem.W.Frag} {mg : Str → Option Value} {base : Heap} {k : Nat} {f : Addr} {fd : FuncData} {ps : List Str} {np : Nat} {fn : List D → Mem → Res D} (m : Nat) (mb : Bool) (F : FnG P w K mg base (L2.CX P w) k f fd ps (spOf K np fn)) :
    FnG P w K mg base (L2.CX P w) k f fd ps (spOf K np (wrap m mb fn)) := match m with
  | 0 => fnP mb F
  | 1 => fnT mb F
  | _ + 2 => F
end Dp

namespace Dp
open PySem PySem.Spec PyProof.Rows L2
/-! ### sorted(x), x a list or a dict of int keys -/
def F.sortedU (ds : List D) (μ : Mem) : Res D := match ds with
  | [d] => (match seeD μ d with
    | some (ks, _) => (match Op.intKeys ks with
      | some ns => if ns.length < 64 then .ok (.lst ((ns.mergeSort (fun a b => decide (a ≤ b))).map .int)) μ else .bad
      | none => .bad)
    | none => F.sorted [d] μ)
  | _ => .bad
section
variable {X : Cx} {W : WX}
theorem calls_sortedU (hc : X.calm = true) (hu : X.A.units + 200 < cLine) : CallS X W (.builtin "sorted") F.sortedU := by
  intro pins s σ H φ μ xs us ds Q I rv hm rs o
  unfold F.sortedU at o
  split at o
  · rename_i d
    split at o
    · rename_i ks ws hd
      split at o
      · rename_i ns hks
        split at o
        · rename_i hl
          obtain ⟨v, u, rfl, rfl, r1, hv⟩ := one_val rv rs
          obtain ⟨a, vs, rfl, hH, hlen, rr⟩ := seeD_rep hm hv hd
          refine call_sortedDI hc pins s σ H _ _ Q I rv ⟨a, _, ns, rfl, hH, ?_, hl, fun ys p hp hs hn => ?_⟩
          · rw [List.map_fst_zip (by rw [hlen, rr.length]; exact Nat.le_refl _), intKeys_map hks]
          · have e : ys = ns.mergeSort (fun a b => decide (a ≤ b)) := perm_sorted (hp.trans (List.mergeSort_perm ns _).symm) hs (by
              have := List.pairwise_mergeSort (le := fun (a b : Int) => decide (a ≤ b)) (by intro a b c h1 h2; simp at h1 h2 ⊢; omega) (by intro a b; simp; omega) ns
              exact this.imp fun h => of_decide_eq_true h)
            rw [← e] at o
            exact o φ _ (Ext.fresh hn) (hm.fresh hn) _ (rep_lst upd_same (hm.out hn) (repAll_ints ys))
        · exact o.elim
      · exact o.elim
    · exact calls_sorted hu pins s σ H φ μ xs us _ Q I rv hm rs o
  · exact o.elim
end
end Dp

namespace Dp
open PySem PySem.Spec PyProof.Rows L2
/-! ### dict(t) of a tuple of pairs -/
def keyD : D → Int
  | .tup [.int i, _] => i
  | _ => 0
def valD : D → D
  | .tup [.int _, d] => d
  | _ => .non
def mergeD (kx : List Key × List D) : List D → List Key × List D
  | [] => kx
  | d :: ds => mergeD (dPutK kx.1 kx.2 (.inl (keyD d)), dPutX kx.1 kx.2 (.inl (keyD d)) (valD d)) ds
def F.mdct (ds : List D) (μ : Mem) : Res D := match ds with
  | [.tup ds] => if pairsh ds = true ∧ ds.length ≤ 16777216 then .ok (.ref μ.length) (μ ++ [.dct (mergeD ([], []) ds).1 (mergeD ([], []) ds).2]) else .bad
  | _ => .bad
theorem pairsh_cons {d : D} {ds : List D} (h : pairsh (d :: ds) = true) : (∃ i e, d = .tup [.int i, e]) ∧ pairsh ds = true := by
  unfold pairsh at h ⊢
  rw [List.all_cons, Bool.and_eq_true] at h
  refine ⟨?_, h.2⟩
  have h1 := h.1
  split at h1
  · exact ⟨_, _, rfl⟩
  · cases h1
section
variable {K : PySem.W.Frag} {φ : Pl} {H : Hp}
theorem merge_rep : ∀ (ds : List D) {vs : List V} (ks0 : List Key) (xs0 : List D) (ws0 : List V), pairsh ds = true → RepAll K φ H vs ds → ks0.length = xs0.length → RepAll K φ H ws0 xs0 →
    ∃ (ps : List Addr) (kvs : List (Key × V)) (ws : List V), vs = ps.map V.ref ∧ Paired (fun p kv => SqT K H p [kV kv.1, kv.2]) ps kvs ∧ mergeK (ks0.zip ws0) kvs = (mergeD (ks0, xs0) ds).1.zip ws ∧ RepAll K φ H ws (mergeD (ks0, xs0) ds).2 ∧ (mergeD (ks0, xs0) ds).1.length = (mergeD (ks0, xs0) ds).2.length
  | [], vs, ks0, xs0, ws0, _, r, hl, r0 => by
    unfold RepAll at r
    subst r
    exact ⟨[], [], ws0, rfl, .nil, rfl, r0, hl⟩
  | d :: ds, vs, ks0, xs0, ws0, hp, r, hl, r0 => by
    obtain ⟨⟨i, e, rfl⟩, hp'⟩ := pairsh_cons hp
    unfold RepAll at r
    obtain ⟨v, rest, rfl, h1, h2⟩ := r
    obtain ⟨p, us, rfl, hq, ru⟩ := rep_tup' h1
    obtain ⟨v1, v2, rfl, g1, g2⟩ := repAll2 ru
    cases rep_int g1
    obtain ⟨ws1, e1, r1⟩ := dPut_rep (k := .inl i) hl r0 g2
    obtain ⟨ps, kvs, ws, a1, a2, a3, a4, a5⟩ := merge_rep ds (dPutK ks0 xs0 (.inl i)) (dPutX ks0 xs0 (.inl i) e) ws1 hp' h2 (dPut_len hl) r1
    refine ⟨p :: ps, (.inl i, v2) :: kvs, ws, by rw [a1]; rfl, .cons hq a2, ?_, a4, a5⟩
    show mergeK (putK (ks0.zip ws0) (.inl i) v2) kvs = _
    rw [e1, a3]; rfl
end
section
variable {X : Cx} {W : WX}
theorem pairsV {pins : List (Addr × Obj)} {σ : L2.St} {H : Hp} {s : Shared} (I : Inv X pins σ H s) : ∀ {ps : List Addr} {kvs : List (Key × V)}, Paired (fun p kv => SqT X.K H p [kV kv.1, kv.2]) ps kvs →
    ∃ (qs : List (Value × Value)) (prs : List (Key × Value)), KV kvs prs ∧ qs.length = ps.length ∧ prs.length = ps.length ∧ ∀ (j : Nat) (u y : Value), qs[j]? = some (u, y) → ∃ (b : Addr) (k : Key), ps[j]? = some b ∧ prs[j]? = some (k, y) ∧ IsTup s.heap b #[u, y] ∧ (mixKind X.prog X.w).is k u = true
  | _, _, .nil => ⟨[], [], .nil, rfl, rfl, fun j u y e => by simp at e⟩
  | _, _, .cons (a := p) (b := kv) h t => by
    obtain ⟨qs, prs, r, hl, hl2, hp⟩ := pairsV I t
    obtain ⟨its, rv, ht, _⟩ := I.tuple h
    obtain ⟨u, y, ei, ru, ry⟩ := vals2 rv
    subst ei
    refine ⟨(u, y) :: qs, (kv.1, y) :: prs, .cons ⟨rfl, ry⟩ r, by rw [List.length_cons, List.length_cons, hl], by rw [List.length_cons, List.length_cons, hl2], fun j u' y' e => ?_⟩
    cases j with
    | zero =>
      have e' : (u, y) = (u', y') := Option.some.inj e
      cases e'
      exact ⟨p, kv.1, rfl, rfl, ht, kV_is (P := X.prog) (w := X.w) ru⟩
    | succ j =>
      obtain ⟨b, k, e1, e2, e3, e4⟩ := hp j u' y' (by simpa using e)
      exact ⟨b, k, by simpa using e1, by simpa using e2, e3, e4⟩
theorem call_dictT (hcalm : X.calm = true) : CallR X (.type "dict") (fun xs H Q => ∃ (a : Addr) (ps : List Addr) (kvs : List (Key × V)), xs = [.ref a] ∧ SqT X.K H a (ps.map V.ref) ∧ ExT H a ∧ Paired (fun p kv => SqT X.K H p [kV kv.1, kv.2]) ps kvs ∧
    ∀ p, H p = none → Q (.ref p) (upd H p (.dK (mergeK [] kvs)))) := by
  intro pins s σ H xs us Q I r q
  obtain ⟨a, ps, kvs, ex, hq, ⟨ob, vs', hx, hdn⟩, hp, q⟩ := q
  subst ex
  obtain ⟨u, eu, rx⟩ := vals1 r
  subst eu
  cases rx
  obtain ⟨its, rv, ⟨o, ho, hc, n, hdat⟩, hz⟩ := I.tuple hq
  have ei := refs_at rv
  subst ei
  have hob : s.heap.get? a = some ob := (I.hok a _ hx).1
  rw [ho] at hob
  cases hob
  rw [List.length_map] at hz
  obtain ⟨qs, prs, rel, hl, hl2, hpr⟩ := pairsV I hp
  have P := PairArg.tuple (prog := X.prog) (w := X.w) a (ps.map Value.ref).toArray (fun j => ps.getD j 0) qs
  refine PySem.call_dict_pairs (knd := mixKind X.prog X.w) (kvs := prs) P (I.ok.hd hcalm) ⟨⟨ob, n, ho, hc, hdn, hdat⟩, by simp [hl], fun j k v e => ?_⟩ ⟨by rw [hl2, hl], fun i key v e => ?_⟩ (by rw [hl]; exact hz) fun h' tk hd' k => ?_
  · obtain ⟨b, k', e1, e2, e3, e4⟩ := hpr j k v e
    have e5 : ps.getD j 0 = b := by rw [List.getD_eq_getElem?_getD, e1]; rfl
    refine ⟨?_, .inl ?_⟩
    · show (ps.map Value.ref).toArray[j]? = some (.ref (ps.getD j 0))
      rw [e5]; simp [e1]
    · show s.heap.IsTuple (ps.getD j 0) #[k, v]
      rw [e5]; exact e3
  · obtain ⟨b, k', e1, e2, e3, e4⟩ := hpr i key v e
    exact ⟨k', e2, e4⟩
  · have hm : (s.heap.objs.size == sysModules) = false := beq_eq_false_iff_ne.mpr (Nat.ne_of_gt I.big)
    have hlen : (mergeK [] kvs).length ≤ sizeLine := by
      refine Nat.le_trans (length_mergeK kvs []) ?_
      rw [List.length_nil, Nat.zero_add, rel.length, hl2]
      exact hz
    exact ⟨.ref s.heap.objs.size, upd H s.heap.objs.size (.dK (mergeK [] kvs)), I.laid (t' := tk) (fun b o e => k b o (by simp) e) (Nat.le_refl _) (show ObjOk X.prog X.w _ _ _ (.dK (mergeK [] kvs)) from ⟨hlen, hm, merged [] prs, KV.merge rel .nil, hd'⟩), rfl, q _ (I.hok.fresh (Nat.le_refl _))⟩
theorem calls_mdct (hcalm : X.calm = true) : CallS X W (.type "dict") F.mdct := by
  intro pins s σ H φ μ xs us ds Q I rv hm rs o
  unfold F.mdct at o
  split at o
  · split at o
    · rename_i h
      obtain ⟨v, u, rfl, rfl, r1, h1⟩ := one_val rv rs
      obtain ⟨p, vs, rfl, hq, rs', xq⟩ := rep_tupX h1
      obtain ⟨ps, kvs, ws, rfl, a2, a3, a4, a5⟩ := merge_rep _ [] [] [] h.1 rs' rfl RepAll.nil_
      refine call_dictT hcalm pins s σ H _ _ Q I rv ⟨p, ps, kvs, rfl, hq, xq h.1, a2, fun q hp => ?_⟩
      exact o (φ.push q) _ (Ext.push hm hp) (hm.push hp ⟨ws, by rw [upd_same]; exact congrArg _ (congrArg _ a3), a5, a4.ext (Ext.push hm hp)⟩) _ (rep_new hm)
    · exact o.elim
  · exact o.elim
end
end Dp

namespace Dp
open PySem PySem.Spec PyProof.Rows L2
/-! ### isinstance(x, (A, B)) -/
def Op.isTy2 (t1 t2 : Ty) (x : D) (μ : Mem) : Res D := match kd μ x with
  | some k => .ok (.bl (t1.has k || t2.has k)) μ
  | none => .bad
theorem kit_has2 (t1 t2 : Ty) (k : Kd) (K : PySem.W.Frag) : PySem.W.kitAny K (.type k.nm) [.type t1.nm, .type t2.nm] = some (t1.has k || t2.has k) := by
  unfold PySem.W.kitAny
  rw [kit_ty (kit_has t1 k)]
  cases t1.has k with
  | true => rfl
  | false =>
    show PySem.W.kitAny K _ _ = _
    unfold PySem.W.kitAny
    rw [kit_ty (kit_has t2 k)]
    cases t2.has k <;> rfl
section
variable {X : Cx} {W : WX} {e : Expr} {m : EE} {p pt1 pt2 pos tpos : Pos}
theorem se_isTy2 {y1 y2 : Str} {c : Nat} (t1 t2 : Ty) (hg : Gl X "isinstance") (hm : X.mg "isinstance" = none) (he : PE X e (lift X.K W m)) (ht1 : PE X (.Name y1 pt1) (tC (.ty t1.nm))) (ht2 : PE X (.Name y2 pt2) (tC (.ty t2.nm)))
    (hs : starEach [e, .Tuple [.Name y1 pt1, .Name y2 pt2] c tpos] X.env = (false, eval e X.env) :: starEach [.Tuple [.Name y1 pt1, .Name y2 pt2] c tpos] X.env := by rfl)
    (hs2 : starEach [.Tuple [.Name y1 pt1, .Name y2 pt2] c tpos] X.env = [(false, eval (.Tuple [.Name y1 pt1, .Name y2 pt2] c tpos) X.env)] := by rfl)
    (hs3 : starEach [.Name y1 pt1, .Name y2 pt2] X.env = (false, eval (.Name y1 pt1) X.env) :: starEach [.Name y2 pt2] X.env := by rfl) (hs4 : starEach [.Name y2 pt2] X.env = [(false, eval (.Name y2 pt2) X.env)] := by rfl)
    (hpl : (backTo pos (starEach [.Tuple [.Name y1 pt1, .Name y2 pt2] c tpos] X.env)).any (·.1) = false := by rfl) : PE X (.Call (.Name "isinstance" p) [e, .Tuple [.Name y1 pt1, .Name y2 pt2] c tpos] [] pos) (lift X.K W (E.op1 (Op.isTy2 t1 t2) m)) := by
  refine ⟨fun pins s σ H Q I ⟨φ, ρ, μ, hl, hr, o⟩ => ?_⟩
  refine (pe_callB (call_isiT (X := X)) hg hm rfl (pa_cons he (pa_cons (pe_tup (pa_cons ht1 (pa_cons ht2 pa_nil hs4) hs3)) pa_nil hs2) hs) (by decide) (by decide) hs hpl).run pins s σ H Q I ?_
  refine ⟨φ, ρ, μ, hl, hr, (OutG.bind o).imp fun d μ1 φ1 H1 e1 r1 o1 v rv => ?_⟩
  unfold Op.isTy2 at o1
  split at o1
  · rename_i k hk
    refine ⟨by show 2 ≤ sizeLine; rw [sizeLine_eq]; decide, fun q hq => ?_⟩
    exact ⟨v, q, [.ty t1.nm, .ty t2.nm], .type k.nm, [.type t1.nm, .type t2.nm], _, rfl, upd_same, .cons (.ty _) (.cons (.ty _) .nil), kd_ty (r1.fresh hq) (rv.ext (Ext.fresh hq)) hk, kit_has2 t1 t2 k _, o1 φ1 _ (Ext.fresh hq) (r1.fresh hq) _ rep_of_bl⟩
  · exact o1.elim
end
end Dp

namespace Dp
open PySem PySem.Spec PyProof.Rows L2
/-! ### a + b of lists, a new memory object -/
def Op.madd (x y : D) (μ : Mem) : Res D := match seeL μ x, seeL μ y with
  | some a, some b => if a.length + b.length ≤ 16777216 then .ok (.ref μ.length) (μ ++ [.lst (a ++ b)]) else .bad
  | _, _ => .bad
section
variable {X : Cx} {W : WX}
theorem ops_madd : OpS X W (binaryOp .Add) Op.madd := by
  intro pins s σ H φ μ x y v u dx dy Q I rx ry hm px py o
  unfold Op.madd at o
  split at o
  · rename_i as bs ea eb
    split at o
    · rename_i h
      obtain ⟨p, vs, rfl, ha, ra⟩ := seeL_rep hm px ea
      obtain ⟨q, ws, rfl, hb, rb⟩ := seeL_rep hm py eb
      exact op_cat pins s σ H _ _ v u Q I rx ry ⟨p, q, vs, ws, rfl, rfl, ha, hb, by rw [ra.length, rb.length, sizeLine_eq]; exact h, new_mlst hm (RepAll.append ra rb) o⟩
    · exact o.elim
  · exact o.elim
end
end Dp

namespace Dp
open PySem PySem.Spec PyProof.Rows L2
/-! ### len(set(xs)) of whole numbers, sep.join(texts), d.pop(k) -/
def intsD : List D → Option (List Int)
  | [] => some []
  | .int i :: ds => (intsD ds).map (i :: ·)
  | _ => none
def strsD : List D → Option (List Str)
  | [] => some []
  | .str i :: ds => (strsD ds).map (i :: ·)
  | _ => none
def metL (ns : List Int) : List Int := firstMet (fun i => ns.getD i 0) ns.length
def E.lenset (a : EE) : EE := fun ρ μ => (a ρ μ).bind fun d μ => match d with
  | .lst ds => (match intsD ds with
    | some ns => if ns.length ≤ 4000 then .ok (.int (metL ns).length) μ else .bad
    | none => .bad)
  | _ => .bad
def Mt.join (x : D) (ds : List D) (μ : Mem) : Res D := match x, ds with
  | .str a, [.lst ys] => (match strsD ys with
    | some ss => if (ss.map (·.length)).sum + ss.length * a.length ≤ 16777216 then .ok (.str (Txt.join a ss)) μ else .bad
    | none => .bad)
  | _, _ => .bad
def dDelK : List Key → List D → Key → List Key
  | k' :: ks, _ :: xs, k => if k' = k then dDelK ks xs k else k' :: dDelK ks xs k
  | _, _, _ => []
def dDelX : List Key → List D → Key → List D
  | k' :: ks, x :: xs, k => if k' = k then dDelX ks xs k else x :: dDelX ks xs k
  | _, _, _ => []
def Mt.dpop (x : D) (ds : List D) (μ : Mem) : Res D := match x, ds with
  | .ref i, [.int j] => (match μ[i]? with
    | some (.dct ks xs) => (match dGet ks xs (.inl j) with
      | some d => .ok d (μ.set i (.dct (dDelK ks xs (.inl j)) (dDelX ks xs (.inl j))))
      | none => .bad)
    | _ => .bad)
  | _, _ => .bad
section
variable {K : PySem.W.Frag} {φ : Pl} {H : Hp}
theorem intsD_rep : ∀ {ds : List D} {vs : List V} {ns : List Int}, RepAll K φ H vs ds → intsD ds = some ns → vs = ns.map V.int
  | [], vs, ns, r, e => by
    unfold RepAll at r
    cases e
    exact r
  | d :: ds, vs, ns, r, e => by
    cases d with
    | int i =>
      unfold RepAll at r
      obtain ⟨v, rest, rfl, h1, h2⟩ := r
      unfold intsD at e
      cases hq : intsD ds with
      | none => rw [hq] at e; cases e
      | some l =>
        rw [hq] at e
        cases e
        rw [List.map_cons, ← intsD_rep h2 hq, rep_int h1]
    | _ => cases e
theorem strsD_rep : ∀ {ds : List D} {vs : List V} {ns : List Str}, RepAll K φ H vs ds → strsD ds = some ns → vs = ns.map V.str
  | [], vs, ns, r, e => by
    unfold RepAll at r
    cases e
    exact r
  | d :: ds, vs, ns, r, e => by
    cases d with
    | str i =>
      unfold RepAll at r
      obtain ⟨v, rest, rfl, h1, h2⟩ := r
      unfold strsD at e
      cases hq : strsD ds with
      | none => rw [hq] at e; cases e
      | some l =>
        rw [hq] at e
        cases e
        rw [List.map_cons, ← strsD_rep h2 hq, rep_str h1]
    | _ => cases e
theorem dDel_len : ∀ (ks : List Key) (xs : List D) (k : Key), (dDelK ks xs k).length = (dDelX ks xs k).length
  | [], _, _ => by simp [dDelK, dDelX]
  | _ :: _, [], _ => by simp [dDelK, dDelX]
  | k' :: ks, x :: xs, k => by
    have ih := dDel_len ks xs k
    unfold dDelK dDelX
    split
    · exact ih
    · rw [List.length_cons, List.length_cons, ih]
theorem dDel_rep {k : Key} : ∀ {ks : List Key} {xs : List D} {vs : List V}, RepAll K φ H vs xs → ks.length = xs.length → ∃ ws, dropK (ks.zip vs) k = (dDelK ks xs k).zip ws ∧ RepAll K φ H ws (dDelX ks xs k)
  | [], xs, vs, r, _ => ⟨[], by simp [dropK, dDelK], by unfold dDelX; exact RepAll.nil_⟩
  | k' :: ks, [], vs, r, h => by cases h
  | k' :: ks, x :: xs, vs, r, h => by
    unfold RepAll at r
    obtain ⟨v, q, rfl, h1, h2⟩ := r
    obtain ⟨ws, e1, r1⟩ := dDel_rep (k := k) h2 (by simpa using h)
    unfold dDelK dDelX
    rw [List.zip_cons_cons]
    by_cases hk : k' = k
    · rw [if_pos hk, if_pos hk]
      refine ⟨ws, ?_, r1⟩
      rw [← e1]
      unfold dropK
      rw [List.filter_cons, if_neg (by simp [hk])]
    · rw [if_neg hk, if_neg hk]
      refine ⟨v :: ws, ?_, RepAll.cons_ h1 r1⟩
      rw [List.zip_cons_cons, ← e1]
      unfold dropK
      rw [List.filter_cons, if_pos (by simp [hk])]
end
section
variable {X : Cx} {W : WX}
theorem meth_join : MethS X W "str.join" Mt.join := by
  intro pins s σ H φ μ x xs v us dx ds Q I rx rxs hm px pxs o
  unfold Mt.join at o
  split at o
  · rename_i a ys
    split at o
    · rename_i ss hss
      split at o
      · rename_i hz
        cases rep_str px
        obtain ⟨w, rfl, rw'⟩ := repAll1 pxs
        unfold Rep at rw'
        obtain ⟨p, vs, rfl, ⟨q, n⟩, rs⟩ := rw'
        have e2 := strsD_rep rs hss
        rw [e2] at q
        exact mt_join pins s σ H _ _ v us Q I rx rxs ⟨a, p, ss, rfl, rfl, .inl (.of q), hz, o φ H Ext.refl hm _ rep_of_str⟩
      · exact o.elim
    · exact o.elim
  · exact o.elim
theorem meth_dpop : MethS X W "dict.pop" Mt.dpop := by
  intro pins s σ H φ μ x xs v us dx ds Q I rx rxs hm px pxs o
  unfold Mt.dpop at o
  split at o
  · rename_i i j
    split at o
    · rename_i ks ys hy
      split at o
      · rename_i d hd
        unfold Rep at px
        obtain ⟨a, rfl, hi⟩ := px
        obtain ⟨vs, h1, h2, rs⟩ := hm.obj i a _ hi hy
        obtain ⟨w, rfl, rw'⟩ := repAll1 pxs
        cases rep_int rw'
        have hg := dGet_rep (K := X.K) (φ := φ) (H := H) (ks := ks) (xs := ys) (vs := vs) (k := .inl j) rs
        rw [hd] at hg
        obtain ⟨z, hz1, hz2⟩ := hg
        obtain ⟨ws, e1, r1⟩ := dDel_rep (k := .inl j) rs h2
        obtain ⟨e3, m3⟩ := mem_write (o := .dK (dropK (ks.zip vs) (.inl j))) (m := .dct (dDelK ks ys (.inl j)) (dDelX ks ys (.inl j))) hm hi (by rw [h1]; exact fun _ z => nomatch z) (by rw [h1]; exact fun _ _ z => nomatch z) fun e => ⟨ws, by rw [upd_same, e1], dDel_len _ _ _, r1.ext e⟩
        obtain ⟨u, rfl, ru⟩ := vals1 rxs
        cases rx
        exact d_pop I h1 (k := .inl j) ru hz1 (.inl rfl) fun w' s' I' rw2 => ⟨z, _, I', rw2, o φ _ e3 m3 _ (hz2.ext e3)⟩
      · exact o.elim
    · exact o.elim
  · exact o.elim
theorem se_lenset {a : Expr} {ma : EE} {p p2 q pos : Pos} (hg : Gl X "len") (hm : X.mg "len" = none) (hg2 : Gl X "set") (hm2 : X.mg "set" = none) (ha : PE X a (lift X.K W ma)) (hc : X.calm = true := by rfl)
    (na : starEach [a] X.env = (false, eval a X.env) :: starEach [] X.env := by rfl) : PE X (.Call (.Name "len" p) [.Call (.Name "set" p2) [a] [] q] [] pos) (lift X.K W (E.lenset ma)) := by
  refine ⟨fun pins s σ H Q I ⟨φ, ρ, μ, hl, hr, o⟩ => ?_⟩
  refine Call_ (ld_blt I hg hm boot_len (callWith_builtin1 (args_cons (Call_ (ld_blt I hg2 hm2 boot_set ?_)) rfl) rfl rfl))
  refine callWith_type1 (args_cons (use ha I hl hr (OutG.bind o) fun v s1 x H1 d μ1 φ1 I1 r1 e1 m1 p1 o1 => args_nil ?_) na) na rfl
  split at o1
  · rename_i ds
    split at o1
    · rename_i ns hns
      split at o1
      · rename_i hlen4
        unfold Rep at p1
        obtain ⟨l, vs, rfl, ⟨hq, hn⟩, rs⟩ := p1
        have ev := intsD_rep rs hns
        subst ev
        cases r1
        obtain ⟨its, r, pl, hz⟩ := I1.list (.of hq)
        have hsz4 : its.toArray.size = ns.length := by rw [List.size_toArray, ← r.length, List.length_map]
        refine call_set_list (I1.ok.hd hc) pl.isList (by simpa using RZ.intsAre_vals r) (by rw [hsz4]; unfold scanBound; omega) fun h' tk hS hk => ?_
        refine args_nil ?_
        rw [hsz4] at hS
        have hmet : (metL ns).length ≤ ns.length := firstMet_length_le _ _
        obtain ⟨o2, es, ep, t, ho, hex, hd, _, _, _, hf, hn2⟩ := hS
        have J2 : Inv X pins σ H1 { s1 with heap := h', toks := tk } := I1.kept fun bb ob eb => hk bb ob (Heap.lt_size eb) eb
        exact call_len_set ho hex hd hf (by rw [hn2] <;> exact (show ((metL ns).length : Int) < 2 ^ 63 by omega)) ⟨.int (metL ns).length, H1, J2.tok _, ⟨_, by rw [hn2]; rfl⟩, o1 φ1 H1 Ext.refl m1 _ rep_of_int⟩
      · exact o1.elim
    · exact o1.elim
  · exact o1.elim
end
end Dp

namespace Dp
open PySem PySem.Spec PyProof.Rows L2
/-! ### the plain side: what a reading yields -/
def wp {α : Type} (r : Res α) (Q : α → Mem → Prop) (X : Exn → Mem → Prop) : Prop := match r with
  | .ok a μ => Q a μ
  | .err x μ => X x μ
  | .bad => False
def swp (r : SR) (Q : Fl → Mem → Prop) : Prop := match r with
  | some (f, μ) => Q f μ
  | none => False
abbrev NoX : Exn → Mem → Prop := fun _ _ => False
section
variable {α β : Type} {Q : α → Mem → Prop} {X : Exn → Mem → Prop} {P : Fl → Mem → Prop} {ρ : Dp.Loc} {μ : Mem}
@[simp] theorem wp_ok {a : α} : wp (.ok a μ) Q X = Q a μ := id rfl
@[simp] theorem wp_err {x : Exn} : wp (.err x μ : Res α) Q X = X x μ := id rfl
@[simp] theorem wp_bad : wp (.bad : Res α) Q X = False := id rfl
@[simp] theorem wp_bind {r : Res β} {f : β → Mem → Res α} : wp (r.bind f) Q X = wp r (fun a μ => wp (f a μ) Q X) X := by cases r <;> exact id rfl
theorem wp_mono {r : Res α} {Q' : α → Mem → Prop} {X' : Exn → Mem → Prop} (h : wp r Q X) (i : ∀ a μ, Q a μ → Q' a μ) (j : ∀ x μ, X x μ → X' x μ) : wp r Q' X' := by
  cases r with
  | ok a μ => exact i a μ h
  | err x μ => exact j x μ h
  | bad => exact h
theorem wp_eq {r : Res α} {a : α} {μ' : Mem} (h : r = .ok a μ') (q : Q a μ') : wp r Q X := by rw [h]; exact q
theorem wp_iff {r : Res α} (h : wp r Q X) (hX : ∀ x μ, ¬ X x μ) : ∃ a μ', r = .ok a μ' ∧ Q a μ' := by
  cases r with
  | ok a μ => exact ⟨a, μ, rfl, h⟩
  | err x μ => exact (hX x μ h).elim
  | bad => exact h.elim
@[simp] theorem wp_ite {c : Prop} [Decidable c] {a b : Res α} : wp (if c then a else b) Q X = if c then wp a Q X else wp b Q X := by split <;> exact id rfl
theorem wp_if {c : Prop} [Decidable c] {a : Res α} (h : c) (q : wp a Q X) : wp (if c then a else .bad) Q X := by rw [if_pos h]; exact q
@[simp] theorem swp_some {f : Fl} : swp (some (f, μ)) P = P f μ := id rfl
@[simp] theorem swp_none : swp none P = False := id rfl
@[simp] theorem swp_ofR {r : Res α} {f : α → Mem → SR} : swp (ofR r ρ f) P = wp r (fun a μ => swp (f a μ) P) (fun x μ => P (.exc x ρ) μ) := by cases r <;> exact id rfl
theorem swp_mono {r : SR} {P' : Fl → Mem → Prop} (h : swp r P) (i : ∀ f μ, P f μ → P' f μ) : swp r P' := by
  match r, h with
  | some (f, μ), h => exact i f μ h
  | none, h => exact h
/-- what follows -/
def nextP (b : ES) (P : Fl → Mem → Prop) : Fl → Mem → Prop
  | .next ρ, μ => swp (b ρ μ) P
  | f, μ => P f μ
@[simp] theorem nextP_next {b : ES} : nextP b P (.next ρ) μ = swp (b ρ μ) P := id rfl
@[simp] theorem nextP_ret {b : ES} {d : D} : nextP b P (.ret d) μ = P (.ret d) μ := id rfl
@[simp] theorem nextP_brk {b : ES} : nextP b P (.brk ρ) μ = P (.brk ρ) μ := id rfl
@[simp] theorem nextP_cont {b : ES} : nextP b P (.cont ρ) μ = P (.cont ρ) μ := id rfl
@[simp] theorem nextP_exc {b : ES} {x : Exn} : nextP b P (.exc x ρ) μ = P (.exc x ρ) μ := id rfl
@[simp] theorem swp_seq {a b : ES} : swp (S.seq a b ρ μ) P = swp (a ρ μ) (nextP b P) := by
  unfold S.seq
  match a ρ μ with
  | some (.next ρ', μ') => rfl
  | some (.brk ρ', μ') => rfl
  | some (.cont ρ', μ') => rfl
  | some (.ret d, μ') => rfl
  | some (.exc x ρ', μ') => rfl
  | none => rfl
@[simp] theorem swp_nil : swp (S.nil ρ μ) P = P (.next ρ) μ := id rfl
@[simp] theorem swp_expr {e : EE} : swp (S.expr e ρ μ) P = wp (e ρ μ) (fun _ μ => P (.next ρ) μ) (fun x μ => P (.exc x ρ) μ) := by unfold S.expr; simp
@[simp] theorem swp_ret {e : EE} : swp (S.ret e ρ μ) P = wp (e ρ μ) (fun d μ => P (.ret d) μ) (fun x μ => P (.exc x ρ) μ) := by unfold S.ret; simp
@[simp] theorem swp_retN : swp (S.retN ρ μ) P = P (.ret .non) μ := id rfl
@[simp] theorem swp_brk : swp (S.brk ρ μ) P = P (.brk ρ) μ := id rfl
@[simp] theorem swp_cont : swp (S.cont ρ μ) P = P (.cont ρ) μ := id rfl
@[simp] theorem swp_never : swp (S.never ρ μ) P = False := id rfl
def gwp (r : Option (Dp.Loc × Mem)) (Q : Dp.Loc → Mem → Prop) : Prop := match r with
  | some (ρ, μ) => Q ρ μ
  | none => False
@[simp] theorem gwp_some {Q : Dp.Loc → Mem → Prop} : gwp (some (ρ, μ)) Q = Q ρ μ := id rfl
@[simp] theorem gwp_none {Q : Dp.Loc → Mem → Prop} : gwp none Q = False := id rfl
@[simp] theorem swp_ofO {r : Option (Dp.Loc × Mem)} {f : Dp.Loc → Mem → SR} : swp (ofO r f) P = gwp r (fun ρ μ => swp (f ρ μ) P) := by
  match r with
  | some (ρ, μ) => rfl
  | none => rfl
@[simp] theorem swp_asg {e : EE} {g : EG} : swp (S.asg e g ρ μ) P = wp (e ρ μ) (fun d μ => gwp (g d ρ μ) fun ρ μ => P (.next ρ) μ) (fun x μ => P (.exc x ρ) μ) := by unfold S.asg; simp
@[simp] theorem swp_ite {t : EB} {a b : ES} : swp (S.ite t a b ρ μ) P = wp (t ρ μ) (fun c μ => swp (bif c then a ρ μ else b ρ μ) P) (fun x μ => P (.exc x ρ) μ) := by unfold S.ite; simp
@[simp] theorem swp_par2 {i j : Nat} {as : EA} : swp (S.par2 i j as ρ μ) P = wp (as ρ μ) (fun ds μ => match ds with
    | [a, b] => P (.next ((ρ.set i (some a)).set j (some b))) μ
    | _ => False) (fun x μ => P (.exc x ρ) μ) := by
  unfold S.par2; rw [swp_ofR]; congr 1; funext ds μ; split <;> simp
@[simp] theorem swp_par3 {i j l : Nat} {as : EA} : swp (S.par3 i j l as ρ μ) P = wp (as ρ μ) (fun ds μ => match ds with
    | [a, b, c] => P (.next (((ρ.set i (some a)).set j (some b)).set l (some c))) μ
    | _ => False) (fun x μ => P (.exc x ρ) μ) := by
  unfold S.par3; rw [swp_ofR]; congr 1; funext ds μ; split <;> simp
@[simp] theorem swp_for {q : EA} {g : EG} {b : ES} : swp (S.for_ q g b ρ μ) P = wp (q ρ μ) (fun ds μ => swp (S.loop g b ds ρ μ) P) (fun x μ => P (.exc x ρ) μ) := by unfold S.for_; simp
/-- a loop by an invariant over what is left -/
theorem swp_loop {g : EG} {b : ES} (J : List D → Dp.Loc → Mem → Prop)
    (hd : ∀ ρ μ, J [] ρ μ → P (.next ρ) μ)
    (hs : ∀ d ds ρ μ, J (d :: ds) ρ μ → gwp (g d ρ μ) fun ρ1 μ1 => swp (b ρ1 μ1) fun f μ2 => match f with
      | .next ρ2 => J ds ρ2 μ2
      | .cont ρ2 => J ds ρ2 μ2
      | .brk ρ2 => P (.next ρ2) μ2
      | f => P f μ2) : ∀ ds ρ μ, J ds ρ μ → swp (S.loop g b ds ρ μ) P
  | [], ρ, μ, h => hd ρ μ h
  | d :: ds, ρ, μ, h => by
    have h1 := hs d ds ρ μ h
    unfold S.loop
    match hg : g d ρ μ with
    | none => rw [hg] at h1; exact h1.elim
    | some (ρ1, μ1) =>
      rw [hg] at h1
      show swp (match b ρ1 μ1 with
        | some (.next ρ2, μ2) => S.loop g b ds ρ2 μ2
        | some (.cont ρ2, μ2) => S.loop g b ds ρ2 μ2
        | some (.brk ρ2, μ2) => some (.next ρ2, μ2)
        | r => r) P
      have h2 : swp (b ρ1 μ1) _ := h1
      revert h2
      match b ρ1 μ1 with
      | some (.next ρ2, μ2) => exact fun h2 => swp_loop J hd hs ds ρ2 μ2 h2
      | some (.cont ρ2, μ2) => exact fun h2 => swp_loop J hd hs ds ρ2 μ2 h2
      | some (.brk ρ2, μ2) => exact fun h2 => h2
      | some (.ret d, μ2) => exact fun h2 => h2
      | some (.exc x ρ2, μ2) => exact fun h2 => h2
      | none => exact fun h2 => h2
/-- a while loop by an invariant with what is left of the turns -/
theorem swp_while {t : EB} {b : ES} (J : Nat → Dp.Loc → Mem → Prop)
    (hs : ∀ n ρ μ, J n ρ μ → wp (t ρ μ) (fun c μ1 => if c = true then swp (b ρ μ1) (fun f μ2 => match f with
      | .next ρ2 => ∃ m, m < n ∧ J m ρ2 μ2
      | .cont ρ2 => ∃ m, m < n ∧ J m ρ2 μ2
      | .brk ρ2 => P (.next ρ2) μ2
      | f => P f μ2) else P (.next ρ) μ1) (fun x μ => P (.exc x ρ) μ)) : ∀ (N n : Nat) (ρ : Dp.Loc) (μ : Mem), n < N → J n ρ μ → swp (S.while_ N t b ρ μ) P
  | 0, n, _, _, h, _ => absurd h (Nat.not_lt_zero _)
  | N + 1, n, ρ, μ, h, j => by
    have h1 := hs n ρ μ j
    show swp (ofR (t ρ μ) ρ fun c μ => bif c then (match b ρ μ with
      | some (.next ρ2, μ2) => S.wloop t b N ρ2 μ2
      | some (.cont ρ2, μ2) => S.wloop t b N ρ2 μ2
      | some (.brk ρ2, μ2) => some (.next ρ2, μ2)
      | r => r) else some (.next ρ, μ)) P
    rw [swp_ofR]
    refine wp_mono h1 (fun c μ1 h2 => ?_) fun _ _ h => h
    cases c with
    | false => rw [if_neg Bool.false_ne_true] at h2; exact h2
    | true =>
      rw [if_pos rfl] at h2
      show swp (match b ρ μ1 with
        | some (.next ρ2, μ2) => S.wloop t b N ρ2 μ2
        | some (.cont ρ2, μ2) => S.wloop t b N ρ2 μ2
        | some (.brk ρ2, μ2) => some (.next ρ2, μ2)
        | r => r) P
      revert h2
      match b ρ μ1 with
      | some (.next ρ2, μ2) => exact fun ⟨m, hm, hj⟩ => swp_while J hs N m ρ2 μ2 (by omega) hj
      | some (.cont ρ2, μ2) => exact fun ⟨m, hm, hj⟩ => swp_while J hs N m ρ2 μ2 (by omega) hj
      | some (.brk ρ2, μ2) => exact fun h2 => h2
      | some (.ret d, μ2) => exact fun h2 => h2
      | some (.exc x ρ2, μ2) => exact fun h2 => h2
      | none => exact fun h2 => h2
/-! ### the parts -/
def Q.r1 (ds : List D) (μ : Mem) : Res (List D) := match ds with
  | [.int j] => if -(2 ^ 62) ≤ j ∧ j < 2 ^ 62 then .ok (Dp.Q.rangeL 0 j.toNat) μ else .bad
  | _ => .bad
def Q.r2 (ds : List D) (μ : Mem) : Res (List D) := match ds with
  | [.int i, .int j] => if -(2 ^ 62) ≤ i ∧ i < 2 ^ 62 ∧ -(2 ^ 62) ≤ j ∧ j < 2 ^ 62 then .ok (Dp.Q.rangeL i (j - i).toNat) μ else .bad
  | _ => .bad
theorem r1_int {j : Int} (h1 : -1000000000000000000 ≤ j) (h2 : j ≤ 1000000000000000000) : Dp.Q.r1 [.int j] μ = .ok (Dp.Q.rangeL 0 j.toNat) μ := by
  show (if -(2 ^ 62) ≤ j ∧ j < 2 ^ 62 then _ else _) = _
  rw [if_pos ⟨by omega, by omega⟩]
theorem r1_nat {n : Nat} (h : n ≤ 1000000000000000000) : Dp.Q.r1 [.int (n : Int)] μ = .ok ((List.range n).map fun i => .int (i : Nat)) μ := by
  rw [r1_int (by omega) (by omega)]
  unfold Dp.Q.rangeL
  rw [Int.toNat_natCast]
  congr 2
  funext i
  rw [Int.zero_add]
theorem r2_int {i j : Int} (h1 : -1000000000000000000 ≤ i) (h2 : i ≤ 1000000000000000000) (h3 : -1000000000000000000 ≤ j) (h4 : j ≤ 1000000000000000000) : Dp.Q.r2 [.int i, .int j] μ = .ok (Dp.Q.rangeL i (j - i).toNat) μ := by
  show (if -(2 ^ 62) ≤ i ∧ i < 2 ^ 62 ∧ -(2 ^ 62) ≤ j ∧ j < 2 ^ 62 then _ else _) = _
  rw [if_pos ⟨by omega, by omega, by omega, by omega⟩]
@[simp] theorem e_var {i : Nat} : E.var i ρ μ = match ρ[i]? with
  | some (some d) => .ok d μ
  | _ => .bad := id rfl
@[simp] theorem e_val {d : D} : E.val d ρ μ = .ok d μ := id rfl
@[simp] theorem e_op2 {g : D → D → Mem → Res D} {a b : EE} : E.op2 g a b ρ μ = (a ρ μ).bind fun x μ => (b ρ μ).bind fun y μ => g x y μ := id rfl
@[simp] theorem e_op1 {g : D → Mem → Res D} {a : EE} : E.op1 g a ρ μ = (a ρ μ).bind fun x μ => g x μ := id rfl
@[simp] theorem e_call {f : List D → Mem → Res D} {as : EA} : E.call f as ρ μ = (as ρ μ).bind fun ds μ => f ds μ := id rfl
@[simp] theorem e_callK {f : List D → Mem → Res D} {g : List D → List D → List D} {as ks : EA} : E.callK f g as ks ρ μ = (as ρ μ).bind fun ds μ => (ks ρ μ).bind fun es μ => f (g ds es) μ := id rfl
@[simp] theorem e_and {a b : EE} : E.and a b ρ μ = (a ρ μ).bind fun x μ => match x with
  | .bl true => b ρ μ
  | .bl false => .ok (.bl false) μ
  | _ => .bad := id rfl
@[simp] theorem e_or {a b : EE} : E.or a b ρ μ = (a ρ μ).bind fun x μ => match x with
  | .bl false => b ρ μ
  | .bl true => .ok (.bl true) μ
  | _ => .bad := id rfl
@[simp] theorem e_notE {a : EE} : E.notE a ρ μ = (T.of a ρ μ).bind fun b μ => .ok (.bl (!b)) μ := id rfl
@[simp] theorem e_ite {t : EB} {a b : EE} : E.ite t a b ρ μ = (t ρ μ).bind fun c μ => bif c then a ρ μ else b ρ μ := id rfl
@[simp] theorem e_tup {as : EA} : E.tup as ρ μ = (as ρ μ).bind fun ds μ => if ds.length ≤ 16777216 then .ok (.tup ds) μ else .bad := id rfl
@[simp] theorem e_lst {as : EA} : E.lst as ρ μ = (as ρ μ).bind fun ds μ => if ds.length ≤ 16777216 then .ok (.lst ds) μ else .bad := id rfl
@[simp] theorem e_mlst {as : EA} : E.mlst as ρ μ = (as ρ μ).bind fun ds μ => if ds.length ≤ 16777216 then .ok (.ref μ.length) (μ ++ [.lst ds]) else .bad := id rfl
@[simp] theorem e_chain {g g' : D → D → Mem → Res D} {a b c : EE} : E.chain g g' a b c ρ μ = (a ρ μ).bind fun x μ => (b ρ μ).bind fun y μ => (g x y μ).bind fun z μ => match z with
  | .bl true => (c ρ μ).bind fun w μ => g' y w μ
  | .bl false => .ok (.bl false) μ
  | _ => .bad := id rfl
@[simp] theorem e_slice {a : EE} {lo hi : Part} : E.slice a lo hi ρ μ = (a ρ μ).bind fun x μ => (lo ρ μ).bind fun l μ => (hi ρ μ).bind fun h μ => Op.slice x l h μ := id rfl
@[simp] theorem e_ofQ {q : EA} : E.ofQ q ρ μ = (q ρ μ).bind fun ds μ => .ok (.lst ds) μ := id rfl
@[simp] theorem e_dnew : E.dnew ρ μ = .ok (.ref μ.length) (μ ++ [.dct [] []]) := id rfl
@[simp] theorem e_meth {t : RTy} {g : D → List D → Mem → Res D} {o : EE} {as : EA} : E.meth t g o as ρ μ = (o ρ μ).bind fun x μ => if t.ok x μ = true then (as ρ μ).bind fun ds μ => g x ds μ else .bad := id rfl
@[simp] theorem a_nil : A.nil ρ μ = .ok [] μ := id rfl
@[simp] theorem a_cons {a : EE} {as : EA} : A.cons a as ρ μ = (a ρ μ).bind fun x μ => (as ρ μ).bind fun xs μ => .ok (x :: xs) μ := id rfl
@[simp] theorem t_and {a b : EB} : T.and a b ρ μ = (a ρ μ).bind fun x μ => bif x then b ρ μ else .ok false μ := id rfl
@[simp] theorem t_or {a b : EB} : T.or a b ρ μ = (a ρ μ).bind fun x μ => bif x then .ok true μ else b ρ μ := id rfl
@[simp] theorem t_not {a : EB} : T.not a ρ μ = (a ρ μ).bind fun x μ => .ok (!x) μ := id rfl
@[simp] theorem t_of {a : EE} : T.of a ρ μ = (a ρ μ).bind fun x μ => E.tru x μ := id rfl
@[simp] theorem t_ofB {a : EE} : T.ofB a ρ μ = (a ρ μ).bind fun x μ => match x with
  | .bl b => .ok b μ
  | _ => .bad := id rfl
@[simp] theorem t_yes : T.yes ρ μ = .ok true μ := id rfl
@[simp] theorem prt_no : Prt.no ρ μ = .ok none μ := id rfl
@[simp] theorem prt_of {m : EE} : Prt.of m ρ μ = (m ρ μ).bind fun d μ => match d with
  | .int i => .ok (some i) μ
  | _ => .bad := id rfl
@[simp] theorem g_name {i : Nat} {d : D} : G.name i d ρ μ = some (ρ.set i (some d), μ) := id rfl
@[simp] theorem g_tup {gs : EGs} {ds : List D} : G.tup gs (.tup ds) ρ μ = gs ds ρ μ := id rfl
@[simp] theorem g_lst {gs : EGs} {ds : List D} : G.tup gs (.lst ds) ρ μ = gs ds ρ μ := id rfl
@[simp] theorem g_nil : G.nil [] ρ μ = some (ρ, μ) := id rfl
@[simp] theorem g_cons {g : EG} {gs : EGs} {d : D} {ds : List D} {Q : Dp.Loc → Mem → Prop} : gwp (G.cons g gs (d :: ds) ρ μ) Q = gwp (g d ρ μ) fun ρ μ => gwp (gs ds ρ μ) Q := by
  show gwp (match g d ρ μ with
    | some (ρ, μ) => gs ds ρ μ
    | none => none) Q = _
  cases g d ρ μ with
  | none => rfl
  | some r => rfl
@[simp] theorem g_item {mo mi : EE} {d : D} {Q : Dp.Loc → Mem → Prop} : gwp (G.item mo mi d ρ μ) Q = wp (mo ρ μ) (fun o μ => wp (mi ρ μ) (fun i μ => match Op.set o i d μ with
  | some μ => Q ρ μ
  | none => False) NoX) NoX := by
  unfold G.item
  cases mo ρ μ with
  | ok o μ1 =>
    show gwp (match mi ρ μ1 with
      | .ok i μ => (Op.set o i d μ).map fun μ => (ρ, μ)
      | _ => none) Q = wp (mi ρ μ1) _ NoX
    cases mi ρ μ1 with
    | ok i μ2 =>
      show gwp ((Op.set o i d μ2).map fun μ => (ρ, μ)) Q = (match Op.set o i d μ2 with
        | some μ => Q ρ μ
        | none => False)
      cases Op.set o i d μ2 <;> rfl
    | err x μ2 => rfl
    | bad => rfl
  | err x μ1 => rfl
  | bad => rfl
@[simp] theorem q_any {e : EE} : Dp.Q.any e ρ μ = (e ρ μ).bind Dp.Q.anyI := id rfl
@[simp] theorem anyI_lst {xs : List D} : Dp.Q.anyI (.lst xs) μ = .ok xs μ := id rfl
@[simp] theorem anyI_tup {xs : List D} : Dp.Q.anyI (.tup xs) μ = .ok xs μ := id rfl
@[simp] theorem anyI_str {x : Str} : Dp.Q.anyI (.str x) μ = .ok (Dp.Q.signs x) μ := id rfl
@[simp] theorem anyI_scr {ns : List Int} : Dp.Q.anyI (.scr ns) μ = .ok (ns.map .int) μ := id rfl
@[simp] theorem q_lc {q : EA} {vs : List Nat} {g : EG} {tt : EB} {te : EE} : Dp.Q.lc q vs g tt te ρ μ = (q ρ μ).bind fun ds μ => if ds.length ≤ 16777216 then Dp.Q.lcLoop g tt te (wipeL ρ vs) ds μ else .bad := id rfl
@[simp] theorem q_range1 {as : EA} : Dp.Q.range1 as ρ μ = (as ρ μ).bind Dp.Q.r1 := id (Eq.refl _)
@[simp] theorem q_range2 {as : EA} : Dp.Q.range2 as ρ μ = (as ρ μ).bind Dp.Q.r2 := id (Eq.refl _)
@[simp] theorem q_enum {as : EA} : Dp.Q.enum as ρ μ = (as ρ μ).bind fun ds μ => match ds with
  | [.lst xs] => .ok (Dp.Q.enumL xs) μ
  | [.tup xs] => .ok (Dp.Q.enumL xs) μ
  | _ => .bad := id rfl
@[simp] theorem res_bind_ok {β γ : Type} {a : β} {f : β → Mem → Res γ} : (Res.ok a μ).bind f = f a μ := id rfl
@[simp] theorem wipeL_nil {σ : Dp.Loc} : wipeL σ [] = σ := id rfl
@[simp] theorem wipeL_cons {σ : Dp.Loc} {v : Nat} {vs : List Nat} : wipeL σ (v :: vs) = (wipeL σ vs).set v none := id rfl
/-- a comprehension's items, each alone: no memory is touched -/
theorem lc_pure {g : EG} {tt : EB} {te : EE} {ρ0 : Dp.Loc} {F : D → Option D} : ∀ {ds : List D} {μ : Mem},
    (∀ d ∈ ds, gwp (g d ρ0 μ) fun ρ1 μ1 => wp (tt ρ1 μ1) (fun c μ2 => if c = true then wp (te ρ1 μ2) (fun y μ3 => F d = some y ∧ μ3 = μ) NoX else F d = none ∧ μ2 = μ) NoX) →
    Dp.Q.lcLoop g tt te ρ0 ds μ = .ok (ds.filterMap F) μ
  | [], μ, _ => rfl
  | d :: ds, μ, h => by
    have h1 := h d List.mem_cons_self
    have ih := lc_pure (F := F) (ds := ds) (μ := μ) fun x hx => h x (List.mem_cons_of_mem _ hx)
    unfold Dp.Q.lcLoop
    match hg : g d ρ0 μ with
    | none => rw [hg] at h1; exact h1.elim
    | some (ρ1, μ1) =>
      rw [hg] at h1
      dsimp only
      have h2 : wp (tt ρ1 μ1) _ NoX := h1
      cases ht : tt ρ1 μ1 with
      | bad => rw [ht] at h2; exact h2.elim
      | err x μ2 => rw [ht] at h2; exact h2.elim
      | ok c μ2 =>
        rw [ht] at h2
        have h3 : (if c = true then _ else _) := h2
        cases c with
        | true =>
          rw [if_pos rfl] at h3
          show ((te ρ1 μ2).nox.bind _) = _
          cases he : te ρ1 μ2 with
          | bad => rw [he] at h3; exact h3.elim
          | err x μ3 => rw [he] at h3; exact h3.elim
          | ok y μ3 =>
            rw [he] at h3
            obtain ⟨f, rfl⟩ : F d = some y ∧ μ3 = μ := h3
            show ((Dp.Q.lcLoop g tt te ρ0 ds μ3).bind fun ys μ4 => Res.ok (y :: ys) μ4) = _
            rw [ih, List.filterMap_cons, f]
            rfl
        | false =>
          rw [if_neg Bool.false_ne_true] at h3
          obtain ⟨f, rfl⟩ : F d = none ∧ μ2 = μ := h3
          show Dp.Q.lcLoop g tt te ρ0 ds μ2 = _
          rw [ih, List.filterMap_cons, f]
/-- without a test -/
theorem lc_map {g : EG} {te : EE} {ρ0 : Dp.Loc} {F : D → D} {ds : List D} {μ : Mem} (h : ∀ d ∈ ds, gwp (g d ρ0 μ) fun ρ1 μ1 => wp (te ρ1 μ1) (fun y μ3 => y = F d ∧ μ3 = μ) NoX) :
    Dp.Q.lcLoop g T.yes te ρ0 ds μ = .ok (ds.map F) μ := by
  rw [← List.filterMap_eq_map]
  refine lc_pure fun d hd => ?_
  have := h d hd
  match hg : g d ρ0 μ with
  | none => rw [hg] at this; exact this.elim
  | some (ρ1, μ1) =>
    rw [hg] at this
    show (if true = true then wp (te ρ1 μ1) (fun y μ3 => (some ∘ F) d = some y ∧ μ3 = μ) NoX else (some ∘ F) d = none ∧ μ1 = μ)
    rw [if_pos rfl]
    exact wp_mono this (fun a μ h => ⟨by show some (F d) = some a; rw [h.1], h.2⟩) fun _ _ h => h
end

/-! ### calls -/
theorem filterMap_nr : ∀ {ds : List D}, ds.all D.nr = true → ds.filterMap D.ref? = []
  | [], _ => rfl
  | d :: ds, h => by
    rw [List.all_cons, Bool.and_eq_true] at h
    rw [List.filterMap_cons, filterMap_nr h.2]
    cases d <;> first | rfl | (simp [D.nr] at h)
theorem map_ren : ∀ {ds : List D} (rs : List Nat), ds.all D.nr = true → ds.map (renArg rs) = ds
  | [], _, _ => rfl
  | d :: ds, rs, h => by
    rw [List.all_cons, Bool.and_eq_true] at h
    rw [List.map_cons, map_ren rs h.2]
    cases d <;> first | rfl | (simp [D.nr] at h)
theorem argOk_nr : ∀ {ds : List D}, ds.all D.nr = true → ds.all argOk = true
  | [], _ => rfl
  | d :: ds, h => by
    rw [List.all_cons, Bool.and_eq_true] at h ⊢
    refine ⟨?_, argOk_nr h.2⟩
    cases d <;> first | exact h.1 | rfl
/-- no reference is handed -/
theorem wp_proto {mb : Bool} {fn : List D → Mem → Res D} {ds : List D} {μ : Mem} {Q : D → Mem → Prop} {X : Exn → Mem → Prop} (h : ds.all D.nr = true)
    (q : wp (fn ds []) (fun d μ' => wp (outD mb [] μ' μ d) Q X) (fun x _ => x.nr = true ∧ X x μ)) : wp (proto mb fn ds μ) Q X := by
  unfold proto
  rw [filterMap_nr h, if_pos ⟨argOk_nr h, List.nodup_nil⟩, map_ren [] h]
  show wp (match fn ds [] with
    | .ok d μ' => if (μ'.take 0).all MO.flat = true ∧ 0 ≤ μ'.length then outD mb [] μ' (writeAll μ [] (μ'.take 0)) d else .bad
    | .err x μ' => if (μ'.take 0).all MO.flat = true ∧ 0 ≤ μ'.length ∧ x.nr = true then .err x (writeAll μ [] (μ'.take 0)) else .bad
    | .bad => .bad) Q X
  cases hf : fn ds [] with
  | bad => rw [hf] at q; exact q
  | ok d μ' =>
    rw [hf] at q
    dsimp only
    rw [if_pos ⟨by rw [List.take_zero]; rfl, Nat.zero_le _⟩]
    exact q
  | err x μ' =>
    rw [hf] at q
    dsimp only
    rw [if_pos ⟨by rw [List.take_zero]; rfl, Nat.zero_le _, q.1⟩]
    exact q.2
theorem outD_nr {mb : Bool} {rs : List Nat} {μ' μ2 : Mem} {d : D} (h : d.nr = true) : outD mb rs μ' μ2 d = .ok d μ2 := by unfold outD; rw [if_pos h]
/-- a def without references, by its value -/
theorem proto_val {mb : Bool} {fn : List D → Mem → Res D} {ds : List D} {μ μ' : Mem} {d : D} (h : ds.all D.nr = true) (hd : d.nr = true) (e : fn ds [] = .ok d μ') : proto mb fn ds μ = .ok d μ := by
  have := wp_proto (mb := mb) (fn := fn) (ds := ds) (μ := μ) (Q := fun a μ2 => a = d ∧ μ2 = μ) (X := NoX) h (by rw [e, wp_ok, outD_nr hd]; exact ⟨rfl, rfl⟩)
  obtain ⟨a, μ2, e, rfl, rfl⟩ := wp_iff this fun _ _ h => h
  exact e
/-- a body's run -/
theorem wp_runB {np ns : Nat} {m : ES} {ds : List D} {μ : Mem} {Q : D → Mem → Prop} {X : Exn → Mem → Prop} (h : ds.length = np)
    (q : swp (m (ds.map some ++ List.replicate (ns - ds.length) none) μ) fun f μ' => match f with
      | .next _ => Q .non μ'
      | .ret d => Q d μ'
      | .exc x _ => X x μ'
      | _ => False) : wp (runB np ns m ds μ) Q X := by
  unfold runB
  rw [if_pos h]
  revert q
  match m (ds.map some ++ List.replicate (ns - ds.length) none) μ with
  | some (.next _, μ') => exact fun q => q
  | some (.ret d, μ') => exact fun q => q
  | some (.exc x _, μ') => exact fun q => q
  | some (.brk _, μ') => exact fun q => q
  | some (.cont _, μ') => exact fun q => q
  | none => exact fun q => q
/-- one reference is handed, in the first place -/
theorem wp_proto1 {mb : Bool} {fn : List D → Mem → Res D} {i : Nat} {o : MO} {ds : List D} {μ : Mem} {Q : D → Mem → Prop} {X : Exn → Mem → Prop} (hi : μ[i]? = some o) (ho : o.flat = true) (h : ds.all D.nr = true)
    (q : wp (fn (.ref 0 :: ds) [o]) (fun d μ' => ∃ o' t, μ' = o' :: t ∧ o'.flat = true ∧ wp (outD mb [i] μ' (μ.set i o') d) Q X) (fun x μ' => ∃ o' t, μ' = o' :: t ∧ o'.flat = true ∧ x.nr = true ∧ X x (μ.set i o'))) : wp (proto mb fn (.ref i :: ds) μ) Q X := by
  have hfm : (D.ref i :: ds).filterMap D.ref? = [i] := by rw [List.filterMap_cons, filterMap_nr h]; rfl
  have hmap : (D.ref i :: ds).map (renArg [i]) = .ref 0 :: ds := by
    rw [List.map_cons, map_ren [i] h]
    show D.ref (List.idxOf i [i]) :: ds = _
    rw [List.idxOf_cons_self]
  have hsub : subMem μ [i] = some [o] := by
    show (match μ[i]?, subMem μ [] with
      | some o, some q => if o.flat = true then some (o :: q) else none
      | _, _ => none) = _
    rw [hi]
    show (if o.flat = true then some (o :: []) else none) = _
    rw [if_pos ho]
  unfold proto
  rw [hfm, if_pos ⟨by rw [List.all_cons, argOk_nr h]; rfl, by simp⟩, hsub, hmap]
  show wp (match fn (.ref 0 :: ds) [o] with
    | .ok d μ' => if (μ'.take 1).all MO.flat = true ∧ 1 ≤ μ'.length then outD mb [i] μ' (writeAll μ [i] (μ'.take 1)) d else .bad
    | .err x μ' => if (μ'.take 1).all MO.flat = true ∧ 1 ≤ μ'.length ∧ x.nr = true then .err x (writeAll μ [i] (μ'.take 1)) else .bad
    | .bad => .bad) Q X
  cases hf : fn (.ref 0 :: ds) [o] with
  | bad => rw [hf] at q; exact q
  | ok d μ' =>
    rw [hf] at q
    obtain ⟨o', t, rfl, h1, h2⟩ := q
    dsimp only
    rw [if_pos ⟨by simp [h1], by simp⟩]
    exact h2
  | err x μ' =>
    rw [hf] at q
    obtain ⟨o', t, rfl, h1, h2, h3⟩ := q
    dsimp only
    rw [if_pos ⟨by simp [h1], by simp, h2⟩]
    exact h3
end Dp

namespace Dp
open PySem PySem.Spec PyProof.Rows L2
/-! ### operations on known forms -/
section
variable {μ : Mem}
@[simp] theorem add_int {i j : Int} : Op.add (.int i) (.int j) μ = .ok (.int (i + j)) μ := id rfl
@[simp] theorem sub_int {i j : Int} : Op.sub (.int i) (.int j) μ = .ok (.int (i - j)) μ := id rfl
@[simp] theorem neg_int {i : Int} : Op.neg (.int i) μ = .ok (.int (-i)) μ := id rfl
theorem add_tup {a b : List D} (h : a.length + b.length ≤ 16777216) : Op.add (.tup a) (.tup b) μ = .ok (.tup (a ++ b)) μ := by
  show (if a.length + b.length ≤ 16777216 then _ else _) = _
  rw [if_pos h]
theorem add_lst {a b : List D} (h : a.length + b.length ≤ 16777216) : Op.add (.lst a) (.lst b) μ = .ok (.lst (a ++ b)) μ := by
  show (if a.length + b.length ≤ 16777216 then _ else _) = _
  rw [if_pos h]
theorem log2_le {n k : Nat} (h : n < 2 ^ k) : n.log2 ≤ k := by
  by_cases h0 : n = 0
  · subst h0; simp
  · exact Nat.le_of_lt ((Nat.log2_lt h0).mpr h)
theorem o_mul {i j : Int} (h1 : -1000000000000000000000000000000000000000000000000000000000000000000000000000 ≤ i) (h2 : i ≤ 1000000000000000000000000000000000000000000000000000000000000000000000000000)
    (h3 : -1000000000000000000000000000000000000000000000000000000000000000000000000000 ≤ j) (h4 : j ≤ 1000000000000000000000000000000000000000000000000000000000000000000000000000) : Op.mul (.int i) (.int j) μ = .ok (.int (i * j)) μ := by
  show (if i.natAbs.log2 + j.natAbs.log2 < 100000000 then _ else _) = _
  have a : i.natAbs.log2 ≤ 250 := log2_le (by have e : (2:Nat) ^ 250 = 1809251394333065553493296640760748560207343510400633813116524750123642650624 := by decide
                                              omega)
  have b : j.natAbs.log2 ≤ 250 := log2_le (by have e : (2:Nat) ^ 250 = 1809251394333065553493296640760748560207343510400633813116524750123642650624 := by decide
                                              omega)
  rw [if_pos (by omega)]
theorem o_mod {i j : Int} (h : 0 < j) : Op.mod (.int i) (.int j) μ = .ok (.int (i % j)) μ := by
  show (if 0 < j then _ else _) = _
  rw [if_pos h]
theorem o_fdiv {i j : Int} (h : 0 < j) (h2 : j ≤ 1000000000000000000000000000000000000000000000000000000000000000000000000000) : Op.fdiv (.int i) (.int j) μ = .ok (.int (i / j)) μ := by
  show (if 0 < j ∧ j.natAbs.log2 < 9000 then _ else _) = _
  have b : j.natAbs.log2 ≤ 250 := log2_le (by have e : (2:Nat) ^ 250 = 1809251394333065553493296640760748560207343510400633813116524750123642650624 := by decide
                                              omega)
  rw [if_pos ⟨h, by omega⟩]
theorem bits_le {i : Int} (h1 : -1000000000000000000000000000000000000000000000000000000000000000000000000000 ≤ i) (h2 : i ≤ 1000000000000000000000000000000000000000000000000000000000000000000000000000) : Builtin.Int.intBits i ≤ 251 := by
  have b : i.natAbs.log2 ≤ 250 := log2_le (by have e : (2:Nat) ^ 250 = 1809251394333065553493296640760748560207343510400633813116524750123642650624 := by decide
                                              omega)
  unfold Builtin.Int.intBits
  split <;> omega
theorem o_pow {i j : Int} (h1 : -1000000000000000000000000000000000000000000000000000000000000000000000000000 ≤ i) (h2 : i ≤ 1000000000000000000000000000000000000000000000000000000000000000000000000000) (h3 : 0 ≤ j) (h4 : j ≤ 100000) :
    Op.pow (.int i) (.int j) μ = .ok (.int (i ^ j.toNat)) μ := by
  show (if 0 ≤ j ∧ (Builtin.Int.intBits i : Int) * j ≤ 2 ^ 27 then _ else _) = _
  have b := bits_le h1 h2
  have : (Builtin.Int.intBits i : Int) * j ≤ 251 * 100000 := Int.mul_le_mul (by omega) h4 h3 (by decide)
  rw [if_pos ⟨h3, by omega⟩]
@[simp] theorem lt_int {i j : Int} : Op.lt (.int i) (.int j) μ = .ok (.bl (decide (i < j))) μ := id rfl
@[simp] theorem gt_int {i j : Int} : Op.gt (.int i) (.int j) μ = .ok (.bl (decide (j < i))) μ := id rfl
@[simp] theorem le_int {i j : Int} : Op.le (.int i) (.int j) μ = .ok (.bl (decide (i ≤ j))) μ := id rfl
@[simp] theorem ge_int {i j : Int} : Op.ge (.int i) (.int j) μ = .ok (.bl (decide (j ≤ i))) μ := id rfl
@[simp] theorem le_str {i j : Str} : Op.le (.str i) (.str j) μ = .ok (.bl (!decide (j.cps.toList < i.cps.toList))) μ := id rfl
@[simp] theorem is_non {d : D} : Op.is d .non μ = .ok (.bl (Op.isNone d)) μ := id rfl
@[simp] theorem isNot_non {d : D} : Op.isNot d .non μ = .ok (.bl (!Op.isNone d)) μ := id rfl
theorem view_of {d : D} (h : d.pl = true) : view μ d = some d := by
  unfold view
  cases d <;> first | (simp only [h, if_true]; done) | (rw [D.pl] at h; cases h) | (simp [h])
theorem eq_pl {a b : D} (ha : a.pl = true) (hb : b.pl = true) (hd : min a.py.depth b.py.depth ≤ 150) : Op.eq a b μ = .ok (.bl (PyData.eqv a.py b.py)) μ := by
  unfold Op.eq; rw [view_of ha, view_of hb]; exact if_pos hd
theorem ne_pl {a b : D} (ha : a.pl = true) (hb : b.pl = true) (hd : min a.py.depth b.py.depth ≤ 150) : Op.ne a b μ = .ok (.bl (!PyData.eqv a.py b.py)) μ := by
  unfold Op.ne; rw [view_of ha, view_of hb]; exact if_pos hd
@[simp] theorem eq_int {i j : Int} : Op.eq (.int i) (.int j) μ = .ok (.bl (decide (i = j))) μ := by
  rw [eq_pl rfl rfl (by show min (0:Nat) 0 ≤ 150; decide)]
  rfl
@[simp] theorem ne_int {i j : Int} : Op.ne (.int i) (.int j) μ = .ok (.bl (!decide (i = j))) μ := by
  rw [ne_pl rfl rfl (by show min (0:Nat) 0 ≤ 150; decide)]
  rfl
@[simp] theorem eq_str {i j : Str} : Op.eq (.str i) (.str j) μ = .ok (.bl (decide (i = j))) μ := by
  rw [eq_pl rfl rfl (by show min (0:Nat) 0 ≤ 150; decide)]
  rfl
@[simp] theorem ne_str {i j : Str} : Op.ne (.str i) (.str j) μ = .ok (.bl (!decide (i = j))) μ := by
  rw [ne_pl rfl rfl (by show min (0:Nat) 0 ≤ 150; decide)]
  rfl
@[simp] theorem eq_bl {i j : Bool} : Op.eq (.bl i) (.bl j) μ = .ok (.bl (decide (i = j))) μ := by cases i <;> cases j <;> exact id rfl
@[simp] theorem ne_bl {i j : Bool} : Op.ne (.bl i) (.bl j) μ = .ok (.bl (!decide (i = j))) μ := by cases i <;> cases j <;> exact id rfl
theorem eqv_self (d : D) : PyData.eqv d.py d.py = true := PySem.SeqAt.eqv_refl_plain _ (plain_py d)
/-- against () -/
@[simp] theorem eq_tup0 {xs : List D} (h : plAll xs = true) : Op.eq (.tup xs) (.tup []) μ = .ok (.bl xs.isEmpty) μ := by
  rw [eq_pl (by rw [D.pl]; exact h) rfl (by rw [show (D.tup []).py.depth = 1 from rfl]; omega)]
  congr 2
  cases xs with
  | nil => rfl
  | cons x xs => rw [D.py, D.py, pyAll, pyAll, PyData.eqv, PyData.eqvAll]; rfl
@[simp] theorem eq_tup00 : Op.eq (.tup []) (.tup []) μ = .ok (.bl true) μ := eq_tup0 rfl
theorem atI_nn {α : Type} {xs : List α} {j : Int} (h : 0 ≤ j) : atI xs j = xs[j.toNat]? := by
  unfold atI ixN
  rw [if_pos h]
  by_cases h1 : j < xs.length
  · rw [if_pos h1]; rfl
  · rw [if_neg h1, List.getElem?_eq_none (by omega)]; rfl
theorem item_tup {xs : List D} {j : Int} (h : 0 ≤ j) : Op.item (.tup xs) (.int j) μ = ok? (xs[j.toNat]?) μ := by
  show ok? (atI xs j) μ = _
  rw [atI_nn h]
theorem item_lst {xs : List D} {j : Int} (h : 0 ≤ j) : Op.item (.lst xs) (.int j) μ = ok? (xs[j.toNat]?) μ := by
  show ok? (atI xs j) μ = _
  rw [atI_nn h]
@[simp] theorem item_t20 {a : D} {xs : List D} : Op.item (.tup (a :: xs)) (.int 0) μ = .ok a μ := by rw [item_tup (by decide)]; rfl
@[simp] theorem item_l20 {a : D} {xs : List D} : Op.item (.lst (a :: xs)) (.int 0) μ = .ok a μ := by rw [item_lst (by decide)]; rfl
@[simp] theorem item_t21 {a b : D} {xs : List D} : Op.item (.tup (a :: b :: xs)) (.int 1) μ = .ok b μ := by rw [item_tup (by decide)]; rfl
@[simp] theorem item_l21 {a b : D} {xs : List D} : Op.item (.lst (a :: b :: xs)) (.int 1) μ = .ok b μ := by rw [item_lst (by decide)]; rfl
@[simp] theorem item_t22 {a b c : D} {xs : List D} : Op.item (.tup (a :: b :: c :: xs)) (.int 2) μ = .ok c μ := by rw [item_tup (by decide)]; rfl
@[simp] theorem item_l22 {a b c : D} {xs : List D} : Op.item (.lst (a :: b :: c :: xs)) (.int 2) μ = .ok c μ := by rw [item_lst (by decide)]; rfl
@[simp] theorem item_t23 {a b c d : D} {xs : List D} : Op.item (.tup (a :: b :: c :: d :: xs)) (.int 3) μ = .ok d μ := by rw [item_tup (by decide)]; rfl
@[simp] theorem item_l23 {a b c d : D} {xs : List D} : Op.item (.lst (a :: b :: c :: d :: xs)) (.int 3) μ = .ok d μ := by rw [item_lst (by decide)]; rfl
@[simp] theorem item_l24 {a b c d e : D} {xs : List D} : Op.item (.lst (a :: b :: c :: d :: e :: xs)) (.int 4) μ = .ok e μ := by rw [item_lst (by decide)]; rfl
@[simp] theorem item_l25 {a b c d e f : D} {xs : List D} : Op.item (.lst (a :: b :: c :: d :: e :: f :: xs)) (.int 5) μ = .ok f μ := by rw [item_lst (by decide)]; rfl
theorem mul_str {x : Str} {j : Int} (h : 2 ≤ j ∧ j ≤ 1000 ∧ 0 < x.length ∧ x.length ≤ 1000) : Op.mul (.str x) (.int j) μ = .ok (.str (Op.repS j.toNat x)) μ := by
  show (if 2 ≤ j ∧ j ≤ 1000 ∧ 0 < x.length ∧ x.length ≤ 1000 then _ else _) = _
  rw [if_pos h]
@[simp] theorem mul_str0 {x : Str} : Op.mul (.str x) (.int 0) μ = .ok (.str Str.empty) μ := id rfl
@[simp] theorem mul_str1 {x : Str} : Op.mul (.str x) (.int 1) μ = .ok (.str x) μ := id rfl
theorem mul_lst {x : List D} {j : Int} (h : -(2 ^ 63) ≤ j ∧ j < 2 ^ 63 ∧ x.length * j.toNat ≤ 16777216) : Op.mul (.lst x) (.int j) μ = .ok (.lst (Op.repL j.toNat x)) μ := by
  show (if -(2 ^ 63) ≤ j ∧ j < 2 ^ 63 ∧ x.length * j.toNat ≤ 16777216 then _ else _) = _
  rw [if_pos h]
theorem item_ref {i : Nat} {xs : List D} {j : Int} (hi : μ[i]? = some (.lst xs)) (h : 0 ≤ j) : Op.item (.ref i) (.int j) μ = ok? (xs[j.toNat]?) μ := by
  show Op.itemG (.ref i) (.int j) μ = _
  unfold Op.itemG seeQ
  simp only [hi]
  show ok? (atI xs j) μ = _
  rw [atI_nn h]
theorem item_scr {ns : List Int} {j : Int} (h : 0 ≤ j) : Op.item (.scr ns) (.int j) μ = ok? ((ns[j.toNat]?).map D.int) μ := by
  show ok? (atI (ns.map D.int) j) μ = _
  rw [atI_nn h, List.getElem?_map]
@[simp] theorem ok_some {α : Type} {a : α} : ok? (some a) μ = .ok a μ := id rfl
theorem set_ref {i : Nat} {xs : List D} {j : Int} {d : D} (hi : μ[i]? = some (.lst xs)) (h : 0 ≤ j) (h2 : j < xs.length) : Op.set (.ref i) (.int j) d μ = some (μ.set i (.lst (xs.set j.toNat d))) := by
  unfold Op.set
  simp only [hi]
  unfold ixN
  rw [if_pos h, if_pos h2]
@[simp] theorem item_r00 {a : D} {xs : List D} {μ : Mem} : Op.item (.ref 0) (.int 0) (.lst (a :: xs) :: μ) = .ok a (.lst (a :: xs) :: μ) := item_ref (i := 0) (xs := a :: xs) rfl (by decide)
@[simp] theorem item_r01 {a b : D} {xs : List D} {μ : Mem} : Op.item (.ref 0) (.int 1) (.lst (a :: b :: xs) :: μ) = .ok b (.lst (a :: b :: xs) :: μ) := item_ref (i := 0) (xs := a :: b :: xs) rfl (by decide)
@[simp] theorem item_r02 {a b c : D} {xs : List D} {μ : Mem} : Op.item (.ref 0) (.int 2) (.lst (a :: b :: c :: xs) :: μ) = .ok c (.lst (a :: b :: c :: xs) :: μ) := item_ref (i := 0) (xs := a :: b :: c :: xs) rfl (by decide)
@[simp] theorem set_r00 {a d : D} {xs : List D} {μ : Mem} : Op.set (.ref 0) (.int 0) d (.lst (a :: xs) :: μ) = some (.lst (d :: xs) :: μ) := set_ref (i := 0) (xs := a :: xs) rfl (by decide) (by simp)
@[simp] theorem set_r02 {a b c d : D} {xs : List D} {μ : Mem} : Op.set (.ref 0) (.int 2) d (.lst (a :: b :: c :: xs) :: μ) = some (.lst (a :: b :: d :: xs) :: μ) := set_ref (i := 0) (xs := a :: b :: c :: xs) rfl (by decide) (by simp; omega)
@[simp] theorem len_str {x : Str} (h : x.length ≤ 16777216) : F.len [.str x] μ = .ok (.int x.length) μ := by
  show (if x.length ≤ 16777216 then _ else _) = _
  rw [if_pos h]
@[simp] theorem len_tup {x : List D} : F.len [.tup x] μ = .ok (.int x.length) μ := id rfl
@[simp] theorem len_lst {x : List D} : F.len [.lst x] μ = .ok (.int x.length) μ := id rfl
@[simp] theorem len_scr {x : List Int} : F.len [.scr x] μ = .ok (.int x.length) μ := by
  show Res.ok (D.int ((x.map D.int).length)) μ = _
  rw [List.length_map]
@[simp] theorem fint_int {i : Int} : F.int [.int i] μ = .ok (.int i) μ := id rfl
@[simp] theorem fabs_int {i : Int} : F.abs [.int i] μ = .ok (.int (if i < 0 then -i else i)) μ := id rfl
@[simp] theorem max_int {i j : Int} : F.max [.int i, .int j] μ = .ok (.int (if j > i then j else i)) μ := id rfl
@[simp] theorem min_int {i j : Int} : F.min [.int i, .int j] μ = .ok (.int (if j < i then j else i)) μ := id rfl
@[simp] theorem tuple_lst {xs : List D} : F.tuple [.lst xs] μ = .ok (.tup xs) μ := id rfl
@[simp] theorem tuple_tup {xs : List D} : F.tuple [.tup xs] μ = .ok (.tup xs) μ := id rfl
@[simp] theorem list_lst {xs : List D} : F.list [.lst xs] μ = .ok (.lst xs) μ := id rfl
@[simp] theorem list_tup {xs : List D} : F.list [.tup xs] μ = .ok (.lst xs) μ := id rfl
theorem boolsOf_map (bs : List Bool) : F.boolsOf (bs.map D.bl) = some bs := by
  induction bs with
  | nil => rfl
  | cons b bs ih => rw [List.map_cons, F.boolsOf, ih]; rfl
theorem all_bls {xs : List D} {bs : List Bool} (h : xs = bs.map D.bl) : F.all [.lst xs] μ = .ok (.bl (bs.all id)) μ := by
  subst h
  show (match (some (bs.map D.bl)).bind F.boolsOf with
    | some bs => Res.ok (D.bl (bs.all id)) μ
    | none => .bad) = _
  rw [Option.bind_some, boolsOf_map]
theorem any_bls {xs : List D} {bs : List Bool} (h : xs = bs.map D.bl) : F.any [.lst xs] μ = .ok (.bl (bs.any id)) μ := by
  subst h
  show (match (some (bs.map D.bl)).bind F.boolsOf with
    | some bs => Res.ok (D.bl (bs.any id)) μ
    | none => .bad) = _
  rw [Option.bind_some, boolsOf_map]
/-- all of a mapped list -/
theorem all_map {α : Type} {xs : List α} {f : α → Bool} : F.all [.lst (xs.map fun x => D.bl (f x))] μ = .ok (.bl (xs.all f)) μ := by
  rw [all_bls (bs := xs.map f) (by rw [List.map_map]; rfl)]
  congr 2
  rw [List.all_map]; rfl
theorem any_map {α : Type} {xs : List α} {f : α → Bool} : F.any [.lst (xs.map fun x => D.bl (f x))] μ = .ok (.bl (xs.any f)) μ := by
  rw [any_bls (bs := xs.map f) (by rw [List.map_map]; rfl)]
  congr 2
  rw [List.any_map]; rfl
@[simp] theorem all_true {α : Type} {xs : List α} : F.all [.lst (xs.map fun _ => D.bl true)] μ = .ok (.bl true) μ := by
  have := all_map (μ := μ) (xs := xs) (f := fun _ => true)
  rw [this]; simp
@[simp] theorem isTy_int {t : Ty} {i : Int} : Op.isTy t (.int i) μ = .ok (.bl (t.has .int)) μ := id rfl
@[simp] theorem isTy_bl {t : Ty} {i : Bool} : Op.isTy t (.bl i) μ = .ok (.bl (t.has .bl)) μ := id rfl
@[simp] theorem isTy_str {t : Ty} {i : Str} : Op.isTy t (.str i) μ = .ok (.bl (t.has .str)) μ := id rfl
@[simp] theorem isTy_tup {t : Ty} {i : List D} : Op.isTy t (.tup i) μ = .ok (.bl (t.has .tup)) μ := id rfl
@[simp] theorem isTy_lst {t : Ty} {i : List D} : Op.isTy t (.lst i) μ = .ok (.bl (t.has .lst)) μ := id rfl
@[simp] theorem isTy_non {t : Ty} : Op.isTy t .non μ = .ok (.bl (t.has .non)) μ := id rfl
@[simp] theorem tru_bl {b : Bool} : E.tru (.bl b) μ = .ok b μ := id rfl
@[simp] theorem tru_int {i : Int} : E.tru (.int i) μ = .ok (i != 0) μ := id rfl
@[simp] theorem tru_non : E.tru .non μ = .ok false μ := id rfl
@[simp] theorem tru_tup {xs : List D} : E.tru (.tup xs) μ = .ok (!xs.isEmpty) μ := id rfl
@[simp] theorem tru_lst {xs : List D} : E.tru (.lst xs) μ = .ok (!xs.isEmpty) μ := id rfl
/-- parts from the left, to the right -/
theorem slice_pre {xs : List D} {n : Nat} (h : n ≤ xs.length) : Op.slice (.tup xs) none (some (n : Int)) μ = .ok (.tup (xs.take n)) μ := by
  show Res.ok (D.tup (cutD xs none (some (n : Int)))) μ = _
  unfold cutD
  rw [HT.sIx_none, show HT.sIx xs.length xs.length (some (n : Int)) = min n xs.length from HT.sIx_nat xs.length xs.length n, Nat.min_eq_left h]
  simp
theorem slice_suf {xs : List D} {n : Nat} (h : n ≤ xs.length) : Op.slice (.tup xs) (some (n : Int)) none μ = .ok (.tup (xs.drop n)) μ := by
  show Res.ok (D.tup (cutD xs (some (n : Int)) none)) μ = _
  unfold cutD
  rw [HT.sIx_none, show HT.sIx xs.length 0 (some (n : Int)) = min n xs.length from HT.sIx_nat xs.length 0 n, Nat.min_eq_left h]
  rw [List.take_of_length_le (by rw [List.length_drop]; omega)]
end
@[simp] theorem nr_int {i : Int} : (D.int i).nr = true := id rfl
@[simp] theorem nr_bl {i : Bool} : (D.bl i).nr = true := id rfl
@[simp] theorem nr_str {i : Str} : (D.str i).nr = true := id rfl
@[simp] theorem nr_non : D.non.nr = true := id rfl
@[simp] theorem nr_scr {i : List Int} : (D.scr i).nr = true := id rfl
@[simp] theorem nr_tup {i : List D} : (D.tup i).nr = nrAll i := by rw [D.nr]
@[simp] theorem nr_lst {i : List D} : (D.lst i).nr = nrAll i := by rw [D.nr]
@[simp] theorem nrAll_nil : nrAll [] = true := id rfl
@[simp] theorem nrAll_cons {x : D} {xs : List D} : nrAll (x :: xs) = (x.nr && nrAll xs) := by rw [nrAll]
@[simp] theorem pl_int {i : Int} : (D.int i).pl = true := id rfl
@[simp] theorem pl_bl {i : Bool} : (D.bl i).pl = true := id rfl
@[simp] theorem pl_str {i : Str} : (D.str i).pl = true := id rfl
@[simp] theorem pl_non : D.non.pl = true := id rfl
@[simp] theorem pl_tup {i : List D} : (D.tup i).pl = plAll i := by rw [D.pl]
@[simp] theorem pl_lst {i : List D} : (D.lst i).pl = plAll i := by rw [D.pl]
@[simp] theorem plAll_nil : plAll [] = true := id rfl
@[simp] theorem plAll_cons {x : D} {xs : List D} : plAll (x :: xs) = (x.pl && plAll xs) := by rw [plAll]
mutual
theorem pl_nr : ∀ d : D, d.pl = true → d.nr = true
  | .non, _ => rfl
  | .bl _, _ => rfl
  | .int _, _ => rfl
  | .str _, _ => rfl
  | .tup xs, h => by rw [D.pl] at h; rw [D.nr]; exact plAll_nr xs h
  | .lst xs, h => by rw [D.pl] at h; rw [D.nr]; exact plAll_nr xs h
  | .dct _ _, h => by rw [D.pl] at h; cases h
  | .ref _, h => by rw [D.pl] at h; cases h
  | .adr _, h => by rw [D.pl] at h; cases h
  | .ty _, h => by rw [D.pl] at h; cases h
  | .scr _, h => by rw [D.pl] at h; cases h
theorem plAll_nr : ∀ ds : List D, plAll ds = true → nrAll ds = true
  | [], _ => rfl
  | d :: ds, h => by
    rw [plAll, Bool.and_eq_true] at h
    rw [nrAll, pl_nr d h.1, plAll_nr ds h.2]; rfl
end
theorem wp_lc {g : EG} {te : EE} {ρ0 : Dp.Loc} {ds : List D} {μ : Mem} {Q : List D → Mem → Prop} {X : Exn → Mem → Prop} (F : D → D) (h : ∀ d ∈ ds, gwp (g d ρ0 μ) fun ρ1 μ1 => wp (te ρ1 μ1) (fun y μ3 => y = F d ∧ μ3 = μ) NoX)
    (q : Q (ds.map F) μ) : wp (Dp.Q.lcLoop g T.yes te ρ0 ds μ) Q X := by rw [lc_map h]; exact q
/-- .. over a mapped list -/
theorem wp_lcm {α : Type} {g : EG} {te : EE} {ρ0 : Dp.Loc} {xs : List α} {c : α → D} {μ : Mem} {Q : List D → Mem → Prop} {X : Exn → Mem → Prop} (F : α → D) (h : ∀ x ∈ xs, gwp (g (c x) ρ0 μ) fun ρ1 μ1 => wp (te ρ1 μ1) (fun y μ3 => y = F x ∧ μ3 = μ) NoX)
    (q : Q (xs.map F) μ) : wp (Dp.Q.lcLoop g T.yes te ρ0 (xs.map c) μ) Q X := by
  have key : ∀ xs : List α, (∀ x ∈ xs, gwp (g (c x) ρ0 μ) fun ρ1 μ1 => wp (te ρ1 μ1) (fun y μ3 => y = F x ∧ μ3 = μ) NoX) → Dp.Q.lcLoop g T.yes te ρ0 (xs.map c) μ = .ok (xs.map F) μ := fun xs => by
    induction xs with
    | nil => exact fun _ => rfl
    | cons x xs ih =>
      intro h
      have h1 := h x List.mem_cons_self
      have h2 := ih fun y hy => h y (List.mem_cons_of_mem _ hy)
      rw [List.map_cons]
      unfold Dp.Q.lcLoop
      match hg : g (c x) ρ0 μ with
      | none => rw [hg] at h1; exact h1.elim
      | some (ρ1, μ1) =>
        rw [hg] at h1
        show ((te ρ1 μ1).nox.bind _) = _
        have h3 : wp (te ρ1 μ1) (fun y μ3 => y = F x ∧ μ3 = μ) NoX := h1
        obtain ⟨y, μ3, e, rfl, rfl⟩ := wp_iff h3 fun _ _ h => h
        rw [e]
        show ((Dp.Q.lcLoop g T.yes te ρ0 (xs.map c) μ3).bind fun ys μ4 => Res.ok (F x :: ys) μ4) = _
        rw [h2]; rfl
  rw [key xs h]; exact q
theorem depthAll_le {n : Nat} : ∀ {xs : List D}, (∀ d ∈ xs, d.py.depth ≤ n) → PyData.depthAll (pyAll xs) ≤ n
  | [], _ => by rw [pyAll, PyData.depthAll]; exact Nat.zero_le _
  | x :: xs, h => by
    rw [pyAll, PyData.depthAll]
    exact Nat.max_le.mpr ⟨h x List.mem_cons_self, depthAll_le fun d hd => h d (List.mem_cons_of_mem _ hd)⟩
theorem alikeD_of {xs : List D} (h : ∀ a ∈ xs, ∀ b ∈ xs, PySem.W.alike a.py b.py = true) (hn : ∀ a ∈ xs, Op.isNone a = false) : F.alikeD xs = true := by
  unfold F.alikeD
  rw [List.all_eq_true]
  intro a ha
  rw [hn a ha, List.all_eq_true.mpr (h a ha)]; rfl
theorem plAll_of {xs : List D} (h : ∀ d ∈ xs, d.pl = true) : plAll xs = true := by rw [plAll_all, List.all_eq_true]; exact h
theorem max_lst {μ : Mem} {x : D} {xs : List D} (h1 : plAll (x :: xs) = true) (h2 : F.alikeD (x :: xs) = true) (h3 : PyData.depthAll (pyAll (x :: xs)) ≤ 150) : F.max [.lst (x :: xs)] μ = .ok (F.maxL x xs) μ := by
  show (if plAll (x :: xs) && F.alikeD (x :: xs) && decide (PyData.depthAll (pyAll (x :: xs)) ≤ 150) then _ else _) = _
  rw [h1, h2, decide_eq_true h3]; rfl
theorem enumL_map {α : Type} (c : α → D) (a : α) (xs : List α) : Q.enumL (xs.map c) = (List.range xs.length).map fun i => .tup [.int (i : Nat), c (xs.getD i a)] := by
  unfold Q.enumL
  apply List.ext_getElem?
  intro i
  rw [List.getElem?_zipWith, List.length_map, List.getElem?_map, List.getElem?_map]
  by_cases h : i < xs.length
  · rw [List.getElem?_range h, List.getElem?_eq_getElem h]
    simp [h]
  · rw [List.getElem?_eq_none (by simpa using h : (List.range xs.length).length ≤ i)]; rfl
theorem repr_pl {d : D} {μ : Mem} (hp : d.pl = true) (h1 : d.py.showable = true) (h2 : d.py.shown.length ≤ 16777216) (h3 : d.py.depth ≤ 150) : F.repr [d] μ = .ok (.str d.py.shown) μ := by
  unfold F.repr
  dsimp only
  rw [view_of hp]
  dsimp only
  rw [h1, decide_eq_true h2, decide_eq_true h3]
  rfl
theorem repr_tup {xs : List D} {μ : Mem} (hp : plAll xs = true) (h1 : (D.tup xs).py.showable = true) (h2 : (D.tup xs).py.shown.length ≤ 16777216) (h3 : (D.tup xs).py.depth ≤ 150) : F.repr [.tup xs] μ = .ok (.str (D.tup xs).py.shown) μ :=
  repr_pl (by rw [D.pl]; exact hp) h1 h2 h3
theorem repr_lst {xs : List D} {μ : Mem} (hp : plAll xs = true) (h1 : (D.lst xs).py.showable = true) (h2 : (D.lst xs).py.shown.length ≤ 16777216) (h3 : (D.lst xs).py.depth ≤ 150) : F.repr [.lst xs] μ = .ok (.str (D.lst xs).py.shown) μ :=
  repr_pl (by rw [D.pl]; exact hp) h1 h2 h3
/-- .. with a test -/
theorem wp_lcf {α : Type} {g : EG} {tt : EB} {te : EE} {ρ0 : Dp.Loc} {xs : List α} {c : α → D} {μ : Mem} {Q : List D → Mem → Prop} {X : Exn → Mem → Prop} (p : α → Bool) (F : α → D)
    (h : ∀ x ∈ xs, gwp (g (c x) ρ0 μ) fun ρ1 μ1 => wp (tt ρ1 μ1) (fun b μ2 => b = p x ∧ (if b = true then wp (te ρ1 μ2) (fun y μ3 => y = F x ∧ μ3 = μ) NoX else μ2 = μ)) NoX)
    (q : Q ((xs.filter p).map F) μ) : wp (Dp.Q.lcLoop g tt te ρ0 (xs.map c) μ) Q X := by
  have key : ∀ xs : List α, (∀ x ∈ xs, gwp (g (c x) ρ0 μ) fun ρ1 μ1 => wp (tt ρ1 μ1) (fun b μ2 => b = p x ∧ (if b = true then wp (te ρ1 μ2) (fun y μ3 => y = F x ∧ μ3 = μ) NoX else μ2 = μ)) NoX) → Dp.Q.lcLoop g tt te ρ0 (xs.map c) μ = .ok ((xs.filter p).map F) μ := fun xs => by
    induction xs with
    | nil => exact fun _ => rfl
    | cons x xs ih =>
      intro h
      have h1 := h x List.mem_cons_self
      have h2 := ih fun y hy => h y (List.mem_cons_of_mem _ hy)
      rw [List.map_cons]
      unfold Dp.Q.lcLoop
      match hg : g (c x) ρ0 μ with
      | none => rw [hg] at h1; exact h1.elim
      | some (ρ1, μ1) =>
        rw [hg] at h1
        have h3 : wp (tt ρ1 μ1) (fun b μ2 => b = p x ∧ (if b = true then wp (te ρ1 μ2) (fun y μ3 => y = F x ∧ μ3 = μ) NoX else μ2 = μ)) NoX := h1
        obtain ⟨b, μ2, e, hb, h4⟩ := wp_iff h3 fun _ _ h => h
        dsimp only
        rw [e, List.filter_cons, ← hb]
        cases b with
        | false =>
          rw [if_neg Bool.false_ne_true] at h4 ⊢
          subst h4
          exact h2
        | true =>
          rw [if_pos rfl] at h4 ⊢
          obtain ⟨y, μ3, e2, rfl, rfl⟩ := wp_iff h4 fun _ _ h => h
          show ((te ρ1 μ2).nox.bind _) = _
          rw [e2]
          show ((Dp.Q.lcLoop g tt te ρ0 (xs.map c) μ3).bind fun ys μ4 => Res.ok (F x :: ys) μ4) = _
          rw [h2]; rfl
  rw [key xs h]; exact q
/-- a def without references, by its run -/
theorem proto_run {mb : Bool} {np ns : Nat} {m : ES} {ds : List D} {μ : Mem} {d : D} (h : ds.all D.nr = true) (hd : d.nr = true) (hl : ds.length = np)
    (q : swp (m (ds.map some ++ List.replicate (ns - ds.length) none) []) fun f _ => match f with
      | .next _ => D.non = d
      | .ret a => a = d
      | _ => False) : proto mb (runB np ns m) ds μ = .ok d μ := by
  have := wp_runB (np := np) (ns := ns) (m := m) (ds := ds) (μ := []) (Q := fun a _ => a = d) (X := NoX) hl (swp_mono q fun f μ h => by cases f <;> first | exact h | exact h.elim)
  obtain ⟨a, μ', e, ea⟩ := wp_iff this fun _ _ h => h
  subst ea
  exact proto_val h hd e
end Dp

namespace Dp
open PySem PySem.Spec PyProof.Rows L2
/-! ### raise, try: the plain side -/
section
variable {ρ : Dp.Loc} {μ : Mem} {P : Fl → Mem → Prop}
@[simp] theorem swp_raise {i : Nat} : swp (S.raise i ρ μ) P = P (.exc ⟨i, none⟩ ρ) μ := id rfl
def noXP (P : Fl → Mem → Prop) : Fl → Mem → Prop
  | .exc _ _, _ => False
  | f, μ => P f μ
@[simp] theorem noXP_next : noXP P (.next ρ) μ = P (.next ρ) μ := id rfl
@[simp] theorem noXP_brk : noXP P (.brk ρ) μ = P (.brk ρ) μ := id rfl
@[simp] theorem noXP_cont : noXP P (.cont ρ) μ = P (.cont ρ) μ := id rfl
@[simp] theorem noXP_ret {d : D} : noXP P (.ret d) μ = P (.ret d) μ := id rfl
@[simp] theorem noXP_exc {x : Exn} : noXP P (.exc x ρ) μ = False := id rfl
@[simp] theorem swp_noX {r : SR} : swp (S.noX r) P = swp r (noXP P) := by
  match r with
  | some (.next ρ, μ') => rfl
  | some (.brk ρ, μ') => rfl
  | some (.cont ρ, μ') => rfl
  | some (.ret d, μ') => rfl
  | some (.exc x ρ, μ') => rfl
  | none => rfl
@[simp] theorem swp_handle_nil {x : Exn} : swp (S.handle x [] ρ μ) P = P (.exc x ρ) μ := id rfl
@[simp] theorem swp_handle_cons {x : Exn} {h : Nat} {s : ES} {r : List (Nat × ES)} : swp (S.handle x ((h, s) :: r) ρ μ) P = if excSub x.cls h = true then swp (s ρ μ) (noXP P) else swp (S.handle x r ρ μ) P := by
  show swp (bif excSub x.cls h then S.noX (s ρ μ) else S.handle x r ρ μ) P = _
  cases excSub x.cls h with
  | true => exact swp_noX
  | false => rfl
def tryP (kn : List Nat) (hs : List (Nat × ES)) (P : Fl → Mem → Prop) : Fl → Mem → Prop
  | .exc x ρ, μ => x.cls ∈ kn ∧ swp (S.handle x hs ρ μ) P
  | f, μ => P f μ
section
variable {kn : List Nat} {hs : List (Nat × ES)}
@[simp] theorem tryP_next : tryP kn hs P (.next ρ) μ = P (.next ρ) μ := id rfl
@[simp] theorem tryP_brk : tryP kn hs P (.brk ρ) μ = P (.brk ρ) μ := id rfl
@[simp] theorem tryP_cont : tryP kn hs P (.cont ρ) μ = P (.cont ρ) μ := id rfl
@[simp] theorem tryP_ret {d : D} : tryP kn hs P (.ret d) μ = P (.ret d) μ := id rfl
@[simp] theorem tryP_exc {x : Exn} : tryP kn hs P (.exc x ρ) μ = (x.cls ∈ kn ∧ swp (S.handle x hs ρ μ) P) := id rfl
@[simp] theorem swp_tryM {b : ES} : swp (S.tryM kn hs b ρ μ) P = swp (b ρ μ) (tryP kn hs P) := by
  unfold S.tryM
  match b ρ μ with
  | some (.next ρ, μ') => rfl
  | some (.brk ρ, μ') => rfl
  | some (.cont ρ, μ') => rfl
  | some (.ret d, μ') => rfl
  | some (.exc x ρ, μ') =>
    show swp (if x.cls ∈ kn then S.handle x hs ρ μ' else none) P = (x.cls ∈ kn ∧ swp (S.handle x hs ρ μ') P)
    by_cases h : x.cls ∈ kn
    · rw [if_pos h]; simp [h]
    · rw [if_neg h]; simp [h]
  | none => rfl
end
end
@[simp] theorem excSub_def {a b : Nat} : excSub a b = (b == 0 || a == b) := rfl
/-- a def without references, by the error that it raises -/
theorem proto_err {mb : Bool} {np ns : Nat} {m : ES} {ds : List D} {μ : Mem} {i : Nat} (h : ds.all D.nr = true) (hl : ds.length = np)
    (q : swp (m (ds.map some ++ List.replicate (ns - ds.length) none) []) fun f _ => match f with
      | .exc x _ => x = ⟨i, none⟩
      | _ => False) : proto mb (runB np ns m) ds μ = .err ⟨i, none⟩ μ := by
  have hr : ∃ μ', runB np ns m ds [] = .err ⟨i, none⟩ μ' := by
    unfold runB
    rw [if_pos hl]
    revert q
    match m (ds.map some ++ List.replicate (ns - ds.length) none) [] with
    | some (.exc x _, μ') => intro q; exact ⟨μ', by dsimp only; rw [show x = ⟨i, none⟩ from q]⟩
    | some (.next _, μ') => exact fun q => q.elim
    | some (.ret d, μ') => exact fun q => q.elim
    | some (.brk _, μ') => exact fun q => q.elim
    | some (.cont _, μ') => exact fun q => q.elim
    | none => exact fun q => q.elim
  obtain ⟨μ', hr⟩ := hr
  unfold proto
  rw [filterMap_nr h, if_pos ⟨argOk_nr h, List.nodup_nil⟩, map_ren [] h]
  show (match runB np ns m ds [] with
    | .ok d μ' => if (μ'.take 0).all MO.flat = true ∧ 0 ≤ μ'.length then outD mb [] μ' (writeAll μ [] (μ'.take 0)) d else .bad
    | .err x μ' => if (μ'.take 0).all MO.flat = true ∧ 0 ≤ μ'.length ∧ x.nr = true then .err x (writeAll μ [] (μ'.take 0)) else .bad
    | .bad => .bad) = _
  rw [hr]
  dsimp only
  rw [if_pos ⟨by rw [List.take_zero]; rfl, Nat.zero_le _, rfl⟩]
  rfl
/-- a list of the memory is walked: it is locked from then on -/
theorem anyI_ref {i : Nat} {xs : List D} {μ : Mem} (h : μ[i]? = some (.lst xs) ∨ μ[i]? = some (.flst xs)) : Dp.Q.anyI (.ref i) μ = .ok xs (μ.set i (.flst xs)) := by
  rcases h with h | h
  · show (match μ[i]? with
      | some (.lst xs) => Res.ok xs (μ.set i (.flst xs))
      | some (.flst xs) => .ok xs μ
      | _ => .bad) = _
    rw [h]
  · show (match μ[i]? with
      | some (.lst xs) => Res.ok xs (μ.set i (.flst xs))
      | some (.flst xs) => .ok xs μ
      | _ => .bad) = _
    rw [h]
    have e : μ.set i (.flst xs) = μ := by
      apply List.ext_getElem?
      intro j
      by_cases hj : i = j
      · subst hj
        rw [List.getElem?_set_self (List.getElem?_eq_some_iff.mp h).1, h]
      · rw [List.getElem?_set_ne hj]
    rw [e]
end Dp

namespace Dp
open PySem PySem.Spec PyProof.Rows L2
/-! data without bools and dicts: eqv is equality -/
mutual
def exa : D → Bool
  | .int _ => true
  | .str _ => true
  | .non => true
  | .tup xs => exaAll xs
  | .lst xs => exaAll xs
  | _ => false
def exaAll : List D → Bool
  | [] => true
  | x :: xs => exa x && exaAll xs
end
mutual
theorem exa_eq : ∀ a b : D, exa a = true → exa b = true → PyData.eqv a.py b.py = true → a = b
  | .int i, b, _, hb, h => by
    cases b with
    | int j => simp [D.py, PyData.eqv] at h; rw [h]
    | str _ => simp [D.py, PyData.eqv] at h
    | non => simp [D.py, PyData.eqv] at h
    | tup _ => simp [D.py, PyData.eqv] at h
    | lst _ => simp [D.py, PyData.eqv] at h
    | _ => simp [exa] at hb
  | .str i, b, _, hb, h => by
    cases b with
    | int j => simp [D.py, PyData.eqv] at h
    | str _ => simp [D.py, PyData.eqv] at h; rw [h]
    | non => simp [D.py, PyData.eqv] at h
    | tup _ => simp [D.py, PyData.eqv] at h
    | lst _ => simp [D.py, PyData.eqv] at h
    | _ => simp [exa] at hb
  | .non, b, _, hb, h => by
    cases b with
    | int j => simp [D.py, PyData.eqv] at h
    | str _ => simp [D.py, PyData.eqv] at h
    | non => rfl
    | tup _ => simp [D.py, PyData.eqv] at h
    | lst _ => simp [D.py, PyData.eqv] at h
    | _ => simp [exa] at hb
  | .tup xs, b, ha, hb, h => by
    cases b with
    | int j => simp [D.py, PyData.eqv] at h
    | str _ => simp [D.py, PyData.eqv] at h
    | non => simp [D.py, PyData.eqv] at h
    | tup ys =>
      rw [D.py, D.py, PyData.eqv] at h
      rw [exa] at ha hb
      rw [exaAll_eq xs ys ha hb h]
    | lst _ => simp [D.py, PyData.eqv] at h
    | _ => simp [exa] at hb
  | .lst xs, b, ha, hb, h => by
    cases b with
    | int j => simp [D.py, PyData.eqv] at h
    | str _ => simp [D.py, PyData.eqv] at h
    | non => simp [D.py, PyData.eqv] at h
    | tup _ => simp [D.py, PyData.eqv] at h
    | lst ys =>
      rw [D.py, D.py, PyData.eqv] at h
      rw [exa] at ha hb
      rw [exaAll_eq xs ys ha hb h]
    | _ => simp [exa] at hb
  | .bl _, _, ha, _, _ => by simp [exa] at ha
  | .dct _ _, _, ha, _, _ => by simp [exa] at ha
  | .ref _, _, ha, _, _ => by simp [exa] at ha
  | .adr _, _, ha, _, _ => by simp [exa] at ha
  | .ty _, _, ha, _, _ => by simp [exa] at ha
  | .scr _, _, ha, _, _ => by simp [exa] at ha
theorem exaAll_eq : ∀ xs ys : List D, exaAll xs = true → exaAll ys = true → PyData.eqvAll (pyAll xs) (pyAll ys) = true → xs = ys
  | [], [], _, _, _ => rfl
  | [], y :: ys, _, _, h => by rw [pyAll, pyAll, PyData.eqvAll] at h; cases h
  | x :: xs, [], _, _, h => by rw [pyAll, pyAll, PyData.eqvAll] at h; cases h
  | x :: xs, y :: ys, ha, hb, h => by
    rw [exaAll, Bool.and_eq_true] at ha hb
    rw [pyAll, pyAll, PyData.eqvAll, Bool.and_eq_true] at h
    rw [exa_eq x y ha.1 hb.1 h.1, exaAll_eq xs ys ha.2 hb.2 h.2]
end
mutual
theorem exa_pl : ∀ d : D, exa d = true → d.pl = true
  | .int _, _ => rfl
  | .str _, _ => rfl
  | .non, _ => rfl
  | .tup xs, h => by rw [exa] at h; rw [D.pl]; exact exaAll_pl xs h
  | .lst xs, h => by rw [exa] at h; rw [D.pl]; exact exaAll_pl xs h
  | .bl _, h => by simp [exa] at h
  | .dct _ _, h => by simp [exa] at h
  | .ref _, h => by simp [exa] at h
  | .adr _, h => by simp [exa] at h
  | .ty _, h => by simp [exa] at h
  | .scr _, h => by simp [exa] at h
theorem exaAll_pl : ∀ ds : List D, exaAll ds = true → plAll ds = true
  | [], _ => rfl
  | d :: ds, h => by
    rw [exaAll, Bool.and_eq_true] at h
    rw [plAll, exa_pl d h.1, exaAll_pl ds h.2]; rfl
end
theorem eqv_exa {a b : D} (ha : exa a = true) (hb : exa b = true) : PyData.eqv a.py b.py = true ↔ a = b := ⟨exa_eq a b ha hb, fun h => by rw [h]; exact eqv_self b⟩
theorem eq_same {a : D} {μ : Mem} (ha : exa a = true) (hd : a.py.depth ≤ 150) : Op.eq a a μ = .ok (.bl true) μ := by
  rw [eq_pl (exa_pl a ha) (exa_pl a ha) (by omega), eqv_self]
theorem ne_same {a : D} {μ : Mem} (ha : exa a = true) (hd : a.py.depth ≤ 150) : Op.ne a a μ = .ok (.bl false) μ := by
  rw [ne_pl (exa_pl a ha) (exa_pl a ha) (by omega), eqv_self]; rfl
theorem eq_other {a b : D} {μ : Mem} (ha : exa a = true) (hb : exa b = true) (hd : min a.py.depth b.py.depth ≤ 150) (h : a ≠ b) : Op.eq a b μ = .ok (.bl false) μ := by
  rw [eq_pl (exa_pl a ha) (exa_pl b hb) hd]
  have e : PyData.eqv a.py b.py = false := by
    cases e : PyData.eqv a.py b.py with
    | true => exact absurd (exa_eq a b ha hb e) h
    | false => rfl
  rw [e]
theorem ne_other {a b : D} {μ : Mem} (ha : exa a = true) (hb : exa b = true) (hd : min a.py.depth b.py.depth ≤ 150) (h : a ≠ b) : Op.ne a b μ = .ok (.bl true) μ := by
  rw [ne_pl (exa_pl a ha) (exa_pl b hb) hd]
  have e : PyData.eqv a.py b.py = false := by
    cases e : PyData.eqv a.py b.py with
    | true => exact absurd (exa_eq a b ha hb e) h
    | false => rfl
  rw [e]; rfl
/-- a comprehension that may change the memory: J (what is to come) (what is found) memory -/
theorem wp_lcJ {g : EG} {tt : EB} {te : EE} {ρ0 : Dp.Loc} (J : List D → List D → Mem → Prop)
    (h : ∀ d ds acc μ, J (d :: ds) acc μ → gwp (g d ρ0 μ) fun ρ1 μ1 => wp (tt ρ1 μ1) (fun b μ2 => if b = true then wp (te ρ1 μ2) (fun y μ3 => J ds (acc ++ [y]) μ3) NoX else J ds acc μ2) NoX) {Q : List D → Mem → Prop} {X : Exn → Mem → Prop} :
    ∀ (ds acc : List D) (μ : Mem), J ds acc μ → (∀ ys μ', J [] (acc ++ ys) μ' → Q ys μ') → wp (Dp.Q.lcLoop g tt te ρ0 ds μ) Q X
  | [], acc, μ, j, q => by
    show wp (.ok [] μ) Q X
    exact q [] μ (by rw [List.append_nil]; exact j)
  | d :: ds, acc, μ, j, q => by
    have h1 := h d ds acc μ j
    unfold Dp.Q.lcLoop
    match hg : g d ρ0 μ with
    | none => rw [hg] at h1; exact h1.elim
    | some (ρ1, μ1) =>
      rw [hg] at h1
      have h3 : wp (tt ρ1 μ1) (fun b μ2 => if b = true then wp (te ρ1 μ2) (fun y μ3 => J ds (acc ++ [y]) μ3) NoX else J ds acc μ2) NoX := h1
      obtain ⟨b, μ2, e, h4⟩ := wp_iff h3 fun _ _ h => h
      dsimp only
      rw [e]
      cases b with
      | false =>
        rw [if_neg Bool.false_ne_true] at h4
        show wp (Dp.Q.lcLoop g tt te ρ0 ds μ2) Q X
        exact wp_lcJ J h ds acc μ2 h4 q
      | true =>
        rw [if_pos rfl] at h4
        obtain ⟨y, μ3, e2, h5⟩ := wp_iff h4 fun _ _ h => h
        show wp ((te ρ1 μ2).nox.bind fun y μ3 => (Dp.Q.lcLoop g tt te ρ0 ds μ3).bind fun ys μ4 => Res.ok (y :: ys) μ4) Q X
        rw [e2]
        show wp ((Dp.Q.lcLoop g tt te ρ0 ds μ3).bind fun ys μ4 => Res.ok (y :: ys) μ4) Q X
        have ih := wp_lcJ (Q := fun ys μ' => J [] (acc ++ (y :: ys)) μ') (X := NoX) J h ds (acc ++ [y]) μ3 h5 fun ys μ' hj => by
          rw [List.append_assoc] at hj; exact hj
        obtain ⟨ys, μ4, e3, hj⟩ := wp_iff ih fun _ _ h => h
        rw [e3]
        exact q (y :: ys) μ4 hj
theorem any_ints (k : Int) : ∀ ns : List Int, ((pyAll (ns.map D.int)).any fun z => PyData.eqv z (D.int k).py) = decide (k ∈ ns)
  | [] => rfl
  | n :: ns => by
    rw [List.map_cons, pyAll, List.any_cons, any_ints k ns]
    have e : PyData.eqv (D.int n).py (D.int k).py = decide (n = k) := by simp [D.py, PyData.eqv]; rfl
    rw [e]
    by_cases h : n = k
    · simp [h]
    · have h' : ¬ k = n := fun g => h g.symm
      simp [h, h']
theorem plAll_nums : ∀ ns : List Int, plAll (ns.map D.int) = true
  | [] => rfl
  | n :: ns => by rw [List.map_cons, plAll, plAll_nums ns]; rfl
theorem notin_ints {k : Int} {ns : List Int} {μ : Mem} : Op.notin (.int k) (.lst (ns.map D.int)) μ = .ok (.bl (!decide (k ∈ ns))) μ := by
  have e : Op.mem (.int k) (.lst (ns.map D.int)) μ = some (decide (k ∈ ns)) := by
    show (if plAll (ns.map D.int) = true ∧ min (PyData.depthAll (pyAll (ns.map D.int))) (D.int k).py.depth ≤ 150 then some ((pyAll (ns.map D.int)).any fun z => PyData.eqv z (D.int k).py) else none) = _
    rw [if_pos ⟨plAll_nums ns, by rw [show (D.int k).py.depth = 0 from rfl]; omega⟩, any_ints]
  unfold Op.notin
  rw [e]
theorem isin_ints {k : Int} {ns : List Int} {μ : Mem} : Op.isin (.int k) (.lst (ns.map D.int)) μ = .ok (.bl (decide (k ∈ ns))) μ := by
  have e : Op.mem (.int k) (.lst (ns.map D.int)) μ = some (decide (k ∈ ns)) := by
    show (if plAll (ns.map D.int) = true ∧ min (PyData.depthAll (pyAll (ns.map D.int))) (D.int k).py.depth ≤ 150 then some ((pyAll (ns.map D.int)).any fun z => PyData.eqv z (D.int k).py) else none) = _
    rw [if_pos ⟨plAll_nums ns, by rw [show (D.int k).py.depth = 0 from rfl]; omega⟩, any_ints]
  unfold Op.isin
  rw [e]
end Dp

namespace Dp
open PySem PySem.Spec PyProof.Rows L2
/-! ### plain data with small leaves: depth, bulk, repr, sameness -/
mutual
def lf : D → Bool
  | .non => true
  | .bl _ => true
  | .int i => decide (-(10 ^ 55) ≤ i ∧ i ≤ 10 ^ 55)
  | .str x => x.cps.toList.all fun c => decide (c < 1114112)
  | .tup xs => lfAll xs
  | .lst xs => lfAll xs
  | .dct _ _ => false
  | .ref _ => false
  | .adr _ => false
  | .ty _ => false
  | .scr _ => false
def lfAll : List D → Bool
  | [] => true
  | x :: xs => lf x && lfAll xs
end
mutual
def dpt : D → Nat
  | .tup xs => dptAll xs + 1
  | .lst xs => dptAll xs + 1
  | .non => 0
  | .bl _ => 0
  | .int _ => 0
  | .str _ => 0
  | .dct _ _ => 0
  | .ref _ => 0
  | .adr _ => 0
  | .ty _ => 0
  | .scr _ => 0
def dptAll : List D → Nat
  | [] => 0
  | x :: xs => max (dpt x) (dptAll xs)
end
mutual
def blk : D → Nat
  | .tup xs => blkAll xs
  | .lst xs => blkAll xs
  | .str x => x.length
  | .non => 0
  | .bl _ => 0
  | .int _ => 0
  | .dct _ _ => 0
  | .ref _ => 0
  | .adr _ => 0
  | .ty _ => 0
  | .scr _ => 0
def blkAll : List D → Nat
  | [] => 0
  | x :: xs => blk x + 1 + blkAll xs
end
@[simp] theorem lf_non : lf .non = true := id rfl
@[simp] theorem lf_bl {b : Bool} : lf (.bl b) = true := id rfl
@[simp] theorem lf_tup {xs : List D} : lf (.tup xs) = lfAll xs := by rw [lf]
@[simp] theorem lf_lst {xs : List D} : lf (.lst xs) = lfAll xs := by rw [lf]
@[simp] theorem lfAll_nil : lfAll [] = true := id rfl
@[simp] theorem lfAll_cons {x : D} {xs : List D} : lfAll (x :: xs) = (lf x && lfAll xs) := by rw [lfAll]
@[simp] theorem dpt_non : dpt .non = 0 := id rfl
@[simp] theorem dpt_bl {b : Bool} : dpt (.bl b) = 0 := id rfl
@[simp] theorem dpt_int {b : Int} : dpt (.int b) = 0 := id rfl
@[simp] theorem dpt_str {b : Str} : dpt (.str b) = 0 := id rfl
@[simp] theorem dpt_tup {xs : List D} : dpt (.tup xs) = dptAll xs + 1 := by rw [dpt]
@[simp] theorem dpt_lst {xs : List D} : dpt (.lst xs) = dptAll xs + 1 := by rw [dpt]
@[simp] theorem dptAll_nil : dptAll [] = 0 := id rfl
@[simp] theorem dptAll_cons {x : D} {xs : List D} : dptAll (x :: xs) = max (dpt x) (dptAll xs) := by rw [dptAll]
@[simp] theorem blk_non : blk .non = 0 := id rfl
@[simp] theorem blk_bl {b : Bool} : blk (.bl b) = 0 := id rfl
@[simp] theorem blk_int {b : Int} : blk (.int b) = 0 := id rfl
@[simp] theorem blk_str {b : Str} : blk (.str b) = b.length := id rfl
@[simp] theorem blk_tup {xs : List D} : blk (.tup xs) = blkAll xs := by rw [blk]
@[simp] theorem blk_lst {xs : List D} : blk (.lst xs) = blkAll xs := by rw [blk]
@[simp] theorem blkAll_nil : blkAll [] = 0 := id rfl
@[simp] theorem blkAll_cons {x : D} {xs : List D} : blkAll (x :: xs) = blk x + 1 + blkAll xs := by rw [blkAll]
theorem lf_int {i : Int} (h1 : -(10 ^ 55) ≤ i) (h2 : i ≤ 10 ^ 55) : lf (.int i) = true := decide_eq_true ⟨h1, h2⟩
theorem lfAll_mem : ∀ {xs : List D}, lfAll xs = true → ∀ d ∈ xs, lf d = true
  | x :: xs, h, d, hd => by
    rw [lfAll_cons, Bool.and_eq_true] at h
    rcases List.mem_cons.mp hd with e | e
    · rw [e]; exact h.1
    · exact lfAll_mem h.2 d e
theorem lfAll_of : ∀ {xs : List D}, (∀ d ∈ xs, lf d = true) → lfAll xs = true
  | [], _ => rfl
  | x :: xs, h => by rw [lfAll_cons, h x List.mem_cons_self, lfAll_of fun d hd => h d (List.mem_cons_of_mem _ hd)]; rfl
theorem lfAll_append {xs ys : List D} : lfAll (xs ++ ys) = (lfAll xs && lfAll ys) := by
  induction xs with
  | nil => simp
  | cons x xs ih => simp [ih, Bool.and_assoc]
theorem dptAll_append {xs ys : List D} : dptAll (xs ++ ys) = max (dptAll xs) (dptAll ys) := by
  induction xs with
  | nil => simp
  | cons x xs ih => simp [ih, Nat.max_assoc]
theorem blkAll_append {xs ys : List D} : blkAll (xs ++ ys) = blkAll xs + blkAll ys := by
  induction xs with
  | nil => simp
  | cons x xs ih => simp [ih]; omega
theorem dpt_mem : ∀ {xs : List D} {d : D}, d ∈ xs → dpt d ≤ dptAll xs
  | x :: xs, d, h => by
    rw [dptAll_cons]
    rcases List.mem_cons.mp h with e | e
    · subst e; exact Nat.le_max_left _ _
    · exact Nat.le_trans (dpt_mem e) (Nat.le_max_right _ _)
theorem blk_mem : ∀ {xs : List D} {d : D}, d ∈ xs → blk d + 1 ≤ blkAll xs
  | x :: xs, d, h => by
    rw [blkAll_cons]
    rcases List.mem_cons.mp h with e | e
    · subst e; omega
    · have := blk_mem e; omega
theorem len_blk : ∀ {xs : List D}, xs.length ≤ blkAll xs
  | [] => Nat.le_refl _
  | x :: xs => by rw [blkAll_cons, List.length_cons]; have := len_blk (xs := xs); omega
theorem dptAll_le {n : Nat} : ∀ {xs : List D}, (∀ d ∈ xs, dpt d ≤ n) → dptAll xs ≤ n
  | [], _ => by simp
  | x :: xs, h => by
    rw [dptAll_cons]
    exact Nat.max_le.mpr ⟨h x List.mem_cons_self, dptAll_le fun d hd => h d (List.mem_cons_of_mem _ hd)⟩
theorem blkAll_le {n : Nat} : ∀ {xs : List D}, (∀ d ∈ xs, blk d ≤ n) → blkAll xs ≤ (n + 1) * xs.length
  | [], _ => by simp
  | x :: xs, h => by
    rw [blkAll_cons, List.length_cons, Nat.mul_succ]
    have := h x List.mem_cons_self
    have := blkAll_le fun d hd => h d (List.mem_cons_of_mem _ hd)
    omega
mutual
theorem lf_pl : ∀ d : D, lf d = true → d.pl = true
  | .non, _ => rfl
  | .bl _, _ => rfl
  | .int _, _ => rfl
  | .str _, _ => rfl
  | .tup xs, h => by rw [lf] at h; rw [D.pl]; exact lfAll_pl xs h
  | .lst xs, h => by rw [lf] at h; rw [D.pl]; exact lfAll_pl xs h
  | .dct _ _, h => by rw [lf] at h; cases h
  | .ref _, h => by rw [lf] at h; cases h
  | .adr _, h => by rw [lf] at h; cases h
  | .ty _, h => by rw [lf] at h; cases h
  | .scr _, h => by rw [lf] at h; cases h
theorem lfAll_pl : ∀ ds : List D, lfAll ds = true → plAll ds = true
  | [], _ => rfl
  | d :: ds, h => by
    rw [lfAll, Bool.and_eq_true] at h
    rw [plAll, lf_pl d h.1, lfAll_pl ds h.2]; rfl
end
mutual
theorem py_dpt : ∀ d : D, lf d = true → d.py.depth = dpt d
  | .non, _ => rfl
  | .bl _, _ => rfl
  | .int _, _ => rfl
  | .str _, _ => rfl
  | .tup xs, h => by rw [lf] at h; rw [D.py, PyData.depth, dpt, pyAll_dpt xs h]
  | .lst xs, h => by rw [lf] at h; rw [D.py, PyData.depth, dpt, pyAll_dpt xs h]
  | .dct _ _, h => by rw [lf] at h; cases h
  | .ref _, h => by rw [lf] at h; cases h
  | .adr _, h => by rw [lf] at h; cases h
  | .ty _, h => by rw [lf] at h; cases h
  | .scr _, h => by rw [lf] at h; cases h
theorem pyAll_dpt : ∀ ds : List D, lfAll ds = true → PyData.depthAll (pyAll ds) = dptAll ds
  | [], _ => rfl
  | d :: ds, h => by
    rw [lfAll, Bool.and_eq_true] at h
    rw [pyAll, PyData.depthAll, dptAll, py_dpt d h.1, pyAll_dpt ds h.2]
end
mutual
theorem py_blk : ∀ d : D, lf d = true → d.py.bulk = blk d
  | .non, _ => rfl
  | .bl _, _ => rfl
  | .int _, _ => rfl
  | .str _, _ => rfl
  | .tup xs, h => by rw [lf] at h; rw [D.py, PyData.bulk, blk, pyAll_blk xs h]
  | .lst xs, h => by rw [lf] at h; rw [D.py, PyData.bulk, blk, pyAll_blk xs h]
  | .dct _ _, h => by rw [lf] at h; cases h
  | .ref _, h => by rw [lf] at h; cases h
  | .adr _, h => by rw [lf] at h; cases h
  | .ty _, h => by rw [lf] at h; cases h
  | .scr _, h => by rw [lf] at h; cases h
theorem pyAll_blk : ∀ ds : List D, lfAll ds = true → PyData.bulkAll (pyAll ds) = blkAll ds
  | [], _ => rfl
  | d :: ds, h => by
    rw [lfAll, Bool.and_eq_true] at h
    rw [pyAll, PyData.bulkAll, blkAll, py_blk d h.1, pyAll_blk ds h.2]
end
theorem int_sht {i : Int} (h1 : -(10 ^ 55) ≤ i) (h2 : i ≤ 10 ^ 55) : (PyData.int i).leavesShort 60 = true ∧ (PyData.int i).showable = true := by
  have hb : i.natAbs < 10 ^ 56 := by omega
  have l1 := PySem.int_text_length_le10 (a := i) (k := 56) (by decide) hb
  have l2 : i.natAbs.log2 ≤ 250 := log2_le (by have e : (2:Nat) ^ 250 = 1809251394333065553493296640760748560207343510400633813116524750123642650624 := by decide
                                               omega)
  refine ⟨?_, ?_⟩
  · rw [PyData.leavesShort]
    refine decide_eq_true ?_
    show (Str.ofString (toString i)).length ≤ 60
    rw [PySem.ofString_length]; omega
  · rw [PyData.showable]; exact decide_eq_true (by omega)
mutual
theorem lf_short : ∀ d : D, lf d = true → d.py.leavesShort 60 = true ∧ d.py.showable = true
  | .non, _ => ⟨rfl, rfl⟩
  | .bl _, _ => ⟨rfl, rfl⟩
  | .int i, h => by
    have h' := of_decide_eq_true h
    exact int_sht h'.1 h'.2
  | .str x, h => by
    refine ⟨?_, rfl⟩
    show (x.cps.toList.all fun c => decide (c < 16 ^ 8)) = true
    rw [List.all_eq_true]
    intro c hc
    have h2 := of_decide_eq_true (List.all_eq_true.mp h c hc)
    exact decide_eq_true (by omega)
  | .tup xs, h => by rw [lf] at h; rw [D.py, PyData.leavesShort, PyData.showable]; exact lfAll_short xs h
  | .lst xs, h => by rw [lf] at h; rw [D.py, PyData.leavesShort, PyData.showable]; exact lfAll_short xs h
  | .dct _ _, h => by rw [lf] at h; cases h
  | .ref _, h => by rw [lf] at h; cases h
  | .adr _, h => by rw [lf] at h; cases h
  | .ty _, h => by rw [lf] at h; cases h
  | .scr _, h => by rw [lf] at h; cases h
theorem lfAll_short : ∀ ds : List D, lfAll ds = true → PyData.leavesShortAll 60 (pyAll ds) = true ∧ PyData.showableAll (pyAll ds) = true
  | [], _ => ⟨rfl, rfl⟩
  | d :: ds, h => by
    rw [lfAll, Bool.and_eq_true] at h
    obtain ⟨a, b⟩ := lf_short d h.1
    obtain ⟨c, e⟩ := lfAll_short ds h.2
    rw [pyAll, PyData.leavesShortAll, PyData.showableAll, a, b, c, e]; exact ⟨rfl, rfl⟩
end
/-- data at most so deep, so big -/
structure Dat (n b : Nat) (d : D) : Prop where
  lf : lf d = true
  dp : dpt d ≤ n
  bk : blk d ≤ b
theorem Dat.mono {n b n' b' : Nat} {d : D} (h : Dat n b d) (h1 : n ≤ n') (h2 : b ≤ b') : Dat n' b' d := ⟨h.lf, Nat.le_trans h.dp h1, Nat.le_trans h.bk h2⟩
theorem Dat.nr {n b : Nat} {d : D} (h : Dat n b d) : d.nr = true := pl_nr _ (lf_pl _ h.lf)
theorem Dat.pl {n b : Nat} {d : D} (h : Dat n b d) : d.pl = true := lf_pl _ h.lf
theorem repr_dat {d : D} (h : Dat 150 200000 d) : ∃ s, ∀ μ, F.repr [d] μ = .ok (.str s) μ := by
  obtain ⟨a, b⟩ := lf_short d h.lf
  have hl := PySem.PyData.shown_le_bulk 60 (by decide) d.py a
  rw [py_blk d h.lf] at hl
  have hb := h.bk
  have hd := h.dp
  exact ⟨_, fun μ => repr_pl (lf_pl d h.lf) b (by omega) (by rw [py_dpt d h.lf]; omega)⟩
mutual
/-- whether two data are the same, kind by kind -/
def sameB : D → D → Bool
  | .non, .non => true
  | .bl a, .bl b => decide (a = b)
  | .int a, .int b => decide (a = b)
  | .str a, .str b => decide (a = b)
  | .tup xs, .tup ys => sameAll xs ys
  | .lst xs, .lst ys => sameAll xs ys
  | _, _ => false
def sameAll : List D → List D → Bool
  | [], [] => true
  | x :: xs, y :: ys => sameB x y && sameAll xs ys
  | _, _ => false
end
mutual
theorem sameB_iff : ∀ a b : D, lf a = true → lf b = true → (sameB a b = true ↔ a = b)
  | .tup xs, .tup ys, ha, hb => by rw [lf] at ha hb; rw [sameB, sameAll_iff xs ys ha hb]; simp
  | .lst xs, .lst ys, ha, hb => by rw [lf] at ha hb; rw [sameB, sameAll_iff xs ys ha hb]; simp
  | .non, b, _, hb => by cases b <;> first | simp [sameB] | (rw [lf] at hb; cases hb)
  | .bl _, b, _, hb => by cases b <;> first | simp [sameB] | (rw [lf] at hb; cases hb)
  | .int _, b, _, hb => by cases b <;> first | simp [sameB] | (rw [lf] at hb; cases hb)
  | .str _, b, _, hb => by cases b <;> first | simp [sameB] | (rw [lf] at hb; cases hb)
  | .tup _, .non, _, _ => by simp [sameB]
  | .tup _, .bl _, _, _ => by simp [sameB]
  | .tup _, .int _, _, _ => by simp [sameB]
  | .tup _, .str _, _, _ => by simp [sameB]
  | .tup _, .lst _, _, _ => by simp [sameB]
  | .lst _, .non, _, _ => by simp [sameB]
  | .lst _, .bl _, _, _ => by simp [sameB]
  | .lst _, .int _, _, _ => by simp [sameB]
  | .lst _, .str _, _, _ => by simp [sameB]
  | .lst _, .tup _, _, _ => by simp [sameB]
  | .dct _ _, _, h, _ => by rw [lf] at h; cases h
  | .ref _, _, h, _ => by rw [lf] at h; cases h
  | .adr _, _, h, _ => by rw [lf] at h; cases h
  | .ty _, _, h, _ => by rw [lf] at h; cases h
  | .scr _, _, h, _ => by rw [lf] at h; cases h
  | _, .dct _ _, _, h => by rw [lf] at h; cases h
  | _, .ref _, _, h => by rw [lf] at h; cases h
  | _, .adr _, _, h => by rw [lf] at h; cases h
  | _, .ty _, _, h => by rw [lf] at h; cases h
  | _, .scr _, _, h => by rw [lf] at h; cases h
theorem sameAll_iff : ∀ xs ys : List D, lfAll xs = true → lfAll ys = true → (sameAll xs ys = true ↔ xs = ys)
  | [], [], _, _ => by simp [sameAll]
  | [], _ :: _, _, _ => by simp [sameAll]
  | _ :: _, [], _, _ => by simp [sameAll]
  | x :: xs, y :: ys, ha, hb => by
    rw [lfAll, Bool.and_eq_true] at ha hb
    rw [sameAll, Bool.and_eq_true, sameB_iff x y ha.1 hb.1, sameAll_iff xs ys ha.2 hb.2]; simp
end
theorem sameAll_len : ∀ {xs ys : List D}, sameAll xs ys = true → xs.length = ys.length
  | [], [], _ => rfl
  | [], _ :: _, h => by simp [sameAll] at h
  | _ :: _, [], h => by simp [sameAll] at h
  | x :: xs, y :: ys, h => by
    rw [sameAll, Bool.and_eq_true] at h
    rw [List.length_cons, List.length_cons, sameAll_len h.2]
theorem sameAll_range : ∀ {xs ys : List D}, xs.length = ys.length → ((List.range ys.length).all fun i => sameB (xs.getD i .non) (ys.getD i .non)) = sameAll xs ys
  | [], [], _ => rfl
  | x :: xs, y :: ys, h => by
    rw [List.length_cons, List.range_succ_eq_map, List.all_cons, List.all_map, sameAll, ← sameAll_range (xs := xs) (ys := ys) (by simpa using h)]
    rfl
  | [], _ :: _, h => by simp at h
  | _ :: _, [], h => by simp at h
end Dp

namespace Dp
open PySem PySem.Spec PyProof.Rows L2
/-! ### trunc: the plain side -/
mutual
theorem nr_und {n : Nat} : ∀ d : D, d.nr = true → d.und n = true
  | .non, _ => rfl
  | .bl _, _ => rfl
  | .int _, _ => rfl
  | .str _, _ => rfl
  | .tup xs, h => by rw [D.nr] at h; rw [D.und]; exact nrAll_und xs h
  | .lst xs, h => by rw [D.nr] at h; rw [D.und]; exact nrAll_und xs h
  | .dct _ xs, h => by rw [D.nr] at h; rw [D.und]; exact nrAll_und xs h
  | .ref _, h => by rw [D.nr] at h; cases h
  | .adr _, _ => rfl
  | .ty _, _ => rfl
  | .scr _, _ => rfl
theorem nrAll_und {n : Nat} : ∀ ds : List D, nrAll ds = true → undAll n ds = true
  | [], _ => rfl
  | d :: ds, h => by
    rw [nrAll, Bool.and_eq_true] at h
    rw [undAll, nr_und d h.1, nrAll_und ds h.2]; rfl
end
mutual
theorem und_mono {n m : Nat} (h : n ≤ m) : ∀ d : D, d.und n = true → d.und m = true
  | .non, _ => rfl
  | .bl _, _ => rfl
  | .int _, _ => rfl
  | .str _, _ => rfl
  | .tup xs, q => by rw [D.und] at q ⊢; exact undAll_mono h xs q
  | .lst xs, q => by rw [D.und] at q ⊢; exact undAll_mono h xs q
  | .dct _ xs, q => by rw [D.und] at q ⊢; exact undAll_mono h xs q
  | .ref i, q => by rw [D.und, decide_eq_true_eq] at q ⊢; omega
  | .adr _, _ => rfl
  | .ty _, _ => rfl
  | .scr _, _ => rfl
theorem undAll_mono {n m : Nat} (h : n ≤ m) : ∀ ds : List D, undAll n ds = true → undAll m ds = true
  | [], _ => rfl
  | d :: ds, q => by
    rw [undAll, Bool.and_eq_true] at q
    rw [undAll, und_mono h d q.1, undAll_mono h ds q.2]; rfl
end
theorem mo_mono {n m : Nat} (h : n ≤ m) {o : MO} (q : o.und n = true) : o.und m = true := by
  cases o with
  | lst xs => exact undAll_mono h xs q
  | dct ks xs => exact undAll_mono h xs q
  | ins C ks xs => exact undAll_mono h xs q
  | gone => rfl
  | flst xs => exact undAll_mono h xs q
theorem flat_und {n : Nat} {o : MO} (h : o.flat = true) : o.und n = true := by
  cases o with
  | lst xs => exact nrAll_und xs h
  | dct ks xs => exact nrAll_und xs h
  | ins C ks xs => exact nrAll_und xs h
  | gone => rfl
  | flst xs => exact nrAll_und xs h
theorem wp_trunc {mb : Bool} {fn : List D → Mem → Res D} {ds : List D} {μ : Mem} {Q : D → Mem → Prop} {X : Exn → Mem → Prop}
    (q : wp (fn ds μ) (fun d μ' => μ.length ≤ μ'.length ∧ (μ'.take μ.length).all (MO.und μ.length) = true ∧ wp (truncOut mb μ.length μ' d) Q X)
      (fun x μ' => μ.length ≤ μ'.length ∧ (μ'.take μ.length).all (MO.und μ.length) = true ∧ x.nr = true ∧ X x (μ'.take μ.length))) : wp (trunc mb fn ds μ) Q X := by
  unfold trunc
  cases hf : fn ds μ with
  | bad => rw [hf] at q; exact q
  | ok d μ' =>
    rw [hf] at q
    dsimp only
    rw [if_pos ⟨q.1, q.2.1⟩]
    exact q.2.2
  | err x μ' =>
    rw [hf] at q
    dsimp only
    rw [if_pos ⟨q.1, q.2.1, q.2.2.1⟩]
    exact q.2.2.2
theorem truncOut_nr {mb : Bool} {n : Nat} {μ' : Mem} {d : D} (h : d.nr = true) : truncOut mb n μ' d = .ok d (μ'.take n) := by unfold truncOut; rw [if_pos (nr_und d h)]
/-- a new list, as a value -/
theorem truncOut_new {n j : Nat} {μ' : Mem} {xs : List D} (hj : n ≤ j) (h : μ'[j]? = some (.lst xs)) (hx : nrAll xs = true) : truncOut false n μ' (.ref j) = .ok (.lst xs) (μ'.take n) := by
  unfold truncOut
  rw [if_neg (by rw [D.und]; simp; omega)]
  simp only [h]
  rw [if_pos (flat_und (o := .lst xs) hx)]
  rfl
@[simp] theorem wrap0 {mb : Bool} {fn : List D → Mem → Res D} : wrap 0 mb fn = proto mb fn := id rfl
@[simp] theorem wrap1 {mb : Bool} {fn : List D → Mem → Res D} : wrap 1 mb fn = trunc mb fn := id rfl
@[simp] theorem wrap2 {mb : Bool} {fn : List D → Mem → Res D} : wrap 2 mb fn = fn := id rfl
end Dp

namespace Dp
open PySem PySem.Spec PyProof.Rows L2
section
variable {μ : Mem}
@[simp] theorem isTy2_int {s t : Ty} {i : Int} : Op.isTy2 s t (.int i) μ = .ok (.bl (s.has .int || t.has .int)) μ := id rfl
@[simp] theorem isTy2_bl {s t : Ty} {i : Bool} : Op.isTy2 s t (.bl i) μ = .ok (.bl (s.has .bl || t.has .bl)) μ := id rfl
@[simp] theorem isTy2_str {s t : Ty} {i : Str} : Op.isTy2 s t (.str i) μ = .ok (.bl (s.has .str || t.has .str)) μ := id rfl
@[simp] theorem isTy2_tup {s t : Ty} {i : List D} : Op.isTy2 s t (.tup i) μ = .ok (.bl (s.has .tup || t.has .tup)) μ := id rfl
@[simp] theorem isTy2_lst {s t : Ty} {i : List D} : Op.isTy2 s t (.lst i) μ = .ok (.bl (s.has .lst || t.has .lst)) μ := id rfl
@[simp] theorem isTy2_non {s t : Ty}  : Op.isTy2 s t (.non) μ = .ok (.bl (s.has .non || t.has .non)) μ := id rfl
end
/-! ### plain data with bounded numbers, and what a bent value may be -/
mutual
def lfI (B : Nat) : D → Bool
  | .non => true
  | .bl _ => true
  | .int i => decide (i.natAbs ≤ B)
  | .str x => x.cps.toList.all fun c => decide (c < 1114112)
  | .tup xs => lfIAll B xs
  | .lst xs => lfIAll B xs
  | .dct _ _ => false
  | .ref _ => false
  | .adr _ => false
  | .ty _ => false
  | .scr _ => false
def lfIAll (B : Nat) : List D → Bool
  | [] => true
  | x :: xs => lfI B x && lfIAll B xs
end
section
variable {B : Nat}
@[simp] theorem lfI_non : lfI B .non = true := by rw [lfI]
@[simp] theorem lfI_bl {b : Bool} : lfI B (.bl b) = true := by rw [lfI]
@[simp] theorem lfI_int {i : Int} : lfI B (.int i) = decide (i.natAbs ≤ B) := by rw [lfI]
@[simp] theorem lfI_tup {xs : List D} : lfI B (.tup xs) = lfIAll B xs := by rw [lfI]
@[simp] theorem lfI_lst {xs : List D} : lfI B (.lst xs) = lfIAll B xs := by rw [lfI]
@[simp] theorem lfIAll_nil : lfIAll B [] = true := by rw [lfIAll]
@[simp] theorem lfIAll_cons {x : D} {xs : List D} : lfIAll B (x :: xs) = (lfI B x && lfIAll B xs) := by rw [lfIAll]
theorem lfIAll_iff : ∀ {xs : List D}, lfIAll B xs = true ↔ ∀ d ∈ xs, lfI B d = true
  | [] => by simp
  | x :: xs => by rw [lfIAll_cons, Bool.and_eq_true, lfIAll_iff]; simp
mutual
theorem lfI_mono {C : Nat} (h : B ≤ C) : ∀ d : D, lfI B d = true → lfI C d = true
  | .non, _ => by simp
  | .bl _, _ => by simp
  | .int i, q => by
    rw [lfI_int, decide_eq_true_eq] at q ⊢; omega
  | .str x, q => by rw [lfI] at q ⊢; exact q
  | .tup xs, q => by rw [lfI_tup] at q ⊢; exact lfIAll_mono h xs q
  | .lst xs, q => by rw [lfI_lst] at q ⊢; exact lfIAll_mono h xs q
  | .dct _ _, q => by rw [lfI] at q; cases q
  | .ref _, q => by rw [lfI] at q; cases q
  | .adr _, q => by rw [lfI] at q; cases q
  | .ty _, q => by rw [lfI] at q; cases q
  | .scr _, q => by rw [lfI] at q; cases q
theorem lfIAll_mono {C : Nat} (h : B ≤ C) : ∀ ds : List D, lfIAll B ds = true → lfIAll C ds = true
  | [], _ => by simp
  | d :: ds, q => by
    rw [lfIAll_cons, Bool.and_eq_true] at q ⊢
    exact ⟨lfI_mono h d q.1, lfIAll_mono h ds q.2⟩
end
mutual
theorem lfI_lf (h : B ≤ 10 ^ 55) : ∀ d : D, lfI B d = true → lf d = true
  | .non, _ => by simp
  | .bl _, _ => by simp
  | .int i, q => by
    rw [lfI_int, decide_eq_true_eq] at q
    exact lf_int (by omega) (by omega)
  | .str x, q => by rw [lfI] at q; rw [lf]; exact q
  | .tup xs, q => by rw [lfI_tup] at q; rw [lf_tup]; exact lfIAll_lf h xs q
  | .lst xs, q => by rw [lfI_lst] at q; rw [lf_lst]; exact lfIAll_lf h xs q
  | .dct _ _, q => by rw [lfI] at q; cases q
  | .ref _, q => by rw [lfI] at q; cases q
  | .adr _, q => by rw [lfI] at q; cases q
  | .ty _, q => by rw [lfI] at q; cases q
  | .scr _, q => by rw [lfI] at q; cases q
theorem lfIAll_lf (h : B ≤ 10 ^ 55) : ∀ ds : List D, lfIAll B ds = true → lfAll ds = true
  | [], _ => by simp
  | d :: ds, q => by
    rw [lfIAll_cons, Bool.and_eq_true] at q
    rw [lfAll_cons, lfI_lf h d q.1, lfIAll_lf h ds q.2]; rfl
end
end
/-- what bending a value may give -/
structure BentOf (B : Nat) (v d : D) : Prop where
  lf : lfI (B + 10) d = true
  dp : dpt d ≤ dpt v + 1
  bk : blk d ≤ 3 * blk v + 100
theorem blkAll_set : ∀ {xs : List D} {i : Nat} {x e : D}, xs[i]? = some x → blkAll (xs.set i e) + blk x = blkAll xs + blk e
  | y :: xs, 0, x, e, h => by
    have : y = x := by simpa using h
    subst this
    rw [List.set_cons_zero, blkAll_cons, blkAll_cons]; omega
  | y :: xs, i + 1, x, e, h => by
    have ih := blkAll_set (xs := xs) (i := i) (x := x) (e := e) (by simpa using h)
    rw [List.set_cons_succ, blkAll_cons, blkAll_cons]; omega
theorem bent_set {B : Nat} {xs : List D} {i : Nat} {x e : D} (hx : xs[i]? = some x) (hl : lfIAll B xs = true) (h : BentOf B x e) :
    lfIAll (B + 10) (xs.set i e) = true ∧ dptAll (xs.set i e) ≤ dptAll xs + 1 ∧ blkAll (xs.set i e) ≤ 3 * blkAll xs + 100 := by
  have hm := List.mem_of_getElem? hx
  refine ⟨lfIAll_iff.mpr fun d hd => ?_, dptAll_le fun d hd => ?_, ?_⟩
  · rcases List.mem_or_eq_of_mem_set hd with g | g
    · exact lfI_mono (by omega) d (lfIAll_iff.mp hl d g)
    · rw [g]; exact h.lf
  · rcases List.mem_or_eq_of_mem_set hd with g | g
    · exact Nat.le_succ_of_le (dpt_mem g)
    · rw [g]; have := h.dp; have := dpt_mem hm; omega
  · have := blkAll_set (e := e) hx
    have h2 := h.bk
    have := blk_mem hm
    omega
/-- a list made of a list's items, at most two of each -/
theorem bent_items {B : Nat} {xs ys : List D} (hl : lfIAll B xs = true) (h : ∀ d ∈ ys, d ∈ xs) (hb : blkAll ys ≤ 3 * blkAll xs) : lfIAll (B + 10) ys = true ∧ dptAll ys ≤ dptAll xs + 1 ∧ blkAll ys ≤ 3 * blkAll xs + 100 :=
  ⟨lfIAll_iff.mpr fun d hd => lfI_mono (by omega) d (lfIAll_iff.mp hl d (h d hd)), dptAll_le fun d hd => Nat.le_succ_of_le (dpt_mem (h d hd)), by omega⟩
theorem blkAll_take (xs : List D) (n : Nat) : blkAll (xs.take n) ≤ blkAll xs := by
  have e : xs = xs.take n ++ xs.drop n := (List.take_append_drop n xs).symm
  have := blkAll_append (xs := xs.take n) (ys := xs.drop n)
  rw [← e] at this
  omega
theorem blkAll_drop (xs : List D) (n : Nat) : blkAll (xs.drop n) ≤ blkAll xs := by
  have e : xs = xs.take n ++ xs.drop n := (List.take_append_drop n xs).symm
  have := blkAll_append (xs := xs.take n) (ys := xs.drop n)
  rw [← e] at this
  omega
end Dp

namespace Dp
open PySem PySem.Spec PyProof.Rows L2
/-! ### zip of two tuples, the pairs known to the letter -/
def ItzF (K : PySem.W.Frag) (a b : Addr) : It :=
  ⟨(RZ.ItzT K a b).go, fun i H v H' => ∃ T x y ob, v = .ref T ∧ H T = none ∧ ob.dict = none ∧ H' = upd H T (.frz ob (.tup [x, y])) ∧ (∀ us, SqT K H a us → us[i]? = some x) ∧ ∀ us, SqT K H b us → us[i]? = some y, (RZ.ItzT K a b).stop⟩
theorem turn_zipF {P : Program} {w : World} {K : PySem.W.Frag} {elts : List Expr} {kk : Nat} {tpos : Pos} {a b z TI TO i1 i2 : Addr} (D : ZipApart z TI TO i1 i2 a b) :
    Turn P w K (.Tuple elts kk tpos) (ItzF K a b) [z, TI, TO, i1, i2] z (fun i h => IsZip h z TI TO .none ∧ IsPair h TI (.ref i1) (.ref i2) ∧ (∃ x y, IsPair h TO x y) ∧ h.IsTupleIter i1 a i ∧ h.IsTupleIter i2 b i) where
  mem := (RZ.turn_zipT (P := P) (w := w) (K := K) (elts := elts) (kk := kk) (tpos := tpos) D).mem
  obj := (RZ.turn_zipT (P := P) (w := w) (K := K) (elts := elts) (kk := kk) (tpos := tpos) D).obj
  keep := (RZ.turn_zipT (P := P) (w := w) (K := K) (elts := elts) (kk := kk) (tpos := tpos) D).keep
  done := (RZ.turn_zipT (P := P) (w := w) (K := K) (elts := elts) (kk := kk) (tpos := tpos) D).done
  self := (RZ.turn_zipT (P := P) (w := w) (K := K) (elts := elts) (kk := kk) (tpos := tpos) D).self
  item := by
    intro X hP hw hK hc i pins s σ H E I hf st hg
    subst hP hw hK
    obtain ⟨sz, sI, ⟨_, _, sO⟩, t1, t2⟩ := st
    obtain ⟨us, vs, x, y, qu, qv, eu, ev⟩ := hg
    obtain ⟨ju, ru, pu, _⟩ := I.tuple qu
    obtain ⟨jv, rv, pv, _⟩ := I.tuple qv
    obtain ⟨u, gu, mu⟩ := ru.get eu
    obtain ⟨v, gv, mv⟩ := rv.get ev
    have lz : z < s.heap.objs.size := Heap.lt_size sz
    refine RZ.pyNext_zipT_item D sz sI sO t1 t2 pu pv (x := u) (y := v) (by simpa using gu) (by simpa using gv) fun h1 z1 O1 n1 n2 nT nsz nk => ⟨_, rfl, wpAny_letOwnedTupleGo_zip (s := { s with heap := h1 }) z1 fun h2 z2 sb => ?_⟩
    have nT2 : h2.get? s.heap.objs.size = some { cls := .type "tuple", data := .seq #[u, v] } := (sb.2 _ (Nat.ne_of_gt lz)).trans nT
    have ok2 : ObjOk X.prog X.w (upd H s.heap.objs.size (.frz { cls := .type "tuple", data := .seq #[u, v] } (.tup [x, y]))) h2 s.heap.objs.size (.frz { cls := .type "tuple", data := .seq #[u, v] } (.tup [x, y])) :=
      ⟨nT2, by show 2 ≤ sizeLine; decide, [u, v], .cons mu (.cons mv .nil), ⟨_, nT2, rfl, _, rfl⟩⟩
    have J1 := I.turnedNew (t' := s.toks) (ch := [z, TI, TO, i1, i2]) (fun c o hb q => (sb.2 c (fun q' => hb (by simp [q']))).trans (nk c o (fun q' => hb (by simp [q'])) (fun q' => hb (by simp [q'])) (fun q' => hb (by simp [q'])) (fun q' => hb (by simp [q'])) q)) hf (Nat.le_refl _) ok2
    refine ⟨.ref s.heap.objs.size, _, J1, rfl, ⟨_, x, y, _, rfl, I.hok.fresh (Nat.le_refl _), rfl, rfl, fun l hl => by rw [I.tuple_inj hl qu]; exact eu, fun l hl => by rw [I.tuple_inj hl qv]; exact ev⟩, ⟨z2, (sb.2 _ D.TIz).trans (nk _ _ D.TIz D.TITO D.TIi1 D.TIi2 sI), ⟨u, v, (sb.2 _ D.TOz).trans O1⟩, n1.at fun o q => (sb.2 _ D.i1z).trans q, n2.at fun o q => (sb.2 _ D.i2z).trans q⟩, fun c hcm => ?_⟩
    have lc : c < s.heap.objs.size := by
      have ec : c = z ∨ c = TI ∨ c = TO ∨ c = i1 ∨ c = i2 := by simpa using hcm
      rcases ec with q | q | q | q | q <;> rw [q]
      · exact lz
      · exact Heap.lt_size sI
      · exact Heap.lt_size sO
      · obtain ⟨_, e1, _⟩ := t1; exact Heap.lt_size e1
      · obtain ⟨_, e2, _⟩ := t2; exact Heap.lt_size e2
    rw [upd_ne (Nat.ne_of_lt lc)]
    exact (hf c hcm).1
theorem walk_zipF {K : PySem.W.Frag} {a b : Addr} {us ws : List V} {n : Nat} (hn : n = min us.length ws.length) :
    Walk (ItzF K a b) n (fun H => SqT K H a us ∧ SqT K H b ws) (fun i H v H' => ∃ T x y ob, v = .ref T ∧ H T = none ∧ ob.dict = none ∧ H' = upd H T (.frz ob (.tup [x, y])) ∧ us[i]? = some x ∧ ws[i]? = some y) := by
  subst hn
  refine ⟨fun i _ hi q => ?_, fun _ q => ⟨us, ws, q.1, q.2, by omega⟩, fun i H v H' _ q y => ?_⟩
  · have h1 : i < us.length := by omega
    have h2 : i < ws.length := by omega
    exact ⟨us, ws, us[i], ws[i], q.1, q.2, by simp [h1], by simp [h2]⟩
  · obtain ⟨T, x, z, ob, h1, h2, h3, h4, h5, h6⟩ := y
    exact ⟨T, x, z, ob, h1, h2, h3, h4, h5 us q.1, h6 ws q.2⟩
theorem pairF_new {K : PySem.W.Frag} {φ : Pl} {H : Hp} {μ : Mem} {T : Addr} {x y : V} {a b : D} {ob : Obj} (hm : Rel K φ H μ) (hT : H T = none) (hd : ob.dict = none) (ha : Rep K φ H x a) (hb : Rep K φ H y b) :
    Ext φ H φ (upd H T (.frz ob (.tup [x, y]))) ∧ Rel K φ (upd H T (.frz ob (.tup [x, y]))) μ ∧ Rep K φ (upd H T (.frz ob (.tup [x, y]))) (.ref T) (.tup [a, b]) :=
  ⟨Ext.fresh hT, hm.fresh hT, rep_tupF upd_same hd (RepAll.cons_ (ha.ext (Ext.fresh hT)) (RepAll.cons_ (hb.ext (Ext.fresh hT)) RepAll.nil_))⟩
/-- zip; the pairs of two tuples' items known to the letter -/
def Q.zipF (as : EA) : EA := fun ρ μ => (as ρ μ).bind fun ds μ => match ds with
  | [.lst xs, .lst ys] => if (Q.zipL xs ys).all Q.notPr = true then .ok (Q.zipL xs ys) μ else .bad
  | [.tup xs, .tup ys] => .ok (Q.zipL xs ys) μ
  | _ => .bad
def iZipF (K : PySem.W.Frag) (ta : TA) : TI := fun σ H R => ta σ H fun ws H1 => ∃ a b us vs, ws = [.ref a, .ref b] ∧ ((SqL K H1 a us ∧ SqL K H1 b vs ∧ R (Itz K a b) H1) ∨ (SqT K H1 a us ∧ SqT K H1 b vs ∧ R (ItzF K a b) H1))
section
variable {X : Cx} {W : WX}
theorem pi_zipFA {e e2 : Expr} {ta : TA} {p pos tpos : Pos} {elts : List Expr} {kk : Nat} (hg : Gl X "zip") (hm : X.mg "zip" = none) (ha : PA X [e, e2] ta)
    (hs : starEach [e, e2] X.env = (false, eval e X.env) :: starEach [e2] X.env := by rfl) (hpl : (backTo pos (starEach [e2] X.env)).any (·.1) = false := by rfl) :
    PI X (.Tuple elts kk tpos) (.Call (.Name "zip" p) [e, e2] [] pos) (iZipF X.K ta) := by
  refine ⟨fun pins s σ H R I hrun => Call_ (ld_blt I hg hm PyProof.Rows.boot_zip (PyProof.Rows.callWith_type1 (thn (ha.run pos pins s σ H _ I hrun) fun us s1 ⟨ws, H1, I1, r1, a, b, xs, ys, ew, q1⟩ => ?_) hs hpl))⟩
  subst ew
  obtain ⟨u1, u2, eu, ru1, ru2⟩ := vals2 r1
  subst eu
  cases ru1
  cases ru2
  generalize hN : s1.heap.objs.size = N
  have free : ∀ c, c ∈ [N + 4, N + 2, N + 3, N, N + 1] → FpOk X pins H1 c := fun c hcm => by
    have hle : s1.heap.objs.size ≤ c := by
      rw [hN]
      simp only [List.mem_cons, List.not_mem_nil, or_false] at hcm
      omega
    exact I1.fpOk hle (I1.hok.fresh hle)
  rcases q1 with ⟨qa, qb, q⟩ | ⟨qa, qb, q⟩
  · obtain ⟨ja, _, pa, _⟩ := I1.list qa
    obtain ⟨jb, _, pb, _⟩ := I1.list qb
    refine call_zip_2 pa.isList pb.isList fun h1 z1 t1 o1 i1 i2 _ kp => wpAny_pyIter_zip z1 ?_
    rw [hN] at z1 t1 o1 i1 i2 ⊢
    exact ⟨N + 4, [N + 4, N + 2, N + 3, N, N + 1], _, _, H1, rfl, I1.kept (t' := s1.toks) kp, turn_zip (PySem.W.ktu_apart N a b (by rw [← hN]; exact pa.lt) (by rw [← hN]; exact pb.lt)), ⟨z1, t1, ⟨_, _, o1⟩, i1, i2⟩, free, q⟩
  · obtain ⟨ja, _, pa, _⟩ := I1.tuple qa
    obtain ⟨jb, _, pb, _⟩ := I1.tuple qb
    obtain ⟨oa, ga, _⟩ := id pa
    obtain ⟨ob, gb, _⟩ := id pb
    refine RZ.call_zipT (show s1.heap.IsTuple a ja.toArray from pa) (show s1.heap.IsTuple b jb.toArray from pb) fun h1 z1 t1 o1 i1 i2 _ kp => wpAny_pyIter_zip z1 ?_
    rw [hN] at z1 t1 o1 i1 i2 ⊢
    exact ⟨N + 4, [N + 4, N + 2, N + 3, N, N + 1], _, _, H1, rfl, I1.kept (t' := s1.toks) kp, turn_zipF (PySem.W.ktu_apart N a b (by rw [← hN]; exact Heap.lt_size ga) (by rw [← hN]; exact Heap.lt_size gb)), ⟨z1, t1, ⟨_, _, o1⟩, i1, i2⟩, free, q⟩
theorem pi_zipF {p pos tpos : Pos} {elts : List Expr} {kk : Nat} {ms : EA} {e e2 : Expr} (hg : Gl X "zip") (hm : X.mg "zip" = none) (ha : PA X [e, e2] (liftA X.K W ms))
    (hs : starEach [e, e2] X.env = (false, eval e X.env) :: starEach [e2] X.env := by rfl) (hpl : (backTo pos (starEach [e2] X.env)).any (·.1) = false := by rfl) :
    PI X (.Tuple elts kk tpos) (.Call (.Name "zip" p) [e, e2] [] pos) (liftI X.K W (Q.zipF ms)) :=
  pi_anti (pi_zipFA hg hm ha hs hpl) fun σ H R ⟨φ, ρ, μ, hl, hm, o⟩ => ⟨φ, ρ, μ, hl, hm, (OutG.bind o).imp fun ds μ1 φ1 H1 e1 m1 o1 vs rv => by
    split at o1
    · rename_i xs ys
      split at o1
      rotate_left
      · exact o1.elim
      rename_i hall
      obtain ⟨v, w, rfl, h1, h2⟩ := repAll2 rv
      unfold Rep at h1 h2
      obtain ⟨a, as, rfl, ⟨q, n⟩, ra⟩ := h1
      obtain ⟨b, bs, rfl, ⟨q', n'⟩, rb⟩ := h2
      refine ⟨a, b, as, bs, rfl, .inl ⟨.of q, .of q', o1 φ1 H1 Ext.refl m1 _ ?_⟩⟩
      have wk := walk_zip (K := X.K) (a := a) (b := b) (xs := as) (ys := bs) rfl
      rw [ra.length, rb.length, ← zipL_len] at wk
      refine ⟨_, _, wk, fun φ2 H2 μ2 e _ => ⟨.of ((e.leans (K := X.K)).obj _ _ q n).1, .of ((e.leans (K := X.K)).obj _ _ q' n').1⟩, fun i φ2 H2 μ2 x H3 _ e m y => ?_⟩
      obtain ⟨T, x1, y1, rfl, hT, rfl, h1, h2⟩ := y
      obtain ⟨d, h3, h4⟩ := repAll_get' ra h1
      obtain ⟨d', h3', h4'⟩ := repAll_get' rb h2
      obtain ⟨h5, h6, h7⟩ := pair_new m hT (Rep.mono e.leans _ h4) (Rep.mono e.leans _ h4') (Q.notPr_of hall (zipL_at h3 h3'))
      exact ⟨_, zipL_at h3 h3', h5, h6, h7⟩
    · rename_i xs ys
      obtain ⟨v, w, rfl, h1, h2⟩ := repAll2 rv
      unfold Rep at h1 h2
      obtain ⟨a, as, rfl, ⟨q, _⟩, ra⟩ := h1
      obtain ⟨b, bs, rfl, ⟨q', _⟩, rb⟩ := h2
      refine ⟨a, b, as, bs, rfl, .inr ⟨q, q', o1 φ1 H1 Ext.refl m1 _ ?_⟩⟩
      have wk := walk_zipF (K := X.K) (a := a) (b := b) (us := as) (ws := bs) rfl
      rw [ra.length, rb.length, ← zipL_len] at wk
      refine ⟨_, _, wk, fun φ2 H2 μ2 e _ => ⟨e.leans.tup _ _ q, e.leans.tup _ _ q'⟩, fun i φ2 H2 μ2 x H3 _ e m y => ?_⟩
      obtain ⟨T, x1, y1, ob, rfl, hT, hd, rfl, h1, h2⟩ := y
      obtain ⟨d, h3, h4⟩ := repAll_get' ra h1
      obtain ⟨d', h3', h4'⟩ := repAll_get' rb h2
      obtain ⟨h5, h6, h7⟩ := pairF_new m hT hd (Rep.mono e.leans _ h4) (Rep.mono e.leans _ h4')
      exact ⟨_, zipL_at h3 h3', h7, h5, h6⟩
    · exact o1.elim⟩
end
end Dp

set_option maxHeartbeats 4000000
namespace Dp
open PySem PySem.Spec PyProof.Rows L2
/-! ### len(set(xs)) of texts, xs.index(x) of texts -/
def stepT (l : List Str) (x : Str) : List Str := if l.any (· == x) then l else l ++ [x]
def metT (xs : List Str) : List Str := xs.foldl stepT []
theorem metT_take (xs : List Str) {i : Nat} (h : i < xs.length) : metT (xs.take (i + 1)) = stepT (metT (xs.take i)) (xs.getD i Str.empty) := by
  unfold metT
  rw [List.take_add_one, List.getElem?_eq_getElem h, List.foldl_append, List.getD_eq_getElem?_getD, List.getElem?_eq_getElem h]
  rfl
theorem stepT_any (l : List Str) (x k : Str) : (stepT l x).any (· == k) = (l.any (· == k) || decide (k = x)) := by
  unfold stepT
  by_cases hx : l.any (· == x) = true
  · rw [if_pos hx]
    by_cases hk : k = x
    · rw [hk, hx]; rfl
    · simp [hk]
  · rw [if_neg hx, List.any_append]
    by_cases hk : k = x
    · rw [hk]; simp
    · have h0 : (x == k) = false := beq_eq_false_iff_ne.mpr fun z => hk z.symm
      simp [h0, hk]
theorem stepT_len (l : List Str) (x : Str) : (stepT l x).length = if l.any (· == x) then l.length else l.length + 1 := by
  unfold stepT
  split <;> simp
theorem metT_len (xs : List Str) : (metT xs).length ≤ xs.length := by
  have go : ∀ (ys l : List Str), (ys.foldl stepT l).length ≤ l.length + ys.length := fun ys => by
    induction ys with
    | nil => intro l; simp
    | cons y r ih =>
      intro l
      have h1 := ih (stepT l y)
      have h2 : (stepT l y).length ≤ l.length + 1 := by
        rw [stepT_len]
        split <;> omega
      simp only [List.foldl_cons, List.length_cons]
      omega
  simpa [metT] using go xs []
section
variable {prog : Program} {w : World} {A : Around} {R : Result → Shared → Prop} {I : Addr} {fp wr : List Addr} {G : Array GenState → Array GenState → Prop} {m : Nat} {Pv : Nat → Value → Prop} {St : Nat → Shared → Prop}
theorem loopT (Wk : WalksS prog w A.in1 I fp wr G m Pv St) (D : Addr) (hD : D ∉ fp) (xs : List Str) (hx : xs.length = m) (hsc : m + 1 < scanBound) (hv : ∀ j v, Pv j v → ∃ t, v = .str (xs.getD j Str.empty) t) :
    ∀ (left j : Nat) (z : Shared), m - j = left → j ≤ m → St j z → z.heap.SetOf (PySem.strKind prog w) D (fun y => (metT (xs.take j)).any (· == y)) (metT (xs.take j)).length →
      (∀ z', Moved (D :: wr) G z z' → z'.heap.SetOf (PySem.strKind prog w) D (fun y => (metT xs).any (· == y)) (metT xs).length → R (.ok (.ret .none)) z') →
      codeAny (model prog w) A (.builtin "set.update.loop" ⟨[.ref D, .ref I], []⟩) R z := by
  have hDw : D ∉ wr := fun q => hD (Wk.sub _ q)
  have more : ∀ c ∈ wr, c ∈ D :: wr := fun c q => List.mem_cons_of_mem _ q
  intro left
  induction left with
  | zero =>
    intro j z hl hj st hset hR
    obtain rfl : j = m := by omega
    refine codeAny_builtin PyProof.Rows.F.entry_set_update_loop (by
      rw [Around.under_plainId PyProof.Rows.F.plain_set_update_loop _]
      refine wpAny_bind (m := pyNext (.ref I)) (Wk.done z _ _ st fun z' mv => wpAny_pure (hR z' (mv.mono more) ?_))
      obtain ⟨o, es, ep, tb, g, r⟩ := hset
      rw [List.take_of_length_le (Nat.le_of_eq hx)] at r
      exact ⟨o, es, ep, tb, mv.heap D _ hDw g, r⟩)
  | succ left ih =>
    intro j z hl hj st hset hR
    have jm : j < m := by omega
    refine codeAny_builtin PyProof.Rows.F.entry_set_update_loop (by
      rw [Around.under_plainId PyProof.Rows.F.plain_set_update_loop _]
      refine wpAny_bind (m := pyNext (.ref I)) (Wk.item j z _ _ jm st fun v z' pv st' mv => ?_)
      obtain ⟨tk, rfl⟩ := hv j v pv
      have hset' : z'.heap.SetOf (PySem.strKind prog w) D (fun y => (metT (xs.take j)).any (· == y)) (metT (xs.take j)).length := by
        obtain ⟨o, es, ep, tb, g, r⟩ := hset
        exact ⟨o, es, ep, tb, mv.heap D _ hDw g, r⟩
      refine wpAny_bind (m := holding [Value.str (xs.getD j Str.empty) tk] (setAdd D (.str (xs.getD j Str.empty) tk))) (wpAny_holding ?_)
      unfold setAdd
      refine wpAny_holding (wpAny_bind ((PySem.strKind prog w).pyHash (k := xs.getD j Str.empty) (strKind_is _ _ _ _) ?_))
      have few : (metT (xs.take j)).length + 1 < scanBound := by
        have q1 := metT_len (xs.take j)
        have q2 : (xs.take j).length ≤ m := by simp; omega
        omega
      refine wpAny_setAddHashed_of (knd := PySem.strKind prog w) (s := { z' with toks := z'.toks + 1 }) (strKind_is _ _ _ _) rfl hset' few fun h1 sb hset1 => ?_
      have jx : j < xs.length := by omega
      have hset2 : h1.SetOf (PySem.strKind prog w) D (fun y => (metT (xs.take (j + 1))).any (· == y)) (metT (xs.take (j + 1))).length :=
        SetOf_congr hset1 (fun y => by rw [metT_take xs jx, stepT_any]) (by rw [metT_take xs jx, stepT_len])
      refine wpAny_pure ⟨plainId_quiet PyProof.Rows.F.plain_set_update_loop _, ih (j + 1) _ (by omega) jm (Wk.frame _ z' _ _ st' (Nat.le_succ _) fun c hc ob q => ?_) hset2 fun z2 mv2 hset3 => ?_⟩
      · rw [sb.2 c (fun q' => hD (q' ▸ hc))]; exact q
      · refine hR z2 (Moved.trans Wk.gtrans ((mv.mono more).then_heap (Nat.le_succ _) fun c ob hc q => ?_) mv2) hset3
        rw [sb.2 c (fun q' => hc (q' ▸ List.mem_cons_self))]; exact q)
end
section
variable {prog : Program} {w : World} {A : Around} {E : Value → Shared → Prop} {s : Shared}
theorem call_set_listT {a : Addr} {its : Array Value} {xs : List Str} {Q : Value → Shared → Prop} (hn : A.handled = none) (ha : s.heap.IsList a its) (hx : PyProof.Rows.StrsAre its.toList xs) (hsc : its.size + 1 < scanBound)
    (hQ : ∀ (h1 : Heap) (tk : Nat), h1.SetOf (PySem.strKind prog w) s.heap.objs.size (fun y => (metT xs).any (· == y)) (metT xs).length → (∀ c ob, c < s.heap.objs.size → s.heap.get? c = some ob → h1.get? c = some ob) → Q (.ref s.heap.objs.size) { s with heap := h1, toks := tk }) :
    wpAny (model prog w) A (call (.type "set") [.ref a]) Q E s := by
  obtain ⟨_, _, hmro⟩ := PySem.F.called_set.mro
  have f1 := PySem.F.called_set.made
  have f2 := PySem.F.called_set.sub
  refine wpAny_call (codeAny_of_tree (show wpAny _ _ (callAny (.type "set") _) _ _ _ from ?_))
  refine wpAny_pure ⟨Code.quiet_builtin _ (by decide +kernel), codeAny_builtin PySem.F.entry_type_call ?_⟩
  rw [Around.under_plain (weight_type_call_type "set" [.ref a] []) rfl]
  have f3 := PySem.F.called_set.notType
  have f4 := PySem.F.called_set.canCreate
  have f5 := PySem.F.typeCall_set_1 (.ref a)
  repeat (any_goals (first | assumption | wp_step))
  generalize hN : s.heap.objs.size = N at hQ ⊢
  refine codeAny_mono (code_set_new_1 (.ref a) (E := E) (Q₁ := fun ob z => ∃ led : Bool, ob = .ref s.heap.objs.size ∧ z = { s with heap := s.heap.push { cls := .type "set", dict := none, data := .set #[] 0 (.fresh 0 0 led) } }) fun led => ⟨led, rfl, rfl⟩) fun res z hres => ?_
  rcases res with e | fl
  · exact hres
  cases fl with
  | ret ob =>
    obtain ⟨led, rfl, rfl⟩ := hres
    rw [hN]
    have gN : (s.heap.push { cls := .type "set", dict := none, data := .set #[] 0 (.fresh 0 0 led) }).get? N = some { cls := .type "set", dict := none, data := .set #[] 0 (.fresh 0 0 led) } := hN ▸ Heap.get?_push_size _ rfl
    have tN : Shared.TypeIs { s with heap := s.heap.push { cls := .type "set", dict := none, data := .set #[] 0 (.fresh 0 0 led) } } (.ref N) "set" := ⟨_, gN, rfl⟩
    have f6 := PySem.F.called_set.init.lookup
    have f7 := PySem.F.called_set.init.bind (.ref N)
    repeat (any_goals (first | assumption | wp_step))
    refine codeAny_mono (codeAny_call_builtin (R := wants (fun ob z => ob = .none ∧ ∃ h1 tk, z = { s with heap := h1, toks := tk } ∧ h1.SetOf (PySem.strKind prog w) N (fun y => (metT xs).any (· == y)) (metT xs).length ∧ ∀ c ob, c < N → s.heap.get? c = some ob → h1.get? c = some ob) E) PySem.F.called_set.init.plain PySem.F.entry_set_init (check_set_init_1 tN ?_)) fun res2 z2 hres2 => ?_
    · obtain ⟨oa, ga, ca, na, da⟩ := ha
      obtain ⟨k1, k2, k3, k4⟩ := oa
      simp only at ca da
      subst ca; subst da
      have ga' : (s.heap.push { cls := .type "set", dict := none, data := .set #[] 0 (.fresh 0 0 led) }).get? a = some { cls := .type "list", dict := k2, data := .seq its na, slots := k4 } := Heap.get?_push_of_some _ ga
      have f8 := PySem.F.sub_list_set
      have f9 := PySem.F.sub_list_frozenset
      have f10 : (Value.type "list" == Value.type "dict") = false := by decide
      have la : (s.heap.push { cls := .type "set", dict := none, data := .set #[] 0 (.fresh 0 0 led) }).IsList a its := ⟨_, ga', rfl, na, rfl⟩
      unfold Builtin.«set.__init__» noKeywords Builtin.Frozenset.updateFrom
      generalize hit : pyIter = PI
      wp_walk
      subst hit
      refine wpAny_pyIter_list la (wpAny_bind (wpAny_runValue ?_))
      have aN : a < N := hN ▸ Heap.lt_size ga
      have hn3 : A.in1.in1.in1.handled = none := by simp [hn]
      have sz : (s.heap.push { cls := .type "set", dict := none, data := .set #[] 0 (.fresh 0 0 led) }).objs.size = N + 1 := by rw [Heap.size_push, hN]
      rw [sz]
      have hlen : xs.length = its.size := by rw [← StrsAre.len_eq hx, Array.length_toList]
      have gN2 : ((s.heap.push { cls := .type "set", dict := none, data := .set #[] 0 (.fresh 0 0 led) }).push { cls := .type "list_iterator", data := .fields #[.ref a, .int 0 0] }).get? N = some { cls := .type "set", dict := none, data := .set #[] 0 (.fresh 0 0 led) } := Heap.get?_push_of_some _ gN
      have gI : ((s.heap.push { cls := .type "set", dict := none, data := .set #[] 0 (.fresh 0 0 led) }).push { cls := .type "list_iterator", data := .fields #[.ref a, .int 0 0] }).get? (N + 1) = some { cls := .type "list_iterator", data := .fields #[.ref a, .int 0 0] } := sz ▸ Heap.get?_push_size _ rfl
      refine loopT ((Walks.list hn3 (N + 1) a (Nat.ne_of_lt (Nat.lt_succ_of_lt aN)) its).toS) N (fun q => by simp only [List.mem_cons, List.not_mem_nil, or_false] at q; exact q.elim (Nat.ne_of_lt (Nat.lt_succ_self N)) (Nat.ne_of_gt aN)) xs hlen hsc
        (fun j v q => SS.strs_at hx j v (by rw [Array.getElem?_toList]; exact q)) (its.size - 0) 0 _ (by omega) (Nat.zero_le _) ⟨⟨_, gI, rfl, rfl⟩, (la.push _)⟩ ?_ ?_
      · exact PyProof.Rows.SetOf_congr ((PyProof.Rows.setObjOf_fresh (knd := PySem.strKind prog w) led).setOf gN2 (by unfold scanBound; omega)) (fun _ => rfl) rfl
      · rintro ⟨h1, g1, d1, tk1, os1⟩ mv hset
        obtain rfl : g1 = s.gens := mv.gens
        obtain rfl : d1 = s.drawn := mv.drawn
        obtain rfl : os1 = s.os := mv.os
        refine wpAny_pure (show wpAny _ _ (ret Value.none) _ _ _ from wpAny_pure ⟨rfl, h1, tk1, rfl, hset, fun c ob hc q => ?_⟩)
        exact mv.heap c ob (fun q => by simp only [List.mem_cons, List.not_mem_nil, or_false] at q; exact q.elim (Nat.ne_of_lt hc) (Nat.ne_of_lt (Nat.lt_succ_of_lt hc))) (Heap.get?_push_of_some _ (Heap.get?_push_of_some _ q))
    · rcases res2 with e | fl2
      · exact hres2
      cases fl2 with
      | ret ob =>
        obtain ⟨rfl, h1, tk, rfl, q1, q2⟩ := hres2
        repeat (any_goals (first | assumption | wp_step))
        exact hQ _ _ q1 q2
      | _ => exact hres2.elim
  | _ => exact hres.elim
end
def E.lensetS (a : EE) : EE := fun ρ μ => (a ρ μ).bind fun d μ => match d with
  | .lst ds => (match strsD ds with
    | some ss => if ss.length ≤ 4000 then .ok (.int (metT ss).length) μ else .bad
    | none => .bad)
  | _ => .bad
def idxT : List Str → Str → Nat
  | [], _ => 0
  | y :: ys, x => if y = x then 0 else idxT ys x + 1
def Mt.index (x : D) (ds : List D) (μ : Mem) : Res D := match x, ds with
  | .lst ys, [.str t] => (match strsD ys with
    | some ss => if idxT ss t < ss.length then .ok (.int (idxT ss t)) μ else .bad
    | none => .bad)
  | _, _ => .bad
theorem idxT_at : ∀ (ys : List Str) (x : Str), idxT ys x < ys.length → ys[idxT ys x]? = some x
  | [], _, h => by simp at h
  | y :: ys, x, h => by
    unfold idxT at h ⊢
    by_cases hy : y = x
    · rw [if_pos hy, hy]; rfl
    · rw [if_neg hy] at h ⊢
      rw [List.getElem?_cons_succ]
      exact idxT_at ys x (by simpa using h)
theorem idxT_before : ∀ (ys : List Str) (x : Str) (m : Nat) (z : Str), m < idxT ys x → ys[m]? = some z → z ≠ x
  | [], _, m, z, _, e => by simp at e
  | y :: ys, x, m, z, h, e => by
    unfold idxT at h
    by_cases hy : y = x
    · rw [if_pos hy] at h; omega
    · rw [if_neg hy] at h
      cases m with
      | zero =>
        rw [List.getElem?_cons_zero] at e
        cases e
        exact hy
      | succ m =>
        rw [List.getElem?_cons_succ] at e
        exact idxT_before ys x m z (by omega) e
section
variable {X : Cx} {W : WX}
theorem se_lensetS {a : Expr} {ma : EE} {p p2 q pos : Pos} (hg : Gl X "len") (hm : X.mg "len" = none) (hg2 : Gl X "set") (hm2 : X.mg "set" = none) (ha : PE X a (lift X.K W ma)) (hc : X.calm = true := by rfl)
    (na : starEach [a] X.env = (false, eval a X.env) :: starEach [] X.env := by rfl) : PE X (.Call (.Name "len" p) [.Call (.Name "set" p2) [a] [] q] [] pos) (lift X.K W (E.lensetS ma)) := by
  refine ⟨fun pins s σ H Q I ⟨φ, ρ, μ, hl, hr, o⟩ => ?_⟩
  refine Call_ (ld_blt I hg hm boot_len (callWith_builtin1 (args_cons (Call_ (ld_blt I hg2 hm2 boot_set ?_)) rfl) rfl rfl))
  refine callWith_type1 (args_cons (use ha I hl hr (OutG.bind o) fun v s1 x H1 d μ1 φ1 I1 r1 e1 m1 p1 o1 => args_nil ?_) na) na rfl
  split at o1
  · rename_i ds
    split at o1
    · rename_i ss hss
      split at o1
      · rename_i h4
        unfold Rep at p1
        obtain ⟨l, vs, rfl, ⟨hq, hn⟩, rs⟩ := p1
        have ev := strsD_rep rs hss
        subst ev
        cases r1
        obtain ⟨its, r, pl, hz⟩ := I1.list (.of hq)
        have hsz : its.toArray.size = ss.length := by rw [List.size_toArray, ← r.length, List.length_map]
        refine call_set_listT (I1.ok.hd hc) pl.isList (by simpa using strsAre_of r) (by rw [hsz]; unfold scanBound; omega) fun h' tk hS hk => ?_
        refine args_nil ?_
        have hmet := metT_len ss
        obtain ⟨o2, es, ep, t, ho, hex, hd, _, _, _, hf, hn2⟩ := hS
        have J2 : Inv X pins σ H1 { s1 with heap := h', toks := tk } := I1.kept fun bb ob eb => hk bb ob (Heap.lt_size eb) eb
        exact call_len_set ho hex hd hf (by rw [hn2] <;> exact (show ((metT ss).length : Int) < 2 ^ 63 by omega)) ⟨.int (metT ss).length, H1, J2.tok _, ⟨_, by rw [hn2]⟩, o1 φ1 H1 Ext.refl m1 _ rep_of_int⟩
      · exact o1.elim
    · exact o1.elim
  · exact o1.elim
theorem strs_flat (ss : List Str) : (ss.map V.str).all flatV = true := List.all_eq_true.mpr fun v hv => by
  obtain ⟨x, _, rfl⟩ := List.mem_map.mp hv
  rfl
theorem meth_index : MethS X W "list.index" Mt.index := by
  intro pins s σ H φ μ x xs v us dx ds Q I rx rxs hm px pxs o
  unfold Mt.index at o
  split at o
  · rename_i ys t
    split at o
    · rename_i ss hss
      split at o
      · rename_i hlt
        unfold Rep at px
        obtain ⟨p, vs, rfl, ⟨q, n⟩, rs⟩ := px
        obtain ⟨w, rfl, rw'⟩ := repAll1 pxs
        cases rep_str rw'
        have ev := strsD_rep rs hss
        subst ev
        exact mt_index pins s σ H _ _ v us Q I rx rxs ⟨p, ss.map V.str, .str t, idxT ss t, .str t, rfl, rfl, .of q, rfl, strs_flat ss, by rw [List.getElem?_map, idxT_at ss t hlt] <;> rfl, by simp [eqV], fun m z' hmj hz' => by
          rw [List.getElem?_map] at hz'
          cases hq : ss[m]? with
          | none => rw [hq] at hz'; cases hz'
          | some y =>
            rw [hq] at hz'
            cases hz'
            have := idxT_before ss t m y hmj hq
            simpa [eqV] using this, o φ H Ext.refl hm _ rep_of_int⟩
      · exact o.elim
    · exact o.elim
  · exact o.elim
end
end Dp

namespace Dp
open PySem PySem.Spec PyProof.Rows L2
/-! ### a list comprehension as an object of the memory -/
def GH (K : PySem.W.Frag) (H0 : Hp) (Qr : VK) (acc : List D) : List D → Mem → Pl → Hp → Prop := fun ys μ' φ' H' => ∀ D us, φ'.out D → H0 D = none → H' D = some (.lst us) → RepAll K (φ'.hide D) H' us (acc ++ ys) → Rel K (φ'.hide D) H' μ' → Qr (.ref D) H'
def Op.isBl (x y : D) (μ : Mem) : Res D := match x, y with
  | .bl a, .bl b => .ok (.bl (decide (a = b))) μ
  | _, _ => .bad
section
variable {X : Cx} {W : WX}
/-- the comprehension's list, seen while it is still hidden -/
theorem lc_outH {K : PySem.W.Frag} {W : WX} {q : EA} {vs : List Nat} {g : EG} {tt : EB} {te : EE} {σ : L2.St} {H : Hp} {Qr : VK} {φ : Pl} {ρ : Dp.Loc} {μ : Mem} (hl : RepL K φ H σ ρ) (hm : Rel K φ H μ)
    (o : OutG K W σ φ H (GH K H Qr []) (Dp.Q.lc q vs g tt te ρ μ)) :
    tLc (liftI K W q) (liftG K vs g) (liftB K W0 tt) (lift K W0 te) vs σ H Qr := by
  refine ⟨φ, ρ, μ, hl, hm, (OutG.bind o).imp fun ds μ1 φ1 H1 e1 r1 o1 J ⟨Gd, Y, wk, hG, hY⟩ D hD => ?_⟩
  split at o1
  rotate_left
  · exact o1.elim
  rename_i hz
  have hav : ∀ b, φ1.av b → (φ1.hide D).av b := fun b q => .inl q
  have hno : φ1.out D := r1.out hD
  have hD0 : H D = none := by
    cases hq : H D with
    | none => rfl
    | some o =>
      by_cases hp : D ∈ φ.pl
      · obtain ⟨tl, et⟩ := e1.pre
        obtain ⟨u, eu⟩ := r1.tracked (b := D) (by rw [et]; exact List.mem_append_left _ hp)
        rw [hD] at eu; cases eu
      · have := e1.keep D o hq hp
        rw [hD] at this; cases this
  have toA : ∀ {ψ : Pl} {H2 : Hp}, ψ.av = (φ1.hide D).av → Ext φ1 H1 (ψ.un φ1.av) H2 → ExtA φ1 H1 ψ H2 := fun {ψ H2} ea e => ⟨e, fun b q => by rw [ea]; exact .inl q, fun b q => by
    rw [ea] at q
    rcases q with q | q
    · exact .inl q
    · exact .inr (by rw [q]; exact hD)⟩
  refine lc_it wk (fun i H9 => ∃ ψ μ acc vacc, ψ.av = (φ1.hide D).av ∧ Ext φ1 H1 (ψ.un φ1.av) H9 ∧ Rel K ψ H9 μ ∧ RepL K ψ H9 (L2.wipe σ vs) (wipeL ρ vs) ∧ H9 D = some (.lst vacc) ∧ RepAll K ψ H9 vacc acc ∧ acc.length ≤ i ∧
      OutG K W σ φ1 H1 (GH K H Qr acc) (Dp.Q.lcLoop g tt te (wipeL ρ vs) (ds.drop i) μ)) ?_ ?_ ?_ ?_
  · exact ⟨φ1.hide D, μ1, [], [], rfl, (Ext.fresh hD : Ext φ1 H1 φ1 (upd H1 D (.lst []))), r1.hide hD, (((hl.ext e1).wipe vs).mono (leans_hide hD)), upd_same, RepAll.nil_, Nat.le_refl _, o1⟩
  · rintro i H2 hi ⟨ψ, μ2, acc, vacc, ea, e, r, _⟩
    exact hG ψ H2 μ2 (toA ea e) r
  · rintro i x H2 H3 hi ⟨ψ, μ2, acc, vacc, ea, e, r, lw, hDa, ra, hacc, o2⟩ y
    obtain ⟨d, hd, rx, e3, r3⟩ := hY i ψ H2 μ2 x H3 hi (toA ea e) r y
    have hdrop : ds.drop i = d :: ds.drop (i + 1) := by
      obtain ⟨hlt, he⟩ := List.getElem?_eq_some_iff.mp hd
      rw [← he]; exact List.drop_eq_getElem_cons hlt
    rw [hdrop] at o2
    have hDn : D ∉ ψ.pl := (r.av D (by rw [ea]; exact .inr rfl)).1
    refine ⟨ψ, wipeL ρ vs, μ2, d, lw.ext e3, r3, rx, ?_⟩
    unfold Dp.Q.lcLoop at o2
    cases hg : g d (wipeL ρ vs) μ2 with
    | none => rw [hg] at o2; exact o2
    | some p =>
      obtain ⟨ρ4, μ4⟩ := p
      rw [hg] at o2
      dsimp only at o2
      intro ψ4 H4 e4 r4 σ4 l4 w4
      refine ⟨w4.trans (wipe_wipe σ vs), ψ4, ρ4, μ4, l4, r4, ?_⟩
      have ea4 : ψ4.av = (φ1.hide D).av := e4.av.trans ea
      cases ht : tt ρ4 μ4 with
      | bad => rw [ht] at o2; exact o2.elim
      | err x μ5 => rw [ht] at o2; exact o2.elim
      | ok c μ5 =>
      rw [ht] at o2
      intro ψ5 H5 e5 r5
      have e35 : Ext ψ H2 ψ5 H5 := (e3.trans e4).trans e5
      have ea5 : ψ5.av = (φ1.hide D).av := e5.av.trans ea4
      cases c with
      | false =>
        show if false = true then _ else _
        rw [if_neg (by decide)]
        exact ⟨ψ5, μ5, acc, vacc, ea5, e.trans e35.un, r5, lw.ext e35, e35.keep D _ hDa hDn, ra.ext e35, Nat.le_succ_of_le hacc, o2⟩
      | true =>
        show if true = true then _ else _
        rw [if_pos rfl]
        refine ⟨ψ5, ρ4, μ5, l4.ext e5, r5, ?_⟩
        have o2 : OutG K W σ φ1 H1 (GH K H Qr acc) ((te ρ4 μ5).nox.bind fun y μ3 => (Dp.Q.lcLoop g tt te (wipeL ρ vs) (ds.drop (i + 1)) μ3).bind fun ys μ4 => .ok (y :: ys) μ4) := o2
        cases hte : te ρ4 μ5 with
        | bad => rw [hte] at o2; exact o2.elim
        | err x μ5 => rw [hte] at o2; exact o2.elim
        | ok yv μ6 =>
        rw [hte] at o2
        intro ψ6 H6 e6 r6 v rv
        have e36 : Ext ψ H2 ψ6 H6 := e35.trans e6
        have ea6 : ψ6.av = (φ1.hide D).av := e6.av.trans ea5
        have hD6 : H6 D = some (.lst vacc) := e36.keep D _ hDa hDn
        have hv6 : ψ6.av D := by rw [ea6]; exact .inr rfl
        refine ⟨vacc, hD6, ?_, ψ6, μ6, acc ++ [yv], vacc ++ [v], ea6, (e.trans e36.un).over hD, r6.writeH hv6 ⟨_, hD6⟩, (lw.ext e36).mono (leans_write hv6 ⟨_, hD6⟩), upd_same, ?_, by rw [List.length_append]; exact Nat.succ_le_succ hacc, ?_⟩
        · have := ra.length
          rw [sizeLine_eq]; omega
        · exact RepAll.mono (leans_write hv6 ⟨_, hD6⟩) _ (RepAll.append (ra.ext e36) (RepAll.cons_ rv RepAll.nil_))
        · have o3 : OutG K W σ φ1 H1 (GH K H Qr acc) ((Dp.Q.lcLoop g tt te (wipeL ρ vs) (ds.drop (i + 1)) μ6).bind fun ys μ4 => .ok (yv :: ys) μ4) := o2
          revert o3
          cases Dp.Q.lcLoop g tt te (wipeL ρ vs) (ds.drop (i + 1)) μ6 with
          | bad => exact fun o => o
          | err x μ7 => exact fun o => o
          | ok ys μ7 => exact fun o φ' H' e r D us h1 h0 h2 h3 h4 => o φ' H' e r D us h1 h0 h2 (by rw [List.append_assoc] at h3; exact h3) h4
  · rintro H2 ⟨ψ, μ2, acc, vacc, ea, e, r, lw, hDa, ra, hacc, o2⟩
    have hu : ∀ b, φ1.av b → ψ.av b := fun b q => by rw [ea]; exact hav b q
    rw [List.drop_length] at o2
    have eψ : (ψ.un φ1.av).hide D = ψ := by
      have e0 : ψ = ⟨ψ.pl, ψ.av⟩ := rfl
      rw [e0, ea]
    refine o2 (ψ.un φ1.av) H2 e (r.un hu) D vacc ⟨?_, hno.2⟩ hD0 hDa (by rw [eψ, List.append_nil]; exact ra) (by rw [eψ]; exact r)
    exact (r.av D (by rw [ea]; exact .inr rfl)).1
/-- what was hidden is of the memory from now on -/
theorem Ext.adopt {φ φ' : Pl} {H H' : Hp} {D : Addr} (e : Ext φ H φ' H') (h0 : H D = none) : Ext φ H (φ'.push D) H' := by
  obtain ⟨t, rfl⟩ := e.pre
  refine ⟨⟨t ++ [D], by show Pl.mk ((φ.pl ++ t) ++ [D]) φ.av = _; rw [List.append_assoc]⟩, e.keep, e.tups, e.frzs, fun b hb n => ?_⟩
  rcases List.mem_append.mp hb with q | q
  · exact e.new b q n
  · rw [List.mem_singleton.mp q]; exact h0
theorem leans_adopt {K : PySem.W.Frag} {φ : Pl} {H : Hp} {D : Addr} : Leans K (φ.hide D) H (φ.push D) H := by
  refine ⟨fun i a h => ?_, fun _ _ h => h, fun p u q n => ⟨q, fun h => ?_, fun z => n.2 (.inl z)⟩, fun _ _ h => h, fun _ h => h, fun _ _ h => h⟩
  · have h : φ.pl[i]? = some a := h
    show (φ.pl ++ [D])[i]? = some a
    rw [List.getElem?_append_left (List.getElem?_eq_some_iff.mp h).1]; exact h
  · rcases List.mem_append.mp h with q | q
    · exact n.1 q
    · exact n.2 (.inr (List.mem_singleton.mp q))
theorem Rel.adopt {K : PySem.W.Frag} {φ : Pl} {H : Hp} {μ : Mem} {A : Addr} {us : List V} {ds : List D} (r : Rel K (φ.hide A) H μ) (h1 : φ.out A) (h2 : H A = some (.lst us)) (h3 : RepAll K (φ.hide A) H us ds) : Rel K (φ.push A) H (μ ++ [.lst ds]) := by
  refine ⟨by have := r.len; simp [this], List.nodup_append.mpr ⟨r.nd, by simp, fun a ha b hb => ?_⟩, fun b q => ⟨fun z => ?_, (r.av b (.inl q)).2⟩, fun i a o e1 e2 => ?_⟩
  · rw [List.mem_singleton.mp hb]
    intro z; exact h1.1 (z ▸ ha)
  · rcases List.mem_append.mp z with z | z
    · exact (r.av b (.inl q)).1 z
    · exact h1.2 (List.mem_singleton.mp z ▸ q)
  · have e1 : (φ.pl ++ [A])[i]? = some a := e1
    have hlen : φ.pl.length = μ.length := r.len
    by_cases hi : i < φ.pl.length
    · rw [List.getElem?_append_left hi] at e1
      rw [List.getElem?_append_left (by rw [← hlen]; exact hi)] at e2
      exact (r.obj i a o e1 e2).mono leans_adopt rfl
    · rw [List.getElem?_append_right (Nat.le_of_not_lt hi)] at e1
      rw [List.getElem?_append_right (by rw [← hlen]; exact Nat.le_of_not_lt hi), ← hlen] at e2
      have z : i - φ.pl.length = 0 := by
        cases q : i - φ.pl.length with
        | zero => rfl
        | succ n => rw [q] at e1; simp at e1
      rw [z] at e1 e2
      simp at e1 e2
      subst e1; subst e2
      exact ⟨us, h2, RepAll.mono leans_adopt _ h3⟩
theorem lcm_out {K : PySem.W.Frag} {W : WX} {q : EA} {σ : L2.St} {H : Hp} {Qr : VK} {φ : Pl} {ρ : Dp.Loc} {μ : Mem} (o : OutG K W σ φ H (GV K Qr) (E.ofQm q ρ μ)) : OutG K W σ φ H (GH K H Qr []) (q ρ μ) := by
  unfold E.ofQm at o
  cases hq : q ρ μ with
  | bad => rw [hq] at o; exact o
  | err x μ' => rw [hq] at o; exact o
  | ok ds μ' =>
    rw [hq] at o
    intro φ' H' e r D us h1 h0 h2 h3 h4
    exact o (φ'.push D) H' (e.adopt h0) (h4.adopt h1 h2 h3) _ (by
      unfold Rep
      exact ⟨D, rfl, by
        have hlen : φ'.pl.length = μ'.length := r.len
        show (φ'.pl ++ [D])[μ'.length]? = some D
        rw [← hlen]; simp⟩)
theorem se_lcm {elt tg iter : Expr} {ifs : List Expr} {scope : Scope} {own : List (Str × Nat)} {pos : Pos} {q : EA} {g : EG} {tt : EB} {te : EE} (hc : X.calm = true) (hN : X.N.Nodup) (hi : PI X tg iter (liftI X.K W q)) (ok : BlkOk X.N X.env.scope scope own)
    (hg : ∀ (s : Shared) (H : Hp) (C : Addr) (cl : List (Str × Addr)) (fp : List Addr), PG (X.blk s H scope (compEnvC scope cl C X.env) fp) tg (liftG X.K (own.map (·.2)) g))
    (ht : ∀ (s : Shared) (H : Hp) (C : Addr) (cl : List (Str × Addr)) (fp : List Addr), PTs (X.blk s H scope (compEnvC scope cl C X.env) fp) ifs (liftB X.K W0 tt))
    (he : ∀ (s : Shared) (H : Hp) (C : Addr) (cl : List (Str × Addr)) (fp : List Addr), PE (X.blk s H scope (compEnvC scope cl C X.env) fp) elt (lift X.K W0 te)) (hs : ∀ x, foldedSetIterable iter X.env x = pure x := by intro _; rfl) :
    PE X (.ListComp elt [⟨tg, iter, ifs, 0⟩] scope pos) (lift X.K W (E.ofQm (Q.lc q (own.map (·.2)) g tt te))) :=
  pe_anti (pe_lc hc hN hi ok hg ht he hs) fun σ H Qr ⟨φ, ρ, μ, hl, hm, o⟩ => lc_outH hl hm (lcm_out o)
/-! ### x is True -/
theorem ops_isBl : OpS X W (compareOp .Is) Op.isBl := by
  intro pins s σ H φ μ x y v u dx dy Q I rx ry hm px py o
  unfold Op.isBl at o
  split at o
  · rename_i a b
    exact op_is_bl pins s σ H x y v u Q I rx ry ⟨a, b, rep_bl px, rep_bl py, o φ H Ext.refl hm _ rep_of_bl⟩
  · exact o.elim
end
end Dp

set_option maxHeartbeats 4000000
namespace Dp
open PySem PySem.Spec PyProof.Rows L2
/-! ### set(x), whatever fills it; sorted(set(whole numbers)) -/
section
variable {prog : Program} {w : World} {A : Around} {E : Value → Shared → Prop} {s : Shared}
abbrev freshSet (w : World) : Obj := { cls := .type "set", dict := none, data := .set #[] 0 (.fresh 0 0 (!w.params.followText "set-order")) }
theorem call_setA {v : Value} {G : Heap → Prop} {Q : Value → Shared → Prop} (hn : A.handled = none)
    (hup : ∀ (A' : Around) (R : Unit → Shared → Prop) (E' : Value → Shared → Prop), A'.handled = none → (∀ h1 tk, G h1 → R () { s with heap := h1, toks := tk }) →
      wpAny (model prog w) A' (Builtin.Frozenset.updateFrom "set.__init__" s.heap.objs.size v) R E' { s with heap := s.heap.push (freshSet w) })
    (hQ : ∀ h1 tk, G h1 → Q (.ref s.heap.objs.size) { s with heap := h1, toks := tk }) :
    wpAny (model prog w) A (call (.type "set") [v]) Q E s := by
  obtain ⟨_, _, hmro⟩ := PySem.F.called_set.mro
  have f1 := PySem.F.called_set.made
  have f2 := PySem.F.called_set.sub
  refine wpAny_call (codeAny_of_tree (show wpAny _ _ (callAny (.type "set") _) _ _ _ from ?_))
  refine wpAny_pure ⟨Code.quiet_builtin _ (by decide +kernel), codeAny_builtin PySem.F.entry_type_call ?_⟩
  rw [Around.under_plain (weight_type_call_type "set" [v] []) rfl]
  have f3 := PySem.F.called_set.notType
  have f4 := PySem.F.called_set.canCreate
  have f5 := PySem.F.typeCall_set_1 v
  repeat (any_goals (first | assumption | wp_step))
  generalize hN : s.heap.objs.size = N at hQ hup ⊢
  refine codeAny_mono (code_set_led1 v (E := E) (Q₁ := fun ob z => ob = .ref s.heap.objs.size ∧ z = { s with heap := s.heap.push (freshSet w) }) ⟨rfl, rfl⟩) fun res z hres => ?_
  rcases res with e | fl
  · exact hres
  cases fl with
  | ret ob =>
    obtain ⟨rfl, rfl⟩ := hres
    rw [hN]
    have gN : (s.heap.push (freshSet w)).get? N = some (freshSet w) := hN ▸ Heap.get?_push_size _ rfl
    have tN : Shared.TypeIs { s with heap := s.heap.push (freshSet w) } (.ref N) "set" := ⟨_, gN, rfl⟩
    have f6 := PySem.F.called_set.init.lookup
    have f7 := PySem.F.called_set.init.bind (.ref N)
    repeat (any_goals (first | assumption | wp_step))
    refine codeAny_mono (codeAny_call_builtin (R := wants (fun ob z => ob = .none ∧ ∃ h1 tk, z = { s with heap := h1, toks := tk } ∧ G h1) E) PySem.F.called_set.init.plain PySem.F.entry_set_init (check_set_init_1 tN ?_)) fun res2 z2 hres2 => ?_
    · unfold Builtin.«set.__init__» noKeywords
      generalize hU : Builtin.Frozenset.updateFrom = U at hup ⊢
      wp_walk
      refine hup _ _ _ ?hh fun h1 tk g => ?_
      case hh => simp [hn]
      show wpAny _ _ (ret Value.none) _ _ _
      exact wpAny_pure ⟨rfl, h1, tk, rfl, g⟩
    · rcases res2 with e | fl2
      · exact hres2
      cases fl2 with
      | ret ob =>
        obtain ⟨rfl, h1, tk, rfl, q1⟩ := hres2
        repeat (any_goals (first | assumption | wp_step))
        exact hQ _ _ q1
      | _ => exact hres2.elim
  | _ => exact hres.elim
theorem call_set_listI {l : Addr} {items : Array Value} (ns : List Int) {Q : Value → Shared → Prop} (hh : A.handled = none) (hl : s.heap.IsList l items) (hit : IntsAre items.toList ns) (hb : ns.length + 1 < scanBound)
    (h : ∀ (h' : Heap) (tk c : Nat), SetR w h' s.heap.objs.size (fun j => decide (j ∈ ns)) c → c ≤ ns.length → (∀ b o, s.heap.get? b = some o → h'.get? b = some o) → Q (.ref s.heap.objs.size) { s with heap := h', toks := tk }) :
    wpAny (model prog w) A (call (.type "set") [.ref l]) Q E s := by
  have hisz : items.size = ns.length := by
    have q := IntsAre.length hit
    rw [Array.length_toList] at q
    exact q
  generalize hN : s.heap.objs.size = N at h
  refine call_setA (G := fun h' => ∃ c, SetR w h' N (fun j => decide (j ∈ ns)) c ∧ c ≤ ns.length ∧ ∀ b o, s.heap.get? b = some o → h'.get? b = some o) hh (fun A' R E' hn' hR => ?_) fun h1 tk ⟨c, g1, g2, g3⟩ => by rw [hN]; exact h h1 tk c g1 g2 g3
  rw [hN]
  have gN : (s.heap.push (freshSet w)).get? N = some (freshSet w) := hN ▸ Heap.get?_push_size _ rfl
  obtain ⟨oa, ga, ca, na, da⟩ := hl
  obtain ⟨k1, k2, k3, k4⟩ := oa
  simp only at ca da
  subst ca; subst da
  have ga' : (s.heap.push (freshSet w)).get? l = some { cls := .type "list", dict := k2, data := .seq items na, slots := k4 } := Heap.get?_push_of_some _ ga
  have f8 := PySem.F.sub_list_set
  have f9 := PySem.F.sub_list_frozenset
  have f10 : (Value.type "list" == Value.type "dict") = false := by decide
  have la : (s.heap.push (freshSet w)).IsList l items := ⟨_, ga', rfl, na, rfl⟩
  unfold Builtin.Frozenset.updateFrom
  generalize hit2 : pyIter = PI
  wp_walk
  subst hit2
  refine wpAny_pyIter_list la (wpAny_bind (wpAny_runValue ?_))
  have aN : l < N := hN ▸ Heap.lt_size ga
  have sz : (s.heap.push (freshSet w)).objs.size = N + 1 := by rw [Heap.size_push, hN]
  rw [sz]
  have gN2 : ((s.heap.push (freshSet w)).push { cls := .type "list_iterator", data := .fields #[.ref l, .int 0 0] }).get? N = some (freshSet w) := Heap.get?_push_of_some _ gN
  have gI : ((s.heap.push (freshSet w)).push { cls := .type "list_iterator", data := .fields #[.ref l, .int 0 0] }).get? (N + 1) = some { cls := .type "list_iterator", data := .fields #[.ref l, .int 0 0] } := sz ▸ Heap.get?_push_size _ rfl
  have hval : ∀ (i : Nat) (v : Value), items[i]? = some v → ∃ k t, ns[i]? = some k ∧ v = .int k t := fun i v hv => by
    have hi : i < ns.length := by rw [← hisz]; exact (Array.getElem?_eq_some_iff.mp hv).1
    obtain ⟨t, e⟩ := PyProof.Rows.IntsAre.int_at hit i v (by rw [Array.getElem?_toList]; exact hv)
    refine ⟨ns[i], t, List.getElem?_eq_getElem hi, ?_⟩
    rw [e, List.getD_eq_getElem?_getD, List.getElem?_eq_getElem hi] <;> rfl
  refine set_update_ints ((Walks.list (by simp [hn']) (N + 1) l (Nat.ne_of_lt (Nat.lt_succ_of_lt aN)) items).toS) N (fun q => by simp only [List.mem_cons, List.not_mem_nil, or_false] at q; exact q.elim (Nat.ne_of_lt (Nat.lt_succ_self N)) (Nat.ne_of_gt aN))
    ns hisz hb hval (items.size - 0) 0 _ (by omega) (Nat.zero_le _) ⟨⟨_, gI, rfl, rfl⟩, (la.push _)⟩ ⟨0, Nat.le_refl 0, setR_new_at gN2⟩ fun s' c' hm hc' hS' => ?_
  obtain ⟨h', g2, d', tk', os'⟩ := s'
  have eg : g2 = s.gens := hm.gens
  have ed : d' = s.drawn := hm.drawn
  have eo : os' = s.os := hm.os
  subst eg; subst ed; subst eo
  refine wpAny_pure (hR h' tk' ⟨c', hS', by rw [← hisz]; exact hc', fun b o e => ?_⟩)
  have hb0 : b < N := hN ▸ Heap.lt_size e
  have hq : b ∉ [N, N + 1] := fun q => by
    rcases List.mem_cons.mp q with q | q
    · exact absurd q (Nat.ne_of_lt hb0)
    · exact absurd (List.mem_singleton.mp q) (Nat.ne_of_lt (Nat.lt_succ_of_lt hb0))
  exact hm.heap b o hq (Heap.get?_push_of_some _ (Heap.get?_push_of_some _ e))
end
/-- the members in order -/
def insU (x : Int) : List Int → List Int
  | [] => [x]
  | y :: ys => if x < y then x :: y :: ys else if x = y then y :: ys else y :: insU x ys
def ssetL (ns : List Int) : List Int := ns.foldr insU []
theorem insU_mem (x z : Int) : ∀ l : List Int, z ∈ insU x l ↔ z = x ∨ z ∈ l
  | [] => by simp [insU]
  | y :: ys => by
    unfold insU
    split
    · simp
    · split
      · rename_i h1 h2
        subst h2
        simp
      · rw [List.mem_cons, insU_mem x z ys, List.mem_cons]
        constructor
        · rintro (h | h | h) <;> simp [h]
        · rintro (h | h | h) <;> simp [h]
theorem insU_pw (x : Int) : ∀ l : List Int, l.Pairwise (· < ·) → (insU x l).Pairwise (· < ·)
  | [], _ => by simp [insU]
  | y :: ys, h => by
    have h1 := List.pairwise_cons.mp h
    unfold insU
    split
    · rename_i hx
      refine List.pairwise_cons.mpr ⟨fun z hz => ?_, h⟩
      rcases List.mem_cons.mp hz with e | e
      · rw [e]; exact hx
      · exact Int.lt_trans hx (h1.1 z e)
    · split
      · exact h
      · refine List.pairwise_cons.mpr ⟨fun z hz => ?_, insU_pw x ys h1.2⟩
        rcases (insU_mem x z ys).mp hz with e | e
        · rw [e]; omega
        · exact h1.1 z e
theorem ssetL_pw : ∀ ns : List Int, (ssetL ns).Pairwise (· < ·)
  | [] => List.Pairwise.nil
  | n :: ns => insU_pw n _ (ssetL_pw ns)
theorem ssetL_mem (z : Int) : ∀ ns : List Int, z ∈ ssetL ns ↔ z ∈ ns
  | [] => by simp [ssetL]
  | n :: ns => by
    show z ∈ insU n (ssetL ns) ↔ _
    rw [insU_mem, ssetL_mem z ns, List.mem_cons]
theorem strict_ext : ∀ {a b : List Int}, a.Pairwise (· < ·) → b.Pairwise (· < ·) → (∀ z, z ∈ a ↔ z ∈ b) → a = b
  | [], [], _, _, _ => rfl
  | [], y :: ys, _, _, h => by have := (h y).2 (by simp); simp at this
  | x :: xs, [], _, _, h => by have := (h x).1 (by simp); simp at this
  | x :: xs, y :: ys, ha, hb, h => by
    have h1 := List.pairwise_cons.mp ha
    have h2 := List.pairwise_cons.mp hb
    have e : x = y := by
      have q1 := (h x).1 (by simp)
      have q2 := (h y).2 (by simp)
      rcases List.mem_cons.mp q1 with e | e
      · exact e
      · rcases List.mem_cons.mp q2 with e' | e'
        · exact e'.symm
        · have := h1.1 y e'
          have := h2.1 x e
          omega
    subst e
    rw [strict_ext h1.2 h2.2 fun z => ?_]
    have q := h z
    rw [List.mem_cons, List.mem_cons] at q
    constructor
    · intro hz
      rcases q.1 (.inr hz) with e | e
      · have := h1.1 z hz; omega
      · exact e
    · intro hz
      rcases q.2 (.inr hz) with e | e
      · have := h2.1 z hz; omega
      · exact e
def E.sset (a : EE) : EE := fun ρ μ => (a ρ μ).bind fun d μ => match seeL μ d with
  | some ds => (match intsD ds with
    | some ns => if ns.length ≤ 2000 ∧ (ssetL ns).length < 64 then .ok (.lst ((ssetL ns).map .int)) μ else .bad
    | none => .bad)
  | none => .bad
section
variable {X : Cx} {W : WX}
theorem se_sset {a : Expr} {ma : EE} {p p2 q pos : Pos} (hg : Gl X "sorted") (hm : X.mg "sorted" = none) (hg2 : Gl X "set") (hm2 : X.mg "set" = none) (ha : PE X a (lift X.K W ma)) (hc : X.calm = true := by rfl)
    (na : starEach [a] X.env = (false, eval a X.env) :: starEach [] X.env := by rfl) : PE X (.Call (.Name "sorted" p) [.Call (.Name "set" p2) [a] [] q] [] pos) (lift X.K W (E.sset ma)) := by
  refine ⟨fun pins s σ H Q I ⟨φ, ρ, μ, hl, hr, o⟩ => ?_⟩
  refine Call_ (ld_blt I hg hm boot_sorted (callWith_builtin1 (args_cons (Call_ (ld_blt I hg2 hm2 boot_set ?_)) rfl) rfl rfl))
  refine callWith_type1 (args_cons (use ha I hl hr (OutG.bind o) fun v s1 x H1 d μ1 φ1 I1 r1 e1 m1 p1 o1 => args_nil ?_) na) na rfl
  split at o1
  · rename_i ds hds
    split at o1
    · rename_i ns hns
      split at o1
      · rename_i h64
        obtain ⟨l, vs, rfl, hq, rs⟩ := seeL_rep m1 p1 hds
        have ev := intsD_rep rs hns
        subst ev
        cases r1
        obtain ⟨its, r, pl, hz⟩ := I1.list (.of hq)
        refine call_set_listI ns (I1.ok.hd hc) pl.isList (by simpa using RZ.intsAre_vals r) (by unfold scanBound; omega) fun h' tk c R hc' hk => ?_
        have hcl : c = (ssetL ns).length := by
          obtain ⟨o3, es, ep, t3, _, _, _, _, nd, mm, _, _, hn3, _⟩ := R
          have pm : (es.toList.map L2.keyOf).Perm (ssetL ns) := (List.perm_ext_iff_of_nodup nd ((ssetL_pw ns).imp fun h => Int.ne_of_lt h)).mpr fun z => by rw [← mm z, ssetL_mem, decide_eq_true_eq]
          rw [← pm.length_eq, List.length_map, Array.length_toList]; exact hn3.symm
        refine args_nil ?_
        have J1 : Inv X pins σ H1 { s1 with heap := h', toks := tk } := I1.kept hk
        refine sorted_set R (I1.ok.hd hc) (by rw [hcl]; exact h64.2) fun s' p out c2 ys k g o2 hp hg hi hs hm hl => ?_
        have hlen : (ys.map V.int).length ≤ sizeLine := by rw [List.length_map, hl, sizeLine_eq]; omega
        have hn : H1 p = none := J1.hok.fresh hp
        have J : Inv X pins σ (upd H1 p (.lst (ys.map V.int))) { { s1 with heap := h', toks := tk } with heap := s'.heap, gens := s'.gens, drawn := s'.drawn, toks := s'.toks } :=
          J1.call (ch := []) (Un.laid k hp hn) (J1.hok.laid k hp ⟨hlen, out.toList, c2, vals_of_ints hi, hg⟩) (by rw [g]; exact J1.bare) (fun _ z => nomatch z)
        have e : s' = { { s1 with heap := h', toks := tk } with heap := s'.heap, gens := s'.gens, drawn := s'.drawn, toks := s'.toks } := by
          cases s'
          cases o2
          rfl
        rw [e]
        have ey : ys = ssetL ns := strict_ext hs (ssetL_pw ns) fun z => by rw [hm z, ssetL_mem, decide_eq_true_eq]
        subst ey
        exact ⟨.ref p, _, J, rfl, o1 φ1 _ (Ext.fresh hn) (m1.fresh hn) _ (rep_lst upd_same (m1.out hn) (repAll_ints _))⟩
      · exact o1.elim
    · exact o1.elim
  · exact o1.elim
end
end Dp

namespace Dp
open PySem PySem.Spec PyProof.Rows L2
/-! ### dicts as values: frozen -/
/-- what stands in the memory is read as a value from now on -/
def E.frz (a : EE) : EE := fun ρ μ => (a ρ μ).bind fun d μ => match d with
  | .ref i => (match μ[i]? with
    | some (.dct ks xs) => .ok (.dct ks xs) (μ.set i .gone)
    | _ => .bad)
  | _ => .bad
/-- {x: d}, d a constant -/
def E.disp1 (i : Nat) (d : D) : EE := fun ρ μ => match ρ[i]? with
  | some (some x) => (match keyOf x with
    | some k => .ok (.ref μ.length) (μ ++ [.dct [k] [d]])
    | none => .bad)
  | _ => .bad
def dMerge : List Key × List D → List Key → List D → List Key × List D
  | a, k :: ks, x :: xs => dMerge (dPutK a.1 a.2 k, dPutX a.1 a.2 k x) ks xs
  | a, _, _ => a
def Mt.dupd (x : D) (ds : List D) (μ : Mem) : Res D := match x, ds with
  | .ref i, [.dct ks' xs'] => (match μ[i]? with
    | some (.dct ks xs) => if ks.length + ks'.length ≤ 16777216 then .ok .non (μ.set i (.dct (dMerge (ks, xs) ks' xs').1 (dMerge (ks, xs) ks' xs').2)) else .bad
    | _ => .bad)
  | _, _ => .bad
def Mt.dget2 (x : D) (ds : List D) (μ : Mem) : Res D := match ds with
  | [i, e] => (match seeD μ x, keyOf i with
    | some (ks, xs), some k => (match dGet ks xs k with
      | some d => .ok d μ
      | none => .ok e μ)
    | _, _ => .bad)
  | _ => .bad
def keyV : Key → D
  | .inl i => .int i
  | .inr s => .str s
/-- the keys of a dict, a value -/
def Q.keysD (e : EE) : EA := fun ρ μ => (e ρ μ).bind fun d μ => match d with
  | .dct ks _ => .ok (ks.map keyV) μ
  | _ => .bad
section
variable {K : PySem.W.Frag} {φ : Pl} {H : Hp}
theorem rep_keyV (k : Key) : Rep K φ H (kV k) (keyV k) := by
  cases k with
  | inl i => unfold keyV Rep; rfl
  | inr s => unfold keyV Rep; rfl
theorem rep_dct {p : Addr} {o : Obj} {ks : List Key} {vs : List V} {ds : List D} (h : H p = some (.frz o (.dK (ks.zip vs)))) (hl : ks.length = ds.length) (r : RepAll K φ H vs ds) : Rep K φ H (.ref p) (.dct ks ds) := by
  unfold Rep; exact ⟨p, vs, rfl, ⟨⟨o, h⟩, hl⟩, r⟩
theorem dMerge_rep : ∀ (ks' : List Key) (xs' : List D) {ks : List Key} {xs : List D} {vs vs' : List V}, ks.length = xs.length → RepAll K φ H vs xs → ks'.length = xs'.length → RepAll K φ H vs' xs' →
    ∃ ws, mergeK (ks.zip vs) (ks'.zip vs') = (dMerge (ks, xs) ks' xs').1.zip ws ∧ RepAll K φ H ws (dMerge (ks, xs) ks' xs').2 ∧ (dMerge (ks, xs) ks' xs').1.length = (dMerge (ks, xs) ks' xs').2.length
  | [], xs', ks, xs, vs, vs', hl, r, _, _ => ⟨vs, rfl, by unfold dMerge; exact r, by unfold dMerge; exact hl⟩
  | k :: ks', [], ks, xs, vs, vs', hl, r, hl', _ => by cases hl'
  | k :: ks', x :: xs', ks, xs, vs, vs', hl, r, hl', r' => by
    unfold RepAll at r'
    obtain ⟨v, q, rfl, h1, h2⟩ := r'
    obtain ⟨ws, e1, r1⟩ := dPut_rep (k := k) hl r h1
    obtain ⟨ws2, e2, r2, l2⟩ := dMerge_rep ks' xs' (dPut_len (k := k) (d := x) hl) r1 (by simpa using hl') h2
    refine ⟨ws2, ?_, by unfold dMerge; exact r2, by unfold dMerge; exact l2⟩
    show mergeK (putK (ks.zip vs) k v) (ks'.zip q) = _
    rw [e1, e2]; rfl
end
section
variable {X : Cx} {W : WX} {e a k v : Expr} {m ma : EE} {pos : Pos}
theorem pv1 (i : Nat) {x : Str} (hN : X.N[i]? = some x := by rfl) (hv : Vis X.env.scope x := by first | exact Or.inl rfl | exact Or.inr (Or.inl rfl) | exact Or.inr (Or.inr rfl)) (hd : (x == ("__debug__" : Str)) = false := by decide)
    (hcd : (x == ("__classdict__" : Str)) = false := by decide) : PE X (.Name x pos) (tVar i) := pe_var hN hv hd hcd
theorem se_frz (ha : PE X a (lift X.K W ma)) : PE X a (lift X.K W (E.frz ma)) := by
  refine ⟨fun pins s σ H Q I ⟨φ, ρ, μ, hl, hr, o⟩ => use ha I hl hr (OutG.bind o) fun u s1 z H1 d μ1 φ1 I1 r1 e1 m1 p1 o1 => ?_⟩
  split at o1
  · rename_i i
    split at o1
    · rename_i ks xs hx
      unfold Rep at p1
      obtain ⟨p, rfl, hi⟩ := p1
      obtain ⟨vs, h1, h2, rs⟩ := m1.obj i p _ hi hx
      obtain ⟨od, J⟩ := I1.lock h1 True.intro
      obtain ⟨e3, m3⟩ := mem_write (o := .frz od (.dK (ks.zip vs))) (m := .gone) m1 hi (by rw [h1]; exact fun _ z => nomatch z) (by rw [h1]; exact fun _ _ z => nomatch z) fun _ => ⟨_, upd_same⟩
      exact ⟨.ref p, _, J, r1, o1 φ1 _ e3 m3 _ (rep_dct upd_same h2 (rs.ext e3))⟩
    · exact o1.elim
  · exact o1.elim
theorem se_disp1 {i : Nat} {w : V} {d : D} (hk : PE X k (tVar i)) (hv : PE X v (tC w)) (hr : ∀ φ H, Rep X.K φ H w d) : PE X (.Dict [some k] [v] pos) (lift X.K W (E.disp1 i d)) := by
  refine pe_anti (pe_disp (trs := [(tVar i, tC w)]) (pps_cons hk hv pps_nil) rfl rfl (by simp) (by simp)) fun σ H Q ⟨φ, ρ, μ, hl, hm, o⟩ p hp => ?_
  unfold E.disp1 at o
  split at o
  · rename_i x hx
    split at o
    · rename_i key hkey
      obtain ⟨v0, e1, r1⟩ := hl.at_ i x hx
      have ek := keyOf_rep r1 hkey
      subst ek
      refine ⟨kV key, e1, upd_same, [(key, w)], rfl, by simp, ?_⟩
      rw [L2.upd_upd]
      exact o (φ.push p) _ (Ext.push hm hp) (hm.push hp ⟨[w], by rw [upd_same]; rfl, rfl, RepAll.cons_ (hr _ _) RepAll.nil_⟩) _ (rep_new hm)
    · exact o.elim
  · exact o.elim
theorem d_update {pins : List (Addr × Obj)} {σ : L2.St} {H : Hp} {s : Shared} {a b : Addr} {kvs more : List (Key × V)} {A : Around} {E : Value → Shared → Prop} {Q : Value → Shared → Prop} (I : Inv X pins σ H s) (e : H a = some (.dK kvs)) (eb : Rd H b (.dK more)) (ne : a ≠ b)
    (hz : kvs.length + more.length ≤ sizeLine) (h : ∀ s', Inv X pins σ (upd H a (.dK (mergeK kvs more))) s' → Q .none s') : wpAny (model X.prog X.w) A (call (.builtin "dict.update") [.ref a, .ref b]) Q E s := by
  obtain ⟨z, hd, vs, rel, dd⟩ := dk_of I.hok e
  obtain ⟨z2, hd2, ws, rel2, dd2⟩ := dk_rd I.hok eb
  have hl : (mergeK kvs more).length ≤ sizeLine := by have := length_mergeK more kvs; omega
  refine call_meetsIn PySem.F.slot_dict_update dd.typeIs PySem.F.entry_dict_update (PySem.F.args_dict_update_2 _ _) (meets_dict_update (mixKind X.prog X.w) a b ne hd2)
    ⟨vs, ws, dd, dd2, (by rw [← rel.length, ← rel2.length]; exact hz), fun h' dd' _ hs => h _ ?_⟩
  have he : ∃ q, h'.get? a = some q := let ⟨q, _, _, hq, _⟩ := dd'; ⟨q, hq⟩
  exact d_write I (by rw [e]; exact True.intro) hs he (dk_new hl hd (KV.merge rel2 rel) dd')
theorem meth_dupd : MethS X W "dict.update" Mt.dupd := by
  intro pins s σ H φ μ x xs v us dx ds Q I rx rxs hm px pxs o
  unfold Mt.dupd at o
  split at o
  · rename_i i ks' xs'
    split at o
    · rename_i ks ys hy
      split at o
      · rename_i hz
        unfold Rep at px
        obtain ⟨a, rfl, hi⟩ := px
        obtain ⟨vs, h1, h2, rs⟩ := hm.obj i a _ hi hy
        obtain ⟨w, rfl, rw'⟩ := repAll1 pxs
        unfold Rep at rw'
        obtain ⟨p, vs', rfl, ⟨⟨od, hf⟩, hl'⟩, rs'⟩ := rw'
        obtain ⟨ws, em, rm, lm⟩ := dMerge_rep (K := X.K) (φ := φ) (H := H) ks' xs' h2 rs hl' rs'
        obtain ⟨e3, m3⟩ := mem_write (o := .dK (mergeK (ks.zip vs) (ks'.zip vs'))) (m := .dct (dMerge (ks, ys) ks' xs').1 (dMerge (ks, ys) ks' xs').2) hm hi (by rw [h1]; exact fun _ z => nomatch z) (by rw [h1]; exact fun _ _ z => nomatch z) fun e => ⟨ws, by rw [upd_same, em], lm, rm.ext e⟩
        obtain ⟨u, rfl, ru⟩ := vals1 rxs
        cases rx
        cases ru
        have ne : a ≠ p := fun z => by rw [z, hf] at h1; cases h1
        refine d_update I h1 (.inr ⟨od, hf⟩) ne ?_ fun s' I' => ⟨.non, _, I', rfl, o φ _ e3 m3 _ (by unfold Rep; rfl)⟩
        rw [List.length_zip, List.length_zip, rs.length, rs'.length, ← h2, ← hl', sizeLine_eq, Nat.min_self, Nat.min_self]
        exact hz
      · exact o.elim
    · exact o.elim
  · exact o.elim
theorem meth_dget2 (hu : X.A.units + 200 < cLine) : MethS X W "dict.get" Mt.dget2 := by
  intro pins s σ H φ μ x xs v us dx ds Q I rx rxs hm px pxs o
  unfold Mt.dget2 at o
  split at o
  rotate_left
  · exact o.elim
  split at o
  rotate_left
  · exact o.elim
  rename_i i d0 _ _ ks ys k hd hk
  obtain ⟨a, vs, rfl, q, hlen, rs⟩ := seeD_rep hm px hd
  obtain ⟨w1, w2, rfl, g1, g2⟩ := repAll2 pxs
  have ek := keyOf_rep g1 hk
  subst ek
  obtain ⟨u1, u2, rfl, ru1, ru2⟩ := vals2 rxs
  cases (show v = Value.ref a from rx)
  have g := dGet_rep (ks := ks) (k := k) rs
  refine d_get2 (by omega) I (.inl ⟨_, k, q, rfl, rfl⟩) ru1 ru2 fun w' s' I' rw2 => ?_
  cases h : dGet ks ys k with
  | none =>
    rw [h] at o g
    have g : valV (ks.zip vs) k = none := g
    rw [g] at rw2
    exact ⟨_, H, I', rw2, o φ H Ext.refl hm _ g2⟩
  | some d =>
    rw [h] at o g
    obtain ⟨z, hz, rz⟩ := g
    have hz : valV (ks.zip vs) k = some z := hz
    rw [hz] at rw2
    exact ⟨_, H, I', rw2, o φ H Ext.refl hm _ rz⟩
theorem pi_keysF {tg : Expr} (he : PE X e (lift X.K W m)) : PI X tg e (liftI X.K W (Q.keysD m)) :=
  pi_anti (pi_keys he) fun σ H R ⟨φ, ρ, μ, hl, hm, o⟩ => ⟨φ, ρ, μ, hl, hm, (OutG.bind o).imp fun d μ1 φ1 H1 e1 m1 o1 v rv => by
    cases d with
    | dct ks xs =>
      unfold Rep at rv
      obtain ⟨p, vs, rfl, ⟨⟨od, hf⟩, hlen⟩, rs⟩ := rv
      refine ⟨p, od, rfl, .inl ⟨ks.zip vs, hf, o1 φ1 H1 Ext.refl m1 _ ?_⟩⟩
      have hz : (ks.zip vs).length = (ks.map keyV).length := by rw [List.length_zip, List.length_map, rs.length, ← hlen, Nat.min_self]
      refine ⟨_, _, by rw [← hz]; exact walk_keys, fun φ2 H2 μ2 e _ => e.ext.frzs _ _ _ hf, fun i φ2 H2 μ2 y H3 hi e2 m2 hy => ?_⟩
      obtain ⟨rfl, k, w, hkw, rfl⟩ := hy
      refine ⟨keyV k, ?_, rep_keyV k, Ext.refl, m2⟩
      have : (ks.zip vs)[i]? = some (k, w) := hkw
      rw [List.getElem?_map]
      have h1 : ks[i]? = some k := by
        rw [List.getElem?_zip_eq_some] at this
        exact this.1
      rw [h1]; rfl
    | _ => exact o1.elim⟩
end
end Dp

namespace Dp
open PySem PySem.Spec PyProof.Rows L2
/-! ### a dict comprehension, as a value -/
def Q.dcLoop (g : EG) (tt : EB) (tk tv : EE) (ρ : Dp.Loc) : List D → List Key × List D → Mem → Res (List Key × List D)
  | [], acc, μ => .ok acc μ
  | d :: ds, acc, μ => match g d ρ μ with
    | none => .bad
    | some (ρ1, μ1) => (tt ρ1 μ1).nox.bind fun c μ2 => bif c then (tk ρ1 μ2).nox.bind fun k μ3 => (tv ρ1 μ3).nox.bind fun v μ4 => (match Dp.keyOf k with
        | some k => dcLoop g tt tk tv ρ ds (dPutK acc.1 acc.2 k, dPutX acc.1 acc.2 k v) μ4
        | none => .bad) else dcLoop g tt tk tv ρ ds acc μ2
def E.dc (q : EA) (vs : List Nat) (g : EG) (tt : EB) (tk tv : EE) : EE := fun ρ μ => (q ρ μ).bind fun ds μ => if ds.length ≤ 16777215 then (Q.dcLoop g tt tk tv (wipeL ρ vs) ds ([], []) μ).bind fun kx μ => .ok (.dct kx.1 kx.2) μ else .bad
theorem dPutK_len (ks : List Key) (xs : List D) (k : Key) : (dPutK ks xs k).length ≤ ks.length + 1 := by
  unfold dPutK
  split <;> simp
section
variable {K : PySem.W.Frag} {φ ψ : Pl} {H : Hp} {D : Addr} {μ : Mem}
theorem leans_writeK (hD : ψ.av D) (ht : ∃ kvs, H D = some (.dK kvs)) {o : HO} : Leans K ψ H ψ (upd H D o) := by
  obtain ⟨xs, ht⟩ := ht
  refine ⟨fun _ _ h => h, fun p vs h => ?_, fun p u q n => ⟨?_, n⟩, fun p vs h => ?_, fun p ⟨o, vs, a, b⟩ => ⟨o, vs, by rw [upd_ne (fun z => by rw [z, ht] at a; cases a)]; exact a, b⟩, fun p kvs ⟨o, a⟩ => ⟨o, by rw [upd_ne (fun z => by rw [z, ht] at a; cases a)]; exact a⟩⟩
  · rcases h with (h | ⟨o, h⟩) | h
    · exact .inl (.inl (by rw [upd_ne (fun z => by rw [z, ht] at h; cases h)]; exact h))
    · exact .inl (.inr ⟨o, by rw [upd_ne (fun z => by rw [z, ht] at h; cases h)]; exact h⟩)
    · exact .inr h
  · have ne : p ≠ D := fun z => n.2 (by rw [z]; exact hD)
    rw [upd_ne ne]; exact q
  · rcases h with ⟨o, h⟩ | h
    · exact .inl ⟨o, by rw [upd_ne (fun z => by rw [z, ht] at h; cases h)]; exact h⟩
    · exact .inr h
theorem Rel.writeK (r : Rel K ψ H μ) (hD : ψ.av D) (ht : ∃ kvs, H D = some (.dK kvs)) {o : HO} : Rel K ψ (upd H D o) μ := by
  refine ⟨r.len, r.nd, fun b q => ?_, fun i a ob e1 e2 => (r.obj i a ob e1 e2).mono (leans_writeK hD ht) (upd_ne fun z => (r.av D hD).1 (by rw [← z]; exact List.mem_of_getElem? e1))⟩
  obtain ⟨n, u, h⟩ := r.av b q
  by_cases hb : b = D
  · rw [hb]; exact ⟨by rw [← hb]; exact n, _, upd_same⟩
  · exact ⟨n, u, by rw [upd_ne hb]; exact h⟩
end
/-- the dict, seen while it is still hidden -/
def GD (K : PySem.W.Frag) (H0 : Hp) (Qr : VK) : List Key × List D → Mem → Pl → Hp → Prop := fun kx μ' φ' H' => ∀ D us, φ'.out D → H0 D = none → H' D = some (.dK (kx.1.zip us)) → kx.1.length = kx.2.length → RepAll K (φ'.hide D) H' us kx.2 → Rel K (φ'.hide D) H' μ' → Qr (.ref D) H'
theorem dc_it {J : It} {n : Nat} {G : Hp → Prop} {Y : Nat → Hp → V → Hp → Prop} (w : Walk J n G Y) {g : TG} {tt : TT} {tk tv : TE} {vs : List Nat} {σ : L2.St} {H1 : Hp} {D : Addr} {Qd : Hp → Prop} (Pv : Nat → Hp → Prop) (h0 : Pv 0 (upd H1 D (.dK []))) (hG : ∀ i H, i ≤ n → Pv i H → G H)
    (hs : ∀ i x H H', i < n → Pv i H → Y i H x H' → g x (L2.wipe σ vs) H' fun σ2 H2 => L2.wipe σ2 vs = L2.wipe σ vs ∧ tt σ2 H2 fun b H3 =>
      if b = true then tk σ2 H3 fun y H4 => tv σ2 H4 fun z H5 => ∃ kvs k, y = kV k ∧ H5 D = some (.dK kvs) ∧ kvs.length < sizeLine ∧ Pv (i + 1) (upd H5 D (.dK (putK kvs k z))) else Pv (i + 1) H3) (hd : ∀ H, Pv n H → Qd H) :
    ∃ W : Nat → Nat → Hp → Prop, (∃ m, W 0 m (upd H1 D (.dK []))) ∧ ∀ i m H, W i m H →
      (J.stop i H ∧ Qd H) ∨ (J.go i H ∧ ∃ Nx : Hp → Prop, (∀ H', Nx H' → ∃ m', m' < m ∧ W (i + 1) m' H') ∧ ∀ x H', J.yld i H x H' → g x (L2.wipe σ vs) H' fun σ2 H2 => L2.wipe σ2 vs = L2.wipe σ vs ∧ tt σ2 H2 fun b H3 =>
        if b = true then tk σ2 H3 fun y H4 => tv σ2 H4 fun z H5 => ∃ kvs k, y = kV k ∧ H5 D = some (.dK kvs) ∧ kvs.length < sizeLine ∧ Nx (upd H5 D (.dK (putK kvs k z))) else Nx H3) := by
  refine ⟨fun i m H => m = n - i ∧ i ≤ n ∧ Pv i H, ⟨n, by simp, Nat.zero_le _, h0⟩, ?_⟩
  rintro i m H ⟨rfl, hi, p⟩
  have q := hG i H hi p
  rcases Nat.lt_or_ge i n with hlt | hge
  · exact .inr ⟨w.goes i H hlt q, Pv (i + 1), fun H' p' => ⟨n - (i + 1), by omega, rfl, hlt, p'⟩, fun x H' y => hs i x H H' hlt p (w.yields i H x H' hlt q y)⟩
  · have e : i = n := Nat.le_antisymm hi hge
    subst e
    exact .inl ⟨w.stops H q, hd H p⟩
section
variable {X : Cx} {W : WX}
theorem dc_outH {K : PySem.W.Frag} {W : WX} {q : EA} {vs : List Nat} {g : EG} {tt : EB} {tk tv : EE} {σ : L2.St} {H : Hp} {Qr : VK} {φ : Pl} {ρ : Dp.Loc} {μ : Mem} (hl : RepL K φ H σ ρ) (hm : Rel K φ H μ)
    (o : OutG K W σ φ H (GD K H Qr) ((q ρ μ).bind fun ds μ => if ds.length ≤ 16777215 then Q.dcLoop g tt tk tv (wipeL ρ vs) ds ([], []) μ else .bad)) :
    tDc (liftI K W q) (liftG K vs g) (liftB K W0 tt) (lift K W0 tk) (lift K W0 tv) vs σ H Qr := by
  refine ⟨φ, ρ, μ, hl, hm, (OutG.bind o).imp fun ds μ1 φ1 H1 e1 r1 o1 J ⟨Gd, Y, wk, hG, hY⟩ D hD => ?_⟩
  split at o1
  rotate_left
  · exact o1.elim
  rename_i hz
  have hav : ∀ b, φ1.av b → (φ1.hide D).av b := fun b q => .inl q
  have hno : φ1.out D := r1.out hD
  have hD0 : H D = none := by
    cases hq : H D with
    | none => rfl
    | some o =>
      by_cases hp : D ∈ φ.pl
      · obtain ⟨tl, et⟩ := e1.pre
        obtain ⟨u, eu⟩ := r1.tracked (b := D) (by rw [et]; exact List.mem_append_left _ hp)
        rw [hD] at eu; cases eu
      · have := e1.keep D o hq hp
        rw [hD] at this; cases this
  have toA : ∀ {ψ : Pl} {H2 : Hp}, ψ.av = (φ1.hide D).av → Ext φ1 H1 (ψ.un φ1.av) H2 → ExtA φ1 H1 ψ H2 := fun {ψ H2} ea e => ⟨e, fun b q => by rw [ea]; exact .inl q, fun b q => by
    rw [ea] at q
    rcases q with q | q
    · exact .inl q
    · exact .inr (by rw [q]; exact hD)⟩
  refine dc_it wk (fun i H9 => ∃ ψ μ acc vacc, ψ.av = (φ1.hide D).av ∧ Ext φ1 H1 (ψ.un φ1.av) H9 ∧ Rel K ψ H9 μ ∧ RepL K ψ H9 (L2.wipe σ vs) (wipeL ρ vs) ∧ H9 D = some (.dK (acc.1.zip vacc)) ∧ acc.1.length = acc.2.length ∧ RepAll K ψ H9 vacc acc.2 ∧ acc.1.length ≤ i ∧
      OutG K W σ φ1 H1 (GD K H Qr) (Q.dcLoop g tt tk tv (wipeL ρ vs) (ds.drop i) acc μ)) ?_ ?_ ?_ ?_
  · exact ⟨φ1.hide D, μ1, ([], []), [], rfl, (Ext.fresh hD : Ext φ1 H1 φ1 (upd H1 D (.dK []))), r1.hide hD, (((hl.ext e1).wipe vs).mono (leans_hide hD)), upd_same, rfl, RepAll.nil_, Nat.le_refl _, o1⟩
  · rintro i H2 hi ⟨ψ, μ2, acc, vacc, ea, e, r, _⟩
    exact hG ψ H2 μ2 (toA ea e) r
  · rintro i x H2 H3 hi ⟨ψ, μ2, acc, vacc, ea, e, r, lw, hDa, hka, ra, hacc, o2⟩ y
    obtain ⟨d, hd, rx, e3, r3⟩ := hY i ψ H2 μ2 x H3 hi (toA ea e) r y
    have hdrop : ds.drop i = d :: ds.drop (i + 1) := by
      obtain ⟨hlt, he⟩ := List.getElem?_eq_some_iff.mp hd
      rw [← he]; exact List.drop_eq_getElem_cons hlt
    rw [hdrop] at o2
    have hDn : D ∉ ψ.pl := (r.av D (by rw [ea]; exact .inr rfl)).1
    refine ⟨ψ, wipeL ρ vs, μ2, d, lw.ext e3, r3, rx, ?_⟩
    unfold Q.dcLoop at o2
    cases hg : g d (wipeL ρ vs) μ2 with
    | none => rw [hg] at o2; exact o2
    | some p =>
      obtain ⟨ρ4, μ4⟩ := p
      rw [hg] at o2
      dsimp only at o2
      intro ψ4 H4 e4 r4 σ4 l4 w4
      refine ⟨w4.trans (wipe_wipe σ vs), ψ4, ρ4, μ4, l4, r4, ?_⟩
      have ea4 : ψ4.av = (φ1.hide D).av := e4.av.trans ea
      cases ht : tt ρ4 μ4 with
      | bad => rw [ht] at o2; exact o2.elim
      | err x μ5 => rw [ht] at o2; exact o2.elim
      | ok c μ5 =>
      rw [ht] at o2
      intro ψ5 H5 e5 r5
      have e35 : Ext ψ H2 ψ5 H5 := (e3.trans e4).trans e5
      have ea5 : ψ5.av = (φ1.hide D).av := e5.av.trans ea4
      cases c with
      | false =>
        show if false = true then _ else _
        rw [if_neg (by decide)]
        exact ⟨ψ5, μ5, acc, vacc, ea5, e.trans e35.un, r5, lw.ext e35, e35.keep D _ hDa hDn, hka, ra.ext e35, Nat.le_succ_of_le hacc, o2⟩
      | true =>
        show if true = true then _ else _
        rw [if_pos rfl]
        refine ⟨ψ5, ρ4, μ5, l4.ext e5, r5, ?_⟩
        have o2 : OutG K W σ φ1 H1 (GD K H Qr) ((tk ρ4 μ5).nox.bind fun k μ3 => (tv ρ4 μ3).nox.bind fun v μ4 => (match Dp.keyOf k with
          | some k => Q.dcLoop g tt tk tv (wipeL ρ vs) (ds.drop (i + 1)) (dPutK acc.1 acc.2 k, dPutX acc.1 acc.2 k v) μ4
          | none => .bad)) := o2
        cases hte : tk ρ4 μ5 with
        | bad => rw [hte] at o2; exact o2.elim
        | err x μ5 => rw [hte] at o2; exact o2.elim
        | ok kd μ6 =>
        rw [hte] at o2
        intro ψ6 H6 e6 r6 v rv
        refine ⟨ψ6, ρ4, μ6, (l4.ext e5).ext e6, r6, ?_⟩
        have o2 : OutG K W σ φ1 H1 (GD K H Qr) ((tv ρ4 μ6).nox.bind fun v μ4 => (match Dp.keyOf kd with
          | some k => Q.dcLoop g tt tk tv (wipeL ρ vs) (ds.drop (i + 1)) (dPutK acc.1 acc.2 k, dPutX acc.1 acc.2 k v) μ4
          | none => .bad)) := o2
        cases htv : tv ρ4 μ6 with
        | bad => rw [htv] at o2; exact o2.elim
        | err x μ5 => rw [htv] at o2; exact o2.elim
        | ok vd μ7 =>
        rw [htv] at o2
        intro ψ7 H7 e7 r7 w rw'
        have o2 : OutG K W σ φ1 H1 (GD K H Qr) (match Dp.keyOf kd with
          | some k => Q.dcLoop g tt tk tv (wipeL ρ vs) (ds.drop (i + 1)) (dPutK acc.1 acc.2 k, dPutX acc.1 acc.2 k vd) μ7
          | none => .bad) := o2
        cases hk : Dp.keyOf kd with
        | none => rw [hk] at o2; exact o2.elim
        | some k =>
        rw [hk] at o2
        have ek := keyOf_rep rv hk
        have e37 : Ext ψ H2 ψ7 H7 := (e35.trans e6).trans e7
        have ea7 : ψ7.av = (φ1.hide D).av := (e7.av.trans e6.av).trans ea5
        have hD7 : H7 D = some (.dK (acc.1.zip vacc)) := e37.keep D _ hDa hDn
        have hv7 : ψ7.av D := by rw [ea7]; exact .inr rfl
        obtain ⟨ws, ew, rws⟩ := dPut_rep (k := k) hka (ra.ext e37) rw'
        refine ⟨acc.1.zip vacc, k, ek, hD7, ?_, ψ7, μ7, (dPutK acc.1 acc.2 k, dPutX acc.1 acc.2 k vd), ws, ea7, (e.trans e37.un).over hD, r7.writeK hv7 ⟨_, hD7⟩, (lw.ext e37).mono (leans_writeK hv7 ⟨_, hD7⟩), by rw [upd_same, ew], dPut_len hka, ?_, ?_, o2⟩
        · have := ra.length
          rw [sizeLine_eq, List.length_zip]; omega
        · exact RepAll.mono (leans_writeK hv7 ⟨_, hD7⟩) _ rws
        · exact Nat.le_trans (dPutK_len _ _ _) (Nat.succ_le_succ hacc)
  · rintro H2 ⟨ψ, μ2, acc, vacc, ea, e, r, lw, hDa, hka, ra, hacc, o2⟩
    have hu : ∀ b, φ1.av b → ψ.av b := fun b q => by rw [ea]; exact hav b q
    rw [List.drop_length] at o2
    have eψ : (ψ.un φ1.av).hide D = ψ := by
      have e0 : ψ = ⟨ψ.pl, ψ.av⟩ := rfl
      rw [e0, ea]
    refine o2 (ψ.un φ1.av) H2 e (r.un hu) D vacc ⟨?_, hno.2⟩ hD0 hDa hka (by rw [eψ]; exact ra) (by rw [eψ]; exact r)
    exact (r.av D (by rw [ea]; exact .inr rfl)).1
theorem se_dc {kx vx tg iter : Expr} {ifs : List Expr} {scope : Scope} {own : List (Str × Nat)} {pos : Pos} {q : EA} {g : EG} {tt : EB} {tk tv : EE} (hc : X.calm = true) (hN : X.N.Nodup) (hi : PI X tg iter (liftI X.K W q)) (ok : BlkOk X.N X.env.scope scope own)
    (hg : ∀ (s : Shared) (H : Hp) (C : Addr) (cl : List (Str × Addr)) (fp : List Addr), PG (X.blk s H scope (compEnvC scope cl C X.env) fp) tg (liftG X.K (own.map (·.2)) g))
    (ht : ∀ (s : Shared) (H : Hp) (C : Addr) (cl : List (Str × Addr)) (fp : List Addr), PTs (X.blk s H scope (compEnvC scope cl C X.env) fp) ifs (liftB X.K W0 tt))
    (hk : ∀ (s : Shared) (H : Hp) (C : Addr) (cl : List (Str × Addr)) (fp : List Addr), PE (X.blk s H scope (compEnvC scope cl C X.env) fp) kx (lift X.K W0 tk))
    (he : ∀ (s : Shared) (H : Hp) (C : Addr) (cl : List (Str × Addr)) (fp : List Addr), PE (X.blk s H scope (compEnvC scope cl C X.env) fp) vx (lift X.K W0 tv)) (hs : ∀ x, foldedSetIterable iter X.env x = pure x := by intro _; rfl) :
    PE X (.DictComp kx vx [⟨tg, iter, ifs, 0⟩] scope pos) (lift X.K W (E.dc q (own.map (·.2)) g tt tk tv)) := by
  refine ⟨fun pins s σ H Qr I ⟨φ, ρ, μ, hl, hm, o⟩ => ?_⟩
  refine thn ((pe_dc hc hN hi ok hg ht hk he hs).run pins s σ H (fun v H' => ∃ (D : Addr) (ks : List Key) (xs : List Dp.D) (us : List V) (φ' : Pl) (μ' : Mem), v = .ref D ∧ H' D = some (.dK (ks.zip us)) ∧ φ'.out D ∧ H D = none ∧ ks.length = xs.length ∧ RepAll X.K (φ'.hide D) H' us xs ∧ Rel X.K (φ'.hide D) H' μ' ∧ Rel X.K φ' H' μ' ∧ Ext φ H φ' H' ∧ OutG X.K W σ φ' H' (fun _ _ _ _ => True) (.ok () μ' : Res Unit) ∧
      (∀ φ2 H2, Ext φ H φ2 H2 → Rel X.K φ2 H2 μ' → ∀ v, Rep X.K φ2 H2 v (.dct ks xs) → Qr v H2)) I (dc_outH hl hm ?_)) ?_
  · unfold E.dc at o
    cases hq : q ρ μ with
    | bad => rw [hq] at o; exact o
    | err x μ1 => rw [hq] at o; exact o
    | ok ds μ1 =>
      rw [hq] at o
      show OutG X.K W σ φ H _ (if ds.length ≤ 16777215 then Q.dcLoop g tt tk tv (wipeL ρ (own.map (·.2))) ds ([], []) μ1 else .bad)
      have o : OutG X.K W σ φ H (GV X.K Qr) (if ds.length ≤ 16777215 then (Q.dcLoop g tt tk tv (wipeL ρ (own.map (·.2))) ds ([], []) μ1).bind fun kx μ => .ok (.dct kx.1 kx.2) μ else .bad) := o
      by_cases hz : ds.length ≤ 16777215
      · rw [if_pos hz] at o ⊢
        cases hd : Q.dcLoop g tt tk tv (wipeL ρ (own.map (·.2))) ds ([], []) μ1 with
        | bad => rw [hd] at o; exact o
        | err x μ2 => rw [hd] at o; exact o
        | ok kx μ2 =>
          rw [hd] at o
          intro φ' H' e r D us h1 h0 h2 h3 h4 h5
          exact ⟨D, kx.1, kx.2, us, φ', μ2, rfl, h2, h1, h0, h3, h4, h5, r, e, fun _ _ _ _ => trivial, fun φ2 H2 e2 r2 v rv => o φ2 H2 e2 r2 v rv⟩
      · rw [if_neg hz] at o; exact o.elim
  · rintro u s1 ⟨v, H1, I1, ru, D, ks, xs, us, φ', μ', rfl, hD, hout, h0, hlen, ra, rh, r, e, _, fin⟩
    obtain ⟨od, J⟩ := I1.lock hD True.intro
    have hv : (φ'.hide D).av D := Or.inr rfl
    have l1 : Leans X.K (φ'.hide D) H1 (φ'.hide D) (upd H1 D (.frz od (.dK (ks.zip us)))) := leans_writeK hv ⟨_, hD⟩
    have l2 : Leans X.K (φ'.hide D) (upd H1 D (.frz od (.dK (ks.zip us)))) φ' (upd H1 D (.frz od (.dK (ks.zip us)))) := leans_un (ψ := φ'.hide D) (av := φ'.av) fun b q => .inl q
    have rw1 : Rel X.K φ' (upd H1 D (.frz od (.dK (ks.zip us)))) μ' := Rel.un (ψ := φ'.hide D) (av := φ'.av) (fun b q => .inl q) (rh.writeK hv ⟨_, hD⟩)
    refine ⟨.ref D, _, J, ru, fin φ' _ (e.over h0) rw1 _ (rep_dct upd_same hlen (RepAll.mono l2 _ (RepAll.mono l1 _ ra)))⟩
end
end Dp
namespace Dp
open PySem PySem.Spec PyProof.Rows L2
/-- i += e, whole numbers -/
def S.augI (i : Nat) (e : EE) : ES := fun ρ μ => match ρ[i]? with
  | some (some (.int a)) => S.asg (fun ρ μ => (e ρ μ).bind fun d μ => match d with
    | .int b => .ok (.int (a + b)) μ
    | _ => .bad) (G.name i) ρ μ
  | _ => none
section
variable {X : Cx} {W : WX} {pos : Pos}
theorem ps_augI {i : Nat} {x : Str} {e : Expr} {m : EE} {pos' : Pos} (hN : X.N.Nodup) (hi : X.N[i]? = some x) (hx : L2.Loc X.env.scope x) (he : PE X e (lift X.K W m)) (hf : X.fn x = true ∨ X.env.scope.names.lookup x = some .local := by first | exact .inl rfl | exact .inr rfl | assumption) :
    PS X (.AugAssign (.Name x pos') .Add e pos) (liftS X.K W (S.augI i m)) :=
  ps_anti (ps_aug hN hi hx he ip_add hf) fun De σ H ⟨φ, ρ, μ, hl, hm, o⟩ => by
    unfold S.augI at o
    split at o
    · rename_i a ha
      obtain ⟨v, e1, rv⟩ := hl.at_ i _ ha
      refine ⟨v, e1, φ, ρ, μ, hl, hm, ?_⟩
      refine (OutG.bind (asg_out (vs := [i]) hl o)).imp fun d μ1 φ1 H1 e1 m1 o1 w rw' => ?_
      cases d with
      | int b =>
        cases rep_int rv
        cases rep_int rw'
        refine ⟨a, b, rfl, rfl, ?_⟩
        have o2 := o1 φ1 H1 Ext.refl m1
        exact name_out (by simp) (o2 _ rep_of_int)
      | _ => exact o1.elim
    · exact o.elim
end
end Dp

/-! dict comprehensions of two clauses; dict comprehensions that a name takes -/
namespace L2
open PySem PySem.Spec PyProof.Rows
theorem dcompTurn2_out (kx vx t0 i0 t1 i1 : Expr) (ifs0 ifs1 : List Expr) (scope : Scope) (pos : Pos) (it : Value) (D : Addr) (env : Env) :
    compTurn (.DictComp kx vx [⟨t0, i0, ifs0, 0⟩, ⟨t1, i1, ifs1, 0⟩] scope pos) 0 it (.ref D) env = (do
      standAt i0.pos
      match ← pyNext it with
      | none => pure (.done .next)
      | some v =>
        letOwnedTupleGo t0 it v
        assign t0 env v
        let mut ok := true
        for c in ifs0 do
          if ok then ok ← isTrue c env (eval c env)
        if ok then
          let x ← eval i1 env
          standAt i1.pos
          let x ← foldedSetIterable i1 env x
          let _ ← runOwn (.compStart (.DictComp kx vx [⟨t0, i0, ifs0, 0⟩, ⟨t1, i1, ifs1, 0⟩] scope pos) 1 (← holding [x] (pyIter x)) (.ref D) env) env
        again (.compLoop (.DictComp kx vx [⟨t0, i0, ifs0, 0⟩, ⟨t1, i1, ifs1, 0⟩] scope pos) 0 it (.ref D) env)) := by rfl
theorem dcompTurn2_in (kx vx t0 i0 t1 i1 : Expr) (ifs0 ifs1 : List Expr) (scope : Scope) (pos : Pos) (it : Value) (D : Addr) (env : Env) :
    compTurn (.DictComp kx vx [⟨t0, i0, ifs0, 0⟩, ⟨t1, i1, ifs1, 0⟩] scope pos) 1 it (.ref D) env = (do
      standAt i1.pos
      match ← pyNext it with
      | none => pure (.done .next)
      | some v =>
        letOwnedTupleGo t1 it v
        assign t1 env v
        let mut ok := true
        for c in ifs1 do
          if ok then ok ← isTrue c env (eval c env)
        if ok then
          (do
            let kv ← eval kx env
            let vv ← holding [kv] (eval vx env)
            standAt { kx.pos with endLine := vx.pos.endLine, endCol := vx.pos.endCol }
            holding [kv, vv] (dictSet D kv vv))
        again (.compLoop (.DictComp kx vx [⟨t0, i0, ifs0, 0⟩, ⟨t1, i1, ifs1, 0⟩] scope pos) 1 it (.ref D) env)) := by rfl

section
variable {prog : Program} {w : World} {A : Around} {R : Result → Shared → Prop} {s : Shared} {kx vx t0 i0 t1 i1 : Expr} {ifs0 ifs1 : List Expr} {scope : Scope} {pos : Pos} {it : Value} {D : Addr} {env : Env}
/-- the loop of the first clause -/
theorem dcompLoop2_out (hs : ∀ x, foldedSetIterable i1 env x = pure x) (I : Nat → Shared → Prop)
    (turn : ∀ n s, I n s → wpAny (model prog w) A (pyNext it) (fun r s₁ => match r with
      | none => R (.ok .next) s₁
      | some v => wpAny (model prog w) A (letOwnedTupleGo t0 it v) (fun _ s₁' => wpAny (model prog w) A (assign t0 env v) (fun _ s₂ =>
          wpAny (model prog w) A (forIn ifs0 true fun c r => if r = true then do let ok ← isTrue c env (eval c env); pure (ForInStep.yield ok) else pure (ForInStep.yield r)) (fun ok s₃ =>
            if ok = true then wpAny (model prog w) A (eval i1 env) (fun x s₄ => wpAny (model prog w) A (pyIter x) (fun it1 s₅ =>
              codeAny (model prog w) A (.compStart (.DictComp kx vx [⟨t0, i0, ifs0, 0⟩, ⟨t1, i1, ifs1, 0⟩] scope pos) 1 it1 (.ref D) env) (fun r s' => match r with
                | .ok _ => ∃ m, m < n ∧ I m s'
                | .error _ => False) s₅) (notedBy (model prog w) A env fun e s' => R (.error e) s') s₄) (notedBy (model prog w) A env fun e s' => R (.error e) s') s₃
            else ∃ m, m < n ∧ I m s₃) (notedBy (model prog w) A env fun e s' => R (.error e) s') s₂) (notedBy (model prog w) A env fun e s' => R (.error e) s') s₁') (notedBy (model prog w) A env fun e s' => R (.error e) s') s₁) (notedBy (model prog w) A env fun e s' => R (.error e) s') s)
    (n : Nat) (h : I n s) :
    codeAny (model prog w) A (.compLoop (.DictComp kx vx [⟨t0, i0, ifs0, 0⟩, ⟨t1, i1, ifs1, 0⟩] scope pos) 0 it (.ref D) env) R s := by
  refine codeAny_loop rfl I (fun n s hI => ?_) n h
  show wpAny _ A ((compTurn (.DictComp kx vx [⟨t0, i0, ifs0, 0⟩, ⟨t1, i1, ifs1, 0⟩] scope pos) 0 it (.ref D) env).onRaise (fun x => do noteFrame x env; theTreesLotGoes x)) _ _ s
  refine wpAny_noted ?_
  rw [dcompTurn2_out]
  refine wpAny_bind (wpAny_standAt (wpAny_bind (wpAny_mono (turn n s hI) (fun r s₁ h₁ => ?_) fun _ _ h' => h')))
  cases r with
  | none => exact wpAny_pure h₁
  | some v =>
    refine wpAny_bind (wpAny_mono h₁ (fun _ s₁' h₁' => ?_) fun _ _ h' => h')
    refine wpAny_bind (wpAny_mono h₁' (fun _ s₂ h₂ => wpAny_bind (wpAny_mono h₂ (fun ok s₃ h₃ => ?_) fun _ _ h' => h')) fun _ _ h' => h')
    cases ok with
    | false => exact wpAny_pure ⟨rfl, h₃⟩
    | true =>
      refine wpAny_bind (wpAny_mono h₃ (fun x s₄ h₄ => ?_) fun _ _ h' => h')
      refine wpAny_bind (wpAny_standAt (wpAny_bind (wpAny_of_eq (hs x) (wpAny_bind (wpAny_holding (wpAny_mono h₄ (fun it1 s₅ h₅ => ?_) fun _ _ h' => h'))))))
      refine wpAny_bind (wpAny_runOwn ?_)
      rw [Around.mark_none]
      refine codeAny_mono h₅ fun r s' hr => ?_
      cases r with
      | ok f =>
        first
          | exact wpAny_pure ⟨rfl, hr⟩
          | exact wpAny_bind (wpAny_pure (wpAny_pure ⟨rfl, hr⟩))
      | error e => exact hr.elim
/-- the loop of the second -/
theorem dcompLoop2_in (I : Nat → Shared → Prop)
    (turn : ∀ n s, I n s → wpAny (model prog w) A (pyNext it) (fun r s₁ => match r with
      | none => R (.ok .next) s₁
      | some v => wpAny (model prog w) A (letOwnedTupleGo t1 it v) (fun _ s₁' => wpAny (model prog w) A (assign t1 env v) (fun _ s₂ =>
          wpAny (model prog w) A (forIn ifs1 true fun c r => if r = true then do let ok ← isTrue c env (eval c env); pure (ForInStep.yield ok) else pure (ForInStep.yield r)) (fun ok s₃ =>
            if ok = true then wpAny (model prog w) A (eval kx env) (fun kv s₄ => wpAny (model prog w) A (eval vx env) (fun vv s₅ =>
              wpAny (model prog w) A (dictSet D kv vv) (fun _ s₆ => ∃ m, m < n ∧ I m s₆) (notedBy (model prog w) A env fun e s' => R (.error e) s') s₅) (notedBy (model prog w) A env fun e s' => R (.error e) s') s₄) (notedBy (model prog w) A env fun e s' => R (.error e) s') s₃
            else ∃ m, m < n ∧ I m s₃) (notedBy (model prog w) A env fun e s' => R (.error e) s') s₂) (notedBy (model prog w) A env fun e s' => R (.error e) s') s₁') (notedBy (model prog w) A env fun e s' => R (.error e) s') s₁) (notedBy (model prog w) A env fun e s' => R (.error e) s') s)
    (n : Nat) (h : I n s) :
    codeAny (model prog w) A (.compLoop (.DictComp kx vx [⟨t0, i0, ifs0, 0⟩, ⟨t1, i1, ifs1, 0⟩] scope pos) 1 it (.ref D) env) R s := by
  refine codeAny_loop rfl I (fun n s hI => ?_) n h
  show wpAny _ A ((compTurn (.DictComp kx vx [⟨t0, i0, ifs0, 0⟩, ⟨t1, i1, ifs1, 0⟩] scope pos) 1 it (.ref D) env).onRaise (fun x => do noteFrame x env; theTreesLotGoes x)) _ _ s
  refine wpAny_noted ?_
  rw [dcompTurn2_in]
  refine wpAny_bind (wpAny_standAt (wpAny_bind (wpAny_mono (turn n s hI) (fun r s₁ h₁ => ?_) fun _ _ h' => h')))
  cases r with
  | none => exact wpAny_pure h₁
  | some v =>
    refine wpAny_bind (wpAny_mono h₁ (fun _ s₁' h₁' => ?_) fun _ _ h' => h')
    refine wpAny_bind (wpAny_mono h₁' (fun _ s₂ h₂ => wpAny_bind (wpAny_mono h₂ (fun ok s₃ h₃ => ?_) fun _ _ h' => h')) fun _ _ h' => h')
    cases ok with
    | false => exact wpAny_pure ⟨rfl, h₃⟩
    | true =>
      exact wpAny_bind (wpAny_bind (wpAny_mono h₃ (fun kv s₄ h₄ => wpAny_bind (wpAny_holding (wpAny_mono h₄ (fun vv s₅ h₅ => wpAny_bind (wpAny_standAt (wpAny_holding (wpAny_mono h₅ (fun _ s₆ h₆ => wpAny_pure ⟨rfl, h₆⟩) fun _ _ h' => h')))) fun _ _ h' => h'))) fun _ _ h' => h'))
/-- the second clause's start -/
theorem dcompStart1_ok (h0 : codeAny (model prog w) A (.compLoop (.DictComp kx vx [⟨t0, i0, ifs0, 0⟩, ⟨t1, i1, ifs1, 0⟩] scope pos) 1 it (.ref D) env) R s)
    (h : wpAny (model prog w) A (pyIter it) (fun it' s' => codeAny (model prog w) A (.compLoop (.DictComp kx vx [⟨t0, i0, ifs0, 0⟩, ⟨t1, i1, ifs1, 0⟩] scope pos) 1 it' (.ref D) env) R s')
      (notedBy (model prog w) A env fun x s' => R (.error x) s') s) :
    codeAny (model prog w) A (.compStart (.DictComp kx vx [⟨t0, i0, ifs0, 0⟩, ⟨t1, i1, ifs1, 0⟩] scope pos) 1 it (.ref D) env) R s := by
  refine codeAny_of_tree ?_
  show wpAny _ _ ((compStart (.DictComp kx vx [⟨t0, i0, ifs0, 0⟩, ⟨t1, i1, ifs1, 0⟩] scope pos) 1 it (.ref D) env).onRaise (fun x => do noteFrame x env; standAt theWindowsPlace)) _ _ s
  refine wpAny_notedAt ?_
  unfold compStart
  show wpAny _ _ (ask >>= _) _ _ s
  refine wpAny_bind (wpAny_askSetting (wpAny_ite ?_))
  split
  · first
      | exact wpAny_bind (wpAny_pure (wpAny_pure (And.intro rfl h0)))
      | exact wpAny_pure (And.intro rfl h0)
  · first
      | exact wpAny_bind (wpAny_rule (wpAny_bind (wpAny_standAt (wpAny_bind (wpAny_mono h (fun it' s' h' => wpAny_pure (And.intro rfl h')) fun _ _ x => x)))))
      | (refine wpAny_bind (wpAny_rule ?_); show wpAny _ _ (standAt i1.pos >>= _) _ _ s; exact wpAny_bind (wpAny_standAt (wpAny_bind (wpAny_mono h (fun it' s' h' => wpAny_pure (And.intro rfl h')) fun _ _ x => x))))
end

section
variable {X : Cx}
/-- {k: v for tg in iter if .. for tg1 in iter1 if ..}: behind the first clause's store and tests the second source's own loop, from which Nx is reached. vs: the block's names; vs1: those of the second target -/
def tDc2 (wi : TI) (g : TG) (tt : TT) (wi1 : TI) (g1 : TG) (tt1 : TT) (tk tv : TE) (vs vs1 : List Nat) : TE := fun σ H Q => wi σ H fun J H1 => ∀ D, H1 D = none → ∃ W : Nat → Nat → Hp → Prop, (∃ m, W 0 m (upd H1 D (.dK []))) ∧ ∀ i m H, W i m H →
  (J.stop i H ∧ Q (.ref D) H) ∨ (J.go i H ∧ ∃ Nx : Hp → Prop, (∀ H', Nx H' → ∃ m', m' < m ∧ W (i + 1) m' H') ∧ ∀ x H', J.yld i H x H' → g x (wipe σ vs) H' fun σ2 H2 => wipe σ2 vs = wipe σ vs ∧ tt σ2 H2 fun b H3 =>
    if b = true then wi1 σ2 H3 fun J1 H4 => ∃ W1 : Nat → Nat → Hp → Prop, (∃ m, W1 0 m H4) ∧ ∀ j k H, W1 j k H →
      (J1.stop j H ∧ Nx H) ∨ (J1.go j H ∧ ∃ Nx1 : Hp → Prop, (∀ H', Nx1 H' → ∃ k', k' < k ∧ W1 (j + 1) k' H') ∧ ∀ x H', J1.yld j H x H' → g1 x (wipe σ2 vs1) H' fun σ3 H5 => wipe σ3 vs1 = wipe σ2 vs1 ∧ tt1 σ3 H5 fun b H6 =>
        if b = true then tk σ3 H6 fun y H7 => tv σ3 H7 fun z H8 => ∃ kvs k, y = kV k ∧ H8 D = some (.dK kvs) ∧ kvs.length < sizeLine ∧ Nx1 (upd H8 D (.dK (putK kvs k z))) else Nx1 H6)
    else Nx H3)
theorem dc2_core {pins : List (Addr × Obj)} {s : Shared} {σ : St} {H : Hp} {Q : VK} {kx vx tg iter tg1 iter1 : Expr} {ifs ifs1 : List Expr} {scope : Scope} {own : List (Str × Nat)} {vs1 : List Nat} {pos pos' : Pos} {wi wi1 : TI} {g g1 : TG} {tt tt1 : TT} {tk tv : TE} {use : Option (Value → Sem Unit)} {Qf : Value → Shared → Prop}
    (hc : X.calm = true) (hN : X.N.Nodup) (I : Inv X pins σ H s) (hi : PI X tg iter wi) (ok : BlkOk X.N X.env.scope scope own) (hv : ∀ i ∈ vs1, i ∈ own.map (·.2))
    (hg : ∀ (s : Shared) (H : Hp) (C : Addr) (cl : List (Str × Addr)) (fp : List Addr), PG (X.blk s H scope (compEnvC scope cl C X.env) fp) tg g) (ht : ∀ (s : Shared) (H : Hp) (C : Addr) (cl : List (Str × Addr)) (fp : List Addr), PTs (X.blk s H scope (compEnvC scope cl C X.env) fp) ifs tt)
    (hk : ∀ (s : Shared) (H : Hp) (C : Addr) (cl : List (Str × Addr)) (fp : List Addr), PE (X.blk s H scope (compEnvC scope cl C X.env) fp) kx tk)
    (he : ∀ (s : Shared) (H : Hp) (C : Addr) (cl : List (Str × Addr)) (fp : List Addr), PE (X.blk s H scope (compEnvC scope cl C X.env) fp) vx tv) (hs : ∀ x, foldedSetIterable iter X.env x = pure x)
    (hi1 : ∀ (s : Shared) (H : Hp) (C : Addr) (cl : List (Str × Addr)) (fp : List Addr), PI (X.blk s H scope (compEnvC scope cl C X.env) fp) tg1 iter1 wi1)
    (hg1 : ∀ (s : Shared) (H : Hp) (C : Addr) (cl : List (Str × Addr)) (fp : List Addr), PG (X.blk s H scope (compEnvC scope cl C X.env) fp) tg1 g1)
    (ht1 : ∀ (s : Shared) (H : Hp) (C : Addr) (cl : List (Str × Addr)) (fp : List Addr), PTs (X.blk s H scope (compEnvC scope cl C X.env) fp) ifs1 tt1)
    (hs1 : ∀ env x, foldedSetIterable iter1 env x = pure x)
    (h : tDc2 wi g tt wi1 g1 tt1 tk tv (own.map (·.2)) vs1 σ H Q)
    (hRR : ∀ D C s' m H', Inv X pins σ H' s' → Q (.ref D) H' → s'.heap.Ns C m → FpOk X pins H' C → compPost (model X.prog X.w) X.A X.xe use Qf (.ref D) C (.ok .next) s') :
    wpAny (model X.prog X.w) X.A (comprehension (.DictComp kx vx [⟨tg, iter, ifs, 0⟩, ⟨tg1, iter1, ifs1, 0⟩] scope pos) scope X.env pos' newDict false (eval iter X.env) use) Qf X.xe s := by
  have hfree : ∀ y ∈ scope.names, y.2 = .free → ∃ c, X.env.cells.lookup y.1 = some c := fun y hy e => by
    rcases ok.free y hy e with k | k
    · exact I.ok.has _ (.inl k)
    · exact I.ok.has _ (.inr k)
  refine wpAny_comprehension_free (use := use) rfl hs (closure_ok hfree) ok.kind (fun y hy e => by rw [ok.uniq y hy, e])
    (thn (hi.run pins s σ H _ I h) fun xv s1 hx => thn hx fun itv s2 h2 => ?_)
  obtain ⟨it, fp, tn, J, H2, e, I2, T, st2, f2, q⟩ := h2
  subst e
  refine wpAny_newObj_type (newEnv_comp ?_)
  generalize hD : s2.heap.objs.size = D
  have hDn : H2 D = none := I2.hok.fresh (Nat.le_of_eq hD)
  obtain ⟨W, ⟨m0, w0⟩, turn⟩ := q D hDn
  -- the new list
  generalize hs3 : ({ s2 with heap := s2.heap.push { cls := .type "dict", data := .dict #[] } } : Shared) = s3
  have I3 : Inv X pins σ (upd H2 D (.dK [])) s3 := by
    rw [← hs3]
    refine I2.laid (t' := s2.toks) (fun b o e => Heap.get?_push_of_some _ e) (Nat.le_of_eq hD) ?_
    rw [← hD]
    exact dk_empty s2.heap I2.big
  have h3 : s3.heap = s2.heap.push { cls := .type "dict", data := .dict #[] } := by rw [← hs3]
  have sz : ∀ b ∈ fp, b < s2.heap.objs.size := fun b hb => by
    obtain ⟨o, e, _⟩ := T.obj _ _ st2 b hb
    exact Heap.lt_size e
  have f3 : ∀ b ∈ fp, FpOk X pins (upd H2 D (.dK [])) b ∧ b < s3.heap.objs.size := fun b hb => by
    have hlt := sz b hb
    refine ⟨⟨?_, (f2 b hb).2⟩, by rw [h3, Heap.size_push]; exact Nat.lt_succ_of_lt hlt⟩
    rw [upd_ne (by rw [← hD]; exact Nat.ne_of_lt hlt)]
    exact (f2 b hb).1
  have st3 : tn 0 s3.heap := T.keep _ _ _ st2 fun b _ o e => by rw [h3]; exact Heap.get?_push_of_some _ e
  have I4 := block_start I3 ok hN f3
  have pg := hg s3 (upd H2 D (.dK [])) s3.heap.objs.size (cellsFrom (s3.heap.objs.size + 1) scope.names (cloFrom X.env.cells scope.names [])) fp
  have pt := ht s3 (upd H2 D (.dK [])) s3.heap.objs.size (cellsFrom (s3.heap.objs.size + 1) scope.names (cloFrom X.env.cells scope.names [])) fp
  have pk := hk s3 (upd H2 D (.dK [])) s3.heap.objs.size (cellsFrom (s3.heap.objs.size + 1) scope.names (cloFrom X.env.cells scope.names [])) fp
  have pe := he s3 (upd H2 D (.dK [])) s3.heap.objs.size (cellsFrom (s3.heap.objs.size + 1) scope.names (cloFrom X.env.cells scope.names [])) fp
  have pi1 := hi1 s3 (upd H2 D (.dK [])) s3.heap.objs.size (cellsFrom (s3.heap.objs.size + 1) scope.names (cloFrom X.env.cells scope.names [])) fp
  have pg1 := hg1 s3 (upd H2 D (.dK [])) s3.heap.objs.size (cellsFrom (s3.heap.objs.size + 1) scope.names (cloFrom X.env.cells scope.names [])) fp
  have pt1 := ht1 s3 (upd H2 D (.dK [])) s3.heap.objs.size (cellsFrom (s3.heap.objs.size + 1) scope.names (cloFrom X.env.cells scope.names [])) fp
  show codeAny _ _ (.compStart (.DictComp kx vx [⟨tg, iter, ifs, 0⟩, ⟨tg1, iter1, ifs1, 0⟩] scope pos) 0 (.ref it) (.ref D) (compEnvC scope (cellsFrom (s3.heap.objs.size + 1) scope.names (cloFrom X.env.cells scope.names [])) s3.heap.objs.size X.env)) (compPost (model X.prog X.w) X.A X.xe use Qf (.ref D) s3.heap.objs.size) { s3 with heap := pushCells (s3.heap.push { cls := .type "dict", data := .dict #[] }) scope.names }
  have nfp : ∀ b ∈ fp, (upd H2 D (.dK [])) b = none := fun b hb => (f3 b hb).1.1
  generalize hce : compEnvC scope (cellsFrom (s3.heap.objs.size + 1) scope.names (cloFrom X.env.cells scope.names [])) s3.heap.objs.size X.env = ce at I4 pg pt pk pe pi1 pg1 pt1 ⊢
  have cL : ce.locals = s3.heap.objs.size := by subst hce; rfl
  generalize hH3 : upd H2 D (.dK []) = H3 at I3 I4 pg pt pk pe pi1 pg1 pt1 w0 nfp f3
  generalize hs4 : ({ s3 with heap := pushCells (s3.heap.push { cls := .type "dict", data := .dict #[] }) scope.names } : Shared) = s4 at I4 ⊢
  have st4 : tn 0 s4.heap := T.keep _ _ _ st3 fun b _ o e => by rw [← hs4]; exact pushCells_keeps _ _ _ _ (Heap.get?_push_of_some _ e)
  have stat : ∀ {σ' : St} {H' : Hp} {s' : Shared}, Inv (X.blk s3 H3 scope ce fp) [] σ' H' s' → (∀ b ∈ fp, H' b = none) → ∀ b ∈ fp, FpOk (X.blk s3 H3 scope ce fp) [] H' b := fun {σ' H' s'} I' hn b hb =>
    ⟨hn b hb, (I'.ok.exf b hb).1, I'.ok.exfs b hb, .inl hb, fun x c e => (I'.ok.exf b hb).2 x c e, fun p hp => absurd (show p ∈ ([] : List (Addr × Obj)) ++ [] from hp) (by simp)⟩
  have loop : codeAny (model X.prog X.w) X.A (.compLoop (.DictComp kx vx [⟨tg, iter, ifs, 0⟩, ⟨tg1, iter1, ifs1, 0⟩] scope pos) 0 (.ref it) (.ref D) ce) (compPost (model X.prog X.w) X.A X.xe use Qf (.ref D) s3.heap.objs.size) s4 := by
    refine dcompLoop2_out (hs1 ce) (fun n s' => ∃ i H', Inv (X.blk s3 H3 scope ce fp) [] (wipe σ (own.map (·.2))) H' s' ∧ tn i s'.heap ∧ (∀ b ∈ fp, H' b = none) ∧ W i n H') ?_ m0 ⟨0, H3, I4, st4, nfp, w0⟩
    rintro n s5 ⟨i, H5, I5, st5, n5, w5⟩
    rcases turn i n H5 w5 with ⟨stop, qq⟩ | ⟨go, Nx, hNx, step⟩
    · have td := T.done (X.blk s3 H3 scope ce fp) rfl rfl rfl hc i [] s5 _ H5 (fun _ _ => False) I5 (stat I5 n5) st5 stop
      refine thnF td fun r s6 ⟨hr, I6⟩ => ?_
      subst hr
      -- back in the def's context
      have I7 : Inv X pins σ H5 s6 := I3.call' (ch := fp) I6.os I6.base I6.hok I6.bare fun b hb => ⟨(f3 b hb).1.2.2.2.1, (f3 b hb).1.2.1, (f3 b hb).1.2.2.2.2.1, (f3 b hb).1.2.2.2.2.2⟩
      have nC : H5 s3.heap.objs.size = none := by
        have z : H5 ce.locals = none := I6.free
        rw [cL] at z
        exact z
      obtain ⟨m, hn, _⟩ := I6.loc
      have hn : s6.heap.Ns ce.locals m := hn
      rw [cL] at hn
      exact hRR D s3.heap.objs.size s6 m H5 I7 qq hn (I3.fpOk (Nat.le_refl _) nC)
    · have ti := T.item (X.blk s3 H3 scope ce fp) rfl rfl rfl hc i [] s5 _ H5 (fun _ _ => False) I5 (stat I5 n5) st5 go
      refine thnF ti fun r s6 ⟨u, hr, h6⟩ => ?_
      subst hr
      refine thnF h6 fun _ s7 ⟨x, H7, I7, r7, y7, st7, n7⟩ => ?_
      have I7' := I7.pinned (stat I7 n7) (T.obj _ _ st7)
      refine thnF (pg.run _ s7 _ H7 x u _ I7' r7 (step x H7 y7)) fun _ s8 ⟨σ8, H8, I8, hw8, q8⟩ => ?_
      refine thnF (pt.run _ s8 σ8 H8 _ I8 q8) fun b s9 ⟨H9, I9, q9⟩ => ?_
      -- the turn's end, from any slots that know what the block knew at its start
      have fin : ∀ {σ9 : St} {s' : Shared} {H' : Hp}, Inv (X.blk s3 H3 scope ce fp) ([] ++ pinsAt fp s7.heap) σ9 H' s' → (wipe σ (own.map (·.2))).length = σ9.length → (∀ (j : Nat) v, (wipe σ (own.map (·.2)))[j]? = some (some v) → σ9[j]? = some (some v)) → Nx H' →
          ∃ m, m < n ∧ ∃ i H', Inv (X.blk s3 H3 scope ce fp) [] (wipe σ (own.map (·.2))) H' s' ∧ tn i s'.heap ∧ (∀ b ∈ fp, H' b = none) ∧ W i m H' := fun {σ9 s' H'} I' hl hk nx => by
        obtain ⟨m', hm, w'⟩ := hNx H' nx
        have pin' : ∀ b ∈ fp, ∀ o, s7.heap.get? b = some o → s'.heap.get? b = some o ∧ H' b = none := fun b hb o e =>
          let z := I'.pin (b, o) (List.mem_append_right _ (List.mem_append_right _ (mem_pinsAt hb e)))
          ⟨z.1, z.2.1⟩
        refine ⟨m', hm, i + 1, H', (I'.unpinned (pins := [])).weak hl hk, T.keep _ _ _ st7 fun b hb o e => (pin' b hb o e).1, fun b hb => ?_, w'⟩
        obtain ⟨o, e, _⟩ := T.obj _ _ st7 b hb
        exact (pin' b hb o e).2
      have hl8 : (wipe σ (own.map (·.2))).length = σ8.length := by rw [← hw8, wipe_length]
      have hk8 : ∀ (j : Nat) v, (wipe σ (own.map (·.2)))[j]? = some (some v) → σ8[j]? = some (some v) := fun j v e => by
        rw [← hw8] at e
        exact (wipe_some e).1
      have hk9 : ∀ (j : Nat) v, (wipe σ (own.map (·.2)))[j]? = some (some v) → (wipe σ8 vs1)[j]? = some (some v) := fun j v e => by
        rw [← hw8] at e
        obtain ⟨e1, e2⟩ := wipe_some e
        rw [wipe_out fun z => e2 (hv j z)]
        exact e1
      cases b with
      | false =>
        simp only [Bool.false_eq_true, if_false] at q9 ⊢
        exact fin I9 hl8 hk8 q9
      | true =>
        simp only [if_true] at q9 ⊢
        refine thnF (pi1.run _ s9 σ8 H9 _ I9 q9) fun xv s10 hx => thnF hx fun itv s11 h11 => ?_
        obtain ⟨it1, fp1, tn1, J1, H11, e1, I11, T1, st11, f11, W1, ⟨m1, w1⟩, turn1⟩ := h11
        subst e1
        -- the inner loop
        have stat1 : ∀ {H' : Hp}, (∀ b ∈ fp1, H' b = none) → ∀ b ∈ fp1, FpOk (X.blk s3 H3 scope ce fp) ([] ++ pinsAt fp s7.heap) H' b := fun hn b hb => ⟨hn b hb, (f11 b hb).2⟩
        have loop1 : codeAny (model X.prog X.w) X.A (.compLoop (.DictComp kx vx [⟨tg, iter, ifs, 0⟩, ⟨tg1, iter1, ifs1, 0⟩] scope pos) 1 (.ref it1) (.ref D) ce)
            (fun r s' => match r with
              | .ok _ => ∃ m, m < n ∧ ∃ i H', Inv (X.blk s3 H3 scope ce fp) [] (wipe σ (own.map (·.2))) H' s' ∧ tn i s'.heap ∧ (∀ b ∈ fp, H' b = none) ∧ W i m H'
              | .error _ => False) s11 := by
          refine dcompLoop2_in (fun k s' => ∃ j H', Inv (X.blk s3 H3 scope ce fp) ([] ++ pinsAt fp s7.heap) (wipe σ8 vs1) H' s' ∧ tn1 j s'.heap ∧ (∀ b ∈ fp1, H' b = none) ∧ W1 j k H') ?_ m1 ⟨0, H11, I11.weak (wipe_length _ _) (fun j v e => (wipe_some e).1), st11, fun b hb => (f11 b hb).1, w1⟩
          rintro k s12 ⟨j, H12, I12, st12, n12, w12⟩
          rcases turn1 j k H12 w12 with ⟨stop1, nx1⟩ | ⟨go1, Nx1, hNx1, step1⟩
          · refine thnF (T1.done (X.blk s3 H3 scope ce fp) rfl rfl rfl hc j _ s12 (wipe σ8 vs1) H12 (fun _ _ => False) I12 (stat1 n12) st12 stop1) fun r s13 ⟨hr, I13⟩ => ?_
            subst hr
            exact fin I13 (hl8.trans (wipe_length σ8 vs1).symm) hk9 nx1
          · refine thnF (T1.item (X.blk s3 H3 scope ce fp) rfl rfl rfl hc j _ s12 (wipe σ8 vs1) H12 (fun _ _ => False) I12 (stat1 n12) st12 go1) fun r s13 ⟨u1, hr, h13⟩ => ?_
            subst hr
            refine thnF h13 fun _ s14 ⟨x1, H14, I14, r14, y14, st14, n14⟩ => ?_
            have I14' := I14.pinned (stat1 n14) (T1.obj _ _ st14)
            refine thnF (pg1.run _ s14 (wipe σ8 vs1) H14 x1 u1 _ I14' r14 (step1 x1 H14 y14)) fun _ s15 ⟨σ15, H15, I15, hw15, q15⟩ => ?_
            refine thnF (pt1.run _ s15 σ15 H15 _ I15 q15) fun b1 s16 ⟨H16, I16, q16⟩ => ?_
            have fin1 : ∀ {s' : Shared} {H' : Hp}, Inv (X.blk s3 H3 scope ce fp) (([] ++ pinsAt fp s7.heap) ++ pinsAt fp1 s14.heap) σ15 H' s' → Nx1 H' → ∃ m, m < k ∧ ∃ j H', Inv (X.blk s3 H3 scope ce fp) ([] ++ pinsAt fp s7.heap) (wipe σ8 vs1) H' s' ∧ tn1 j s'.heap ∧ (∀ b ∈ fp1, H' b = none) ∧ W1 j m H' := fun {s' H'} I' nx => by
              obtain ⟨m', hm, w'⟩ := hNx1 H' nx
              have pin' : ∀ b ∈ fp1, ∀ o, s14.heap.get? b = some o → s'.heap.get? b = some o ∧ H' b = none := fun b hb o e =>
                let z := I'.pin (b, o) (List.mem_append_right _ (List.mem_append_right _ (mem_pinsAt hb e)))
                ⟨z.1, z.2.1⟩
              refine ⟨m', hm, j + 1, H', I'.unpinned.weak (by rw [← hw15, wipe_length]) (fun j v e => by rw [← hw15] at e; exact (wipe_some e).1), T1.keep _ _ _ st14 fun b hb o e => (pin' b hb o e).1, fun b hb => ?_, w'⟩
              obtain ⟨o, e, _⟩ := T1.obj _ _ st14 b hb
              exact (pin' b hb o e).2
            cases b1 with
            | false =>
              simp only [Bool.false_eq_true, if_false] at q16 ⊢
              exact fin1 I16 q16
            | true =>
              simp only [if_true] at q16 ⊢
              refine thnF (pk.run _ s16 σ15 H16 _ I16 q16) fun z s17 ⟨yk, H17, I17, r17, q17⟩ => ?_
              refine thnF (pe.run _ s17 σ15 H17 _ I17 q17) fun z2 s18 ⟨yv, H18, I18, r18, kvs, k, ek, hD18, hz18, nx⟩ => ?_
              subst ek
              exact d_dictSet (X := X.blk s3 H3 scope ce fp) I18 hD18 hz18 r17 r18 fun s19 I19 => fin1 I19 nx
        exact dcompStart1_ok loop1 (T1.self X.A 0 _ _ _ st11 loop1)
  exact codeAny_compStart_dict loop (T.self X.A 0 _ _ _ st4 loop)
end
end L2
namespace L2
open PySem PySem.Spec PyProof.Rows
/-- what a dict comprehension does, whatever takes its dict -/
def DcCore (X : Cx) (kx vx : Expr) (gs : List Comprehension) (scope : Scope) (pos : Pos) (iter : Expr) (t : TE) : Prop :=
  ∀ (pins : List (Addr × Obj)) (s : Shared) (σ : St) (H : Hp) (Q : VK) (pos' : Pos) (use : Option (Value → Sem Unit)) (Qf : Value → Shared → Prop), Inv X pins σ H s → t σ H Q →
    (∀ D C s' m H', Inv X pins σ H' s' → Q (.ref D) H' → s'.heap.Ns C m → FpOk X pins H' C → compPost (model X.prog X.w) X.A X.xe use Qf (.ref D) C (.ok .next) s') →
    wpAny (model X.prog X.w) X.A (comprehension (.DictComp kx vx gs scope pos) scope X.env pos' newDict false (eval iter X.env) use) Qf X.xe s
section
variable {X : Cx}
theorem pe_dcC {kx vx tg iter : Expr} {ifs : List Expr} {gs : List Comprehension} {scope : Scope} {pos : Pos} {t : TE} (c : DcCore X kx vx (⟨tg, iter, ifs, 0⟩ :: gs) scope pos iter t) : PE X (.DictComp kx vx (⟨tg, iter, ifs, 0⟩ :: gs) scope pos) t := by
  refine ⟨fun pins s σ H Q I h => ?_⟩
  rw [arm_eval_DictComp]
  refine c pins s σ H Q _ none _ I h fun D C s' m H' I' q hn f => ⟨m, hn, fun h'' sb => ?_⟩
  obtain ⟨f0, f1, f2, f3, f4, f5⟩ := f
  exact ⟨.ref D, H', I'.turned (t' := s'.toks) (fun b o hb e => (sb.2 b hb).trans e) f0 f1 f3 f4 f5, rfl, q⟩
theorem ps_setDcC {i : Nat} {y : Str} {py : Pos} {kx vx tg iter : Expr} {ifs : List Expr} {gs : List Comprehension} {scope : Scope} {pos spos : Pos} {t : TE} (hN : X.N.Nodup) (hy : X.N[i]? = some y) (hyl : X.env.scope.names.lookup y = some .local)
    (hsw : swapsWith (.DictComp kx vx (⟨tg, iter, ifs, 0⟩ :: gs) scope pos) (some (.Name y py)) spos.line X.env = pure true) (c : DcCore X kx vx (⟨tg, iter, ifs, 0⟩ :: gs) scope pos iter t) :
    PS X (.Assign [.Name y py] (.DictComp kx vx (⟨tg, iter, ifs, 0⟩ :: gs) scope pos) spos) (tAsg t (gName i)) := by
  refine ⟨fun pins s σ H D I h => ?_⟩
  rw [exec_Assign_Name_used _ _ _ _ hsw]
  refine wpAny_bind (wpAny_standAt (wpAny_bind ?_))
  show wpAny _ X.A (do let _ ← comprehension (.DictComp kx vx (⟨tg, iter, ifs, 0⟩ :: gs) scope pos) scope X.env (firstIterPos (⟨tg, iter, ifs, 0⟩ :: gs) pos) newDict false (eval iter X.env) (some (assign (.Name y py) X.env))) _ _ s
  have h : t σ H (fun x H1 => gName i x σ H1 D.nx) := h
  refine wpAny_bind (thn (c pins s σ H _ _ _ (fun _ s' => SP X pins D .next s') I h fun L C s' m H' I' q hn f => ?_) fun _ s' hq => wpAny_pure (wpAny_pure hq))
  show wpAny _ _ (assign (.Name y py) X.env (.ref L)) _ _ _
  refine wpAny_assign_Name (store_ok2 (v := V.ref L) I' hN hy (.inl hyl) rfl (fun s2 I2 ⟨a, sb, ha⟩ => ?_) (.inr hyl))
  obtain ⟨f0, f1, f2, f3, f4, f5⟩ := f
  have haC : C ≠ a := by
    rcases ha with z | z
    · rw [z]; exact f1
    · exact fun e => f4 y a z e.symm
  refine ⟨m, hn.sameBut sb haC, fun h3 sb3 => ?_⟩
  exact ⟨_, H', I2.turned (t' := s2.toks) (fun b o hb e => (sb3.2 b hb).trans e) f0 f1 f3 f4 f5, q⟩
end
end L2
namespace Dp
open PySem PySem.Spec PyProof.Rows L2
/-! ### sources that stay whatever is written besides -/
def ItL (K : PySem.W.Frag) (φ0 : Pl) (H0 : Hp) (J : It) (ds : List D) : Prop :=
  ∃ (Gd : Hp → Prop) (Y : Nat → Hp → V → Hp → Prop), Walk J ds.length Gd Y ∧ (∀ φ H, Leans K φ0 H0 φ H → Gd H) ∧
    (∀ i φ H x H1, i < ds.length → Leans K φ0 H0 φ H → Y i H x H1 → H1 = H ∧ ∃ d, ds[i]? = some d ∧ Rep K φ H x d)
def liftJ (K : PySem.W.Frag) (W : WX) (q : EA) : TI := fun σ H R => ∃ φ ρ μ, RepL K φ H σ ρ ∧ Rel K φ H μ ∧ OutG K W σ φ H (fun ds _ φ' H' => ∀ J, ItL K φ' H' J ds → R J H') (q ρ μ)
section
variable {K : PySem.W.Frag} {φ ψ χ : Pl} {H H' H'' : Hp}
theorem leans_trans (a : Leans K φ H ψ H') (b : Leans K ψ H' χ H'') : Leans K φ H χ H'' :=
  ⟨fun i x h => b.pl i x (a.pl i x h), fun p vs h => b.tup p vs (a.tup p vs h), fun p u h n => b.obj p u (a.obj p u h n).1 (a.obj p u h n).2, fun p vs h => b.fz p vs (a.fz p vs h), fun p h => b.ex p (a.ex p h), fun p kvs h => b.fd p kvs (a.fd p kvs h)⟩
theorem leans_refl : Leans K φ H φ H := ⟨fun _ _ h => h, fun _ _ h => h, fun _ _ h n => ⟨h, n⟩, fun _ _ h => h, fun _ h => h, fun _ _ h => h⟩
theorem itL_list {a : Addr} {vs : List V} {xs : List D} (q : H a = some (.lst vs)) (n : φ.out a) (r : RepAll K φ H vs xs) : ItL K φ H (Itl K a) xs := by
  have w := walk_list (K := K) (a := a) (xs := vs)
  rw [r.length] at w
  refine ⟨_, _, w, fun φ1 H1 l => .of (l.obj _ _ q n).1, fun i φ1 H1 x H2 _ l y => ?_⟩
  obtain ⟨rfl, hx⟩ := y
  obtain ⟨d, h1, h2⟩ := repAll_get' r hx
  exact ⟨rfl, d, h1, Rep.mono l _ h2⟩
theorem itL_tup {a : Addr} {vs : List V} {xs : List D} (q : SqT K H a vs) (r : RepAll K φ H vs xs) : ItL K φ H (Itt K a) xs := by
  have w := walk_tup (K := K) (a := a) (xs := vs)
  rw [r.length] at w
  refine ⟨_, _, w, fun φ1 H1 l => l.tup _ _ q, fun i φ1 H1 x H2 _ l y => ?_⟩
  obtain ⟨rfl, hx⟩ := y
  obtain ⟨d, h1, h2⟩ := repAll_get' r hx
  exact ⟨rfl, d, h1, Rep.mono l _ h2⟩
end
section
variable {X : Cx} {W : WX} {tg e : Expr} {m : EE}
theorem pj_of (he : PE X e (lift X.K W m)) : PI X tg e (liftJ X.K W (Q.of m)) := by
  refine ⟨fun pins s σ H R I ⟨φ, ρ, μ, hl, hm, o⟩ => use he I hl hm (OutG.bind o) fun u s1 v H1 d μ1 φ1 I1 r1 e1 m1 p1 o1 => ?_⟩
  cases d with
  | lst xs =>
    unfold Rep at p1
    obtain ⟨p, vs, rfl, ⟨q, n⟩, rs⟩ := p1
    cases r1
    obtain ⟨its, rv, pl, hz⟩ := I1.list (.of q)
    refine wpAny_pyIter_list pl.isList ?_
    refine ⟨s1.heap.objs.size, [s1.heap.objs.size], _, _, H1, rfl, I1.kept (t' := s1.toks) fun b o e => Heap.get?_push_of_some _ e, turn_list p _, ⟨_, Heap.get?_push_size _ rfl, rfl, rfl⟩, fun b hb => ?_, o1 φ1 H1 Ext.refl m1 _ (itL_list q n rs)⟩
    have e : b = s1.heap.objs.size := by simpa using hb
    subst e
    exact I1.fpOk (Nat.le_refl _) (I1.hok.fresh (Nat.le_refl _))
  | tup xs =>
    unfold Rep at p1
    obtain ⟨p, vs, rfl, ⟨q, _⟩, rs⟩ := p1
    cases r1
    obtain ⟨its, rv, pl, hz⟩ := I1.tuple q
    refine wpAny_pyIter_tuple (show s1.heap.IsTuple p its.toArray from pl) ?_
    refine ⟨s1.heap.objs.size, [s1.heap.objs.size], _, _, H1, rfl, I1.kept (t' := s1.toks) fun b o e => Heap.get?_push_of_some _ e, turn_tuple p _, ⟨_, Heap.get?_push_size _ rfl, rfl, rfl⟩, fun b hb => ?_, o1 φ1 H1 Ext.refl m1 _ (itL_tup q rs)⟩
    have e : b = s1.heap.objs.size := by simpa using hb
    subst e
    exact I1.fpOk (Nat.le_refl _) (I1.hok.fresh (Nat.le_refl _))
  | _ => exact o1.elim
end
/-- a walk, whatever a turn does -/
theorem walk_it {J : It} {n : Nat} {G : Hp → Prop} {Y : Nat → Hp → V → Hp → Prop} (w : Walk J n G Y) {H0 : Hp} {Qd : Hp → Prop} {St : V → Hp → (Hp → Prop) → Prop} (Pv : Nat → Hp → Prop) (h0 : Pv 0 H0) (hG : ∀ i H, i ≤ n → Pv i H → G H)
    (hs : ∀ i x H H', i < n → Pv i H → Y i H x H' → St x H' (Pv (i + 1))) (hd : ∀ H, Pv n H → Qd H) :
    ∃ W : Nat → Nat → Hp → Prop, (∃ m, W 0 m H0) ∧ ∀ i m H, W i m H →
      (J.stop i H ∧ Qd H) ∨ (J.go i H ∧ ∃ Nx : Hp → Prop, (∀ H', Nx H' → ∃ m', m' < m ∧ W (i + 1) m' H') ∧ ∀ x H', J.yld i H x H' → St x H' Nx) := by
  refine ⟨fun i m H => m = n - i ∧ i ≤ n ∧ Pv i H, ⟨n, by simp, Nat.zero_le _, h0⟩, ?_⟩
  rintro i m H ⟨rfl, hi, p⟩
  have q := hG i H hi p
  rcases Nat.lt_or_ge i n with hlt | hge
  · exact .inr ⟨w.goes i H hlt q, Pv (i + 1), fun H' p' => ⟨n - (i + 1), by omega, rfl, hlt, p'⟩, fun x H' y => hs i x H H' hlt p (w.yields i H x H' hlt q y)⟩
  · have e : i = n := Nat.le_antisymm hi hge
    subst e
    exact .inl ⟨w.stops H q, hd H p⟩
/-! ### two clauses -/
def Q.dc2Loop (g : EG) (tt : EB) (q1 : EA) (vs1 : List Nat) (g1 : EG) (tt1 : EB) (tk tv : EE) (ρ : Dp.Loc) : List D → List Key × List D → Mem → Res (List Key × List D)
  | [], acc, μ => .ok acc μ
  | d :: ds, acc, μ => match g d ρ μ with
    | none => .bad
    | some (ρ1, μ1) => (tt ρ1 μ1).nox.bind fun c μ2 => bif c then (q1 ρ1 μ2).nox.bind fun es μ3 => if acc.1.length + es.length ≤ 16777215 then (Q.dcLoop g1 tt1 tk tv (wipeL ρ1 vs1) es acc μ3).bind fun acc μ4 => dc2Loop g tt q1 vs1 g1 tt1 tk tv ρ ds acc μ4 else .bad
      else dc2Loop g tt q1 vs1 g1 tt1 tk tv ρ ds acc μ2
/-- the pairs of a dict comprehension -/
abbrev EK := Dp.Loc → Mem → Res (List Key × List D)
def KX.dc (q : EA) (vs : List Nat) (g : EG) (tt : EB) (tk tv : EE) : EK := fun ρ μ => (q ρ μ).bind fun ds μ => if ds.length ≤ 16777215 then Q.dcLoop g tt tk tv (wipeL ρ vs) ds ([], []) μ else .bad
def KX.dc2 (q : EA) (vs : List Nat) (g : EG) (tt : EB) (q1 : EA) (vs1 : List Nat) (g1 : EG) (tt1 : EB) (tk tv : EE) : EK := fun ρ μ => (q ρ μ).bind fun ds μ => Q.dc2Loop g tt q1 vs1 g1 tt1 tk tv (wipeL ρ vs) ds ([], []) μ
def E.ofK (r : EK) : EE := fun ρ μ => (r ρ μ).bind fun kx μ => .ok (.dct kx.1 kx.2) μ
/-- the dict while it grows -/
structure DS (K : PySem.W.Frag) (φ1 : Pl) (H1 : Hp) (D : Addr) (ψ : Pl) (H : Hp) (μ : Mem) (acc : List Key × List Dp.D) (vacc : List V) : Prop where
  ea : ψ.av = (φ1.hide D).av
  ext : Ext φ1 H1 (ψ.un φ1.av) H
  rel : Rel K ψ H μ
  at_ : H D = some (.dK (acc.1.zip vacc))
  len : acc.1.length = acc.2.length
  rep : RepAll K ψ H vacc acc.2
section
variable {K : PySem.W.Frag} {W : WX} {σ σ4 : L2.St} {φ1 ψ ψ' : Pl} {H1 H H' : Hp} {D : Addr} {μ μ' : Mem} {acc : List Key × List Dp.D} {vacc : List V} {ρ : Dp.Loc} {tk tv : EE}
theorem DS.ext' (s : DS K φ1 H1 D ψ H μ acc vacc) (e : Ext ψ H ψ' H') (r : Rel K ψ' H' μ') : DS K φ1 H1 D ψ' H' μ' acc vacc := by
  have hDn : D ∉ ψ.pl := (s.rel.av D (by rw [s.ea]; exact .inr rfl)).1
  exact ⟨e.av.trans s.ea, s.ext.trans e.un, r, e.keep D _ s.at_ hDn, s.len, s.rep.ext e⟩
theorem DS.toA (s : DS K φ1 H1 D ψ H μ acc vacc) (hD : H1 D = none) : ExtA φ1 H1 ψ H := ⟨s.ext, fun b q => by rw [s.ea]; exact .inl q, fun b q => by
    have q := q
    rw [s.ea] at q
    rcases q with q | q
    · exact .inl q
    · exact .inr (by rw [q]; exact hD)⟩
theorem put_turn {α : Type} {G : α → Mem → Pl → Hp → Prop} {cont : List Key × List Dp.D → Mem → Res (List Key × List Dp.D)} {kk : List Key × List Dp.D → Mem → Res α} (hD : H1 D = none) (s : DS K φ1 H1 D ψ H μ acc vacc) (hz : acc.1.length < 16777216) (l : RepL K ψ H σ4 ρ)
    (o : OutG K W σ φ1 H1 G (((tk ρ μ).nox.bind fun k μ3 => (tv ρ μ3).nox.bind fun v μ4 => (match Dp.keyOf k with
        | some k => cont (dPutK acc.1 acc.2 k, dPutX acc.1 acc.2 k v) μ4
        | none => .bad)).bind kk))
    {P : Hp → Prop} (hP : ∀ ψ' H' μ' acc' vacc', DS K φ1 H1 D ψ' H' μ' acc' vacc' → acc'.1.length ≤ acc.1.length + 1 → Leans K ψ H ψ' H' → OutG K W σ φ1 H1 G ((cont acc' μ').bind kk) → P H') :
    lift K W0 tk σ4 H fun y H6 => lift K W0 tv σ4 H6 fun z H7 => ∃ kvs k, y = kV k ∧ H7 D = some (.dK kvs) ∧ kvs.length < sizeLine ∧ P (upd H7 D (.dK (putK kvs k z))) := by
  refine ⟨ψ, ρ, μ, l, s.rel, ?_⟩
  cases hte : tk ρ μ with
  | bad => rw [hte] at o; exact o.elim
  | err x μ5 => rw [hte] at o; exact o.elim
  | ok kd μ6 =>
  rw [hte] at o
  intro ψ6 H6 e6 r6 v rv
  refine ⟨ψ6, ρ, μ6, l.ext e6, r6, ?_⟩
  have o : OutG K W σ φ1 H1 G (((tv ρ μ6).nox.bind fun v μ4 => (match Dp.keyOf kd with
        | some k => cont (dPutK acc.1 acc.2 k, dPutX acc.1 acc.2 k v) μ4
        | none => .bad)).bind kk) := o
  cases htv : tv ρ μ6 with
  | bad => rw [htv] at o; exact o.elim
  | err x μ5 => rw [htv] at o; exact o.elim
  | ok vd μ7 =>
  rw [htv] at o
  intro ψ7 H7 e7 r7 w rw'
  have o : OutG K W σ φ1 H1 G ((match Dp.keyOf kd with
        | some k => cont (dPutK acc.1 acc.2 k, dPutX acc.1 acc.2 k vd) μ7
        | none => .bad).bind kk) := o
  cases hk : Dp.keyOf kd with
  | none => rw [hk] at o; exact o.elim
  | some k =>
  rw [hk] at o
  have ek := keyOf_rep rv hk
  have e37 : Ext ψ H ψ7 H7 := e6.trans e7
  have s7 := s.ext' e37 r7
  have hv7 : ψ7.av D := by rw [s7.ea]; exact .inr rfl
  obtain ⟨ws, ew, rws⟩ := dPut_rep (k := k) s7.len s7.rep rw'
  refine ⟨acc.1.zip vacc, k, ek, s7.at_, ?_, hP ψ7 _ μ7 (dPutK acc.1 acc.2 k, dPutX acc.1 acc.2 k vd) ws ⟨s7.ea, s7.ext.over hD, r7.writeK hv7 ⟨_, s7.at_⟩, by rw [upd_same, ew], dPut_len s7.len, RepAll.mono (leans_writeK hv7 ⟨_, s7.at_⟩) _ rws⟩ (dPutK_len _ _ _) (leans_trans e37.leans (leans_writeK hv7 ⟨_, s7.at_⟩)) o⟩
  have := s.rep.length
  rw [sizeLine_eq, List.length_zip]; omega
end
end Dp
namespace Dp
open PySem PySem.Spec PyProof.Rows L2
section
variable {X : Cx} {W : WX}
theorem dc2_outH {K : PySem.W.Frag} {W : WX} {q q1 : EA} {vs vs1 : List Nat} {g g1 : EG} {tt tt1 : EB} {tk tv : EE} {σ : L2.St} {H : Hp} {Qr : VK} {φ : Pl} {ρ : Dp.Loc} {μ : Mem} (hl : RepL K φ H σ ρ) (hm : Rel K φ H μ)
    (o : OutG K W σ φ H (GD K H Qr) (KX.dc2 q vs g tt q1 vs1 g1 tt1 tk tv ρ μ)) :
    tDc2 (liftI K W q) (liftG K vs g) (liftB K W0 tt) (liftJ K W0 q1) (liftG K vs1 g1) (liftB K W0 tt1) (lift K W0 tk) (lift K W0 tv) vs vs1 σ H Qr := by
  refine ⟨φ, ρ, μ, hl, hm, (OutG.bind o).imp fun ds μ1 φ1 H1 e1 r1 o1 J ⟨Gd, Y, wk, hG, hY⟩ D hD => ?_⟩
  have hno : φ1.out D := r1.out hD
  have hD0 : H D = none := by
    cases hq : H D with
    | none => rfl
    | some o =>
      by_cases hp : D ∈ φ.pl
      · obtain ⟨tl, et⟩ := e1.pre
        obtain ⟨u, eu⟩ := r1.tracked (b := D) (by rw [et]; exact List.mem_append_left _ hp)
        rw [hD] at eu; cases eu
      · have := e1.keep D o hq hp
        rw [hD] at this; cases this
  refine walk_it (St := fun x H' Nx => liftG K vs g x (L2.wipe σ vs) H' fun σ2 H2 => L2.wipe σ2 vs = L2.wipe σ vs ∧ liftB K W0 tt σ2 H2 fun b H3 =>
    if b = true then liftJ K W0 q1 σ2 H3 fun J1 H4 => ∃ W1 : Nat → Nat → Hp → Prop, (∃ m, W1 0 m H4) ∧ ∀ j k H, W1 j k H →
      (J1.stop j H ∧ Nx H) ∨ (J1.go j H ∧ ∃ Nx1 : Hp → Prop, (∀ H', Nx1 H' → ∃ k', k' < k ∧ W1 (j + 1) k' H') ∧ ∀ x H', J1.yld j H x H' → liftG K vs1 g1 x (L2.wipe σ2 vs1) H' fun σ3 H5 => L2.wipe σ3 vs1 = L2.wipe σ2 vs1 ∧ liftB K W0 tt1 σ3 H5 fun b H6 =>
        if b = true then lift K W0 tk σ3 H6 fun y H7 => lift K W0 tv σ3 H7 fun z H8 => ∃ kvs k, y = kV k ∧ H8 D = some (.dK kvs) ∧ kvs.length < sizeLine ∧ Nx1 (upd H8 D (.dK (putK kvs k z))) else Nx1 H6)
    else Nx H3) wk (fun i H9 => ∃ ψ μ acc vacc, DS K φ1 H1 D ψ H9 μ acc vacc ∧ RepL K ψ H9 (L2.wipe σ vs) (wipeL ρ vs) ∧
      OutG K W σ φ1 H1 (GD K H Qr) (Q.dc2Loop g tt q1 vs1 g1 tt1 tk tv (wipeL ρ vs) (ds.drop i) acc μ)) ?_ ?_ ?_ ?_
  · exact ⟨φ1.hide D, μ1, ([], []), [], ⟨rfl, (Ext.fresh hD : Ext φ1 H1 φ1 (upd H1 D (.dK []))), r1.hide hD, upd_same, rfl, RepAll.nil_⟩, (((hl.ext e1).wipe vs).mono (leans_hide hD)), o1⟩
  · rintro i H2 hi ⟨ψ, μ2, acc, vacc, s, _⟩
    exact hG ψ H2 μ2 (s.toA hD) s.rel
  · rintro i x H2 H3 hi ⟨ψ, μ2, acc, vacc, s, lw, o2⟩ y
    obtain ⟨d, hd, rx, e3, r3⟩ := hY i ψ H2 μ2 x H3 hi (s.toA hD) s.rel y
    have hdrop : ds.drop i = d :: ds.drop (i + 1) := by
      obtain ⟨hlt, he⟩ := List.getElem?_eq_some_iff.mp hd
      rw [← he]; exact List.drop_eq_getElem_cons hlt
    rw [hdrop] at o2
    refine ⟨ψ, wipeL ρ vs, μ2, d, lw.ext e3, r3, rx, ?_⟩
    unfold Q.dc2Loop at o2
    cases hg : g d (wipeL ρ vs) μ2 with
    | none => rw [hg] at o2; exact o2
    | some p =>
      obtain ⟨ρ4, μ4⟩ := p
      rw [hg] at o2
      dsimp only at o2
      intro ψ4 H4 e4 r4 σ4 l4 w4
      refine ⟨w4.trans (wipe_wipe σ vs), ψ4, ρ4, μ4, l4, r4, ?_⟩
      cases ht : tt ρ4 μ4 with
      | bad => rw [ht] at o2; exact o2.elim
      | err x μ5 => rw [ht] at o2; exact o2.elim
      | ok c μ5 =>
      rw [ht] at o2
      intro ψ5 H5 e5 r5
      have e35 : Ext ψ H2 ψ5 H5 := (e3.trans e4).trans e5
      have s5 := s.ext' e35 r5
      cases c with
      | false =>
        show if false = true then _ else _
        rw [if_neg (by decide)]
        exact ⟨ψ5, μ5, acc, vacc, s5, lw.ext e35, o2⟩
      | true =>
        show if true = true then _ else _
        rw [if_pos rfl]
        refine ⟨ψ5, ρ4, μ5, l4.ext e5, r5, ?_⟩
        have o2 : OutG K W σ φ1 H1 (GD K H Qr) ((q1 ρ4 μ5).nox.bind fun es μ3 => if acc.1.length + es.length ≤ 16777215 then (Q.dcLoop g1 tt1 tk tv (wipeL ρ4 vs1) es acc μ3).bind fun acc μ4 => Q.dc2Loop g tt q1 vs1 g1 tt1 tk tv (wipeL ρ vs) (ds.drop (i + 1)) acc μ4 else .bad) := o2
        cases hq1 : q1 ρ4 μ5 with
        | bad => rw [hq1] at o2; exact o2.elim
        | err x μ6 => rw [hq1] at o2; exact o2.elim
        | ok es μ6 =>
        rw [hq1] at o2
        intro ψ6 H6 e6 r6 J1 ⟨Gd1, Y1, wk1, hG1, hY1⟩
        have o2 : OutG K W σ φ1 H1 (GD K H Qr) (if acc.1.length + es.length ≤ 16777215 then (Q.dcLoop g1 tt1 tk tv (wipeL ρ4 vs1) es acc μ6).bind fun acc μ4 => Q.dc2Loop g tt q1 vs1 g1 tt1 tk tv (wipeL ρ vs) (ds.drop (i + 1)) acc μ4 else .bad) := o2
        by_cases hz : acc.1.length + es.length ≤ 16777215
        rotate_left
        · rw [if_neg hz] at o2; exact o2.elim
        rw [if_pos hz] at o2
        have s6 := s5.ext' e6 r6
        have e36 := e35.trans e6
        refine walk_it wk1 (fun j H9 => ∃ ψ μ acc2 vacc, DS K φ1 H1 D ψ H9 μ acc2 vacc ∧ RepL K ψ H9 (L2.wipe σ vs) (wipeL ρ vs) ∧ RepL K ψ H9 (L2.wipe σ4 vs1) (wipeL ρ4 vs1) ∧ Leans K ψ6 H6 ψ H9 ∧ acc2.1.length ≤ acc.1.length + j ∧
          OutG K W σ φ1 H1 (GD K H Qr) ((Q.dcLoop g1 tt1 tk tv (wipeL ρ4 vs1) (es.drop j) acc2 μ).bind fun acc μ4 => Q.dc2Loop g tt q1 vs1 g1 tt1 tk tv (wipeL ρ vs) (ds.drop (i + 1)) acc μ4)) ?_ ?_ ?_ ?_
        · exact ⟨ψ6, μ6, acc, vacc, s6, lw.ext e36, ((l4.ext e5).ext e6).wipe vs1, leans_refl, Nat.le_refl _, o2⟩
        · rintro j H7 hj ⟨ψ7, μ7, acc7, vacc7, s7, lw7, lv7, l7, _⟩
          exact hG1 ψ7 H7 l7
        · rintro j x1 H7 H8 hj ⟨ψ7, μ7, acc7, vacc7, s7, lw7, lv7, l7, hz7, o7⟩ y1
          obtain ⟨rfl, d1, hd1, rx1⟩ := hY1 j ψ7 H7 x1 H8 hj l7 y1
          have hdrop1 : es.drop j = d1 :: es.drop (j + 1) := by
            obtain ⟨hlt, he⟩ := List.getElem?_eq_some_iff.mp hd1
            rw [← he]; exact List.drop_eq_getElem_cons hlt
          rw [hdrop1] at o7
          refine ⟨ψ7, wipeL ρ4 vs1, μ7, d1, lv7, s7.rel, rx1, ?_⟩
          unfold Q.dcLoop at o7
          cases hg1 : g1 d1 (wipeL ρ4 vs1) μ7 with
          | none => rw [hg1] at o7; exact o7
          | some p =>
          obtain ⟨ρ9, μ9⟩ := p
          rw [hg1] at o7
          dsimp only at o7
          intro ψ9 H9 e9 r9 σ9 l9 w9
          refine ⟨w9.trans (wipe_wipe σ4 vs1), ψ9, ρ9, μ9, l9, r9, ?_⟩
          cases ht1 : tt1 ρ9 μ9 with
          | bad => rw [ht1] at o7; exact o7.elim
          | err x μ5 => rw [ht1] at o7; exact o7.elim
          | ok c1 μ10 =>
          rw [ht1] at o7
          intro ψ10 H10 e10 r10
          have e710 : Ext ψ7 H8 ψ10 H10 := e9.trans e10
          have s10 := s7.ext' e710 r10
          cases c1 with
          | false =>
            show if false = true then _ else _
            rw [if_neg (by decide)]
            exact ⟨ψ10, μ10, acc7, vacc7, s10, lw7.ext e710, lv7.ext e710, leans_trans l7 e710.leans, by omega, o7⟩
          | true =>
            show if true = true then _ else _
            rw [if_pos rfl]
            refine put_turn (P := fun H9 => ∃ ψ μ acc2 vacc, DS K φ1 H1 D ψ H9 μ acc2 vacc ∧ RepL K ψ H9 (L2.wipe σ vs) (wipeL ρ vs) ∧ RepL K ψ H9 (L2.wipe σ4 vs1) (wipeL ρ4 vs1) ∧ Leans K ψ6 H6 ψ H9 ∧ acc2.1.length ≤ acc.1.length + (j + 1) ∧
          OutG K W σ φ1 H1 (GD K H Qr) ((Q.dcLoop g1 tt1 tk tv (wipeL ρ4 vs1) (es.drop (j + 1)) acc2 μ).bind fun acc μ4 => Q.dc2Loop g tt q1 vs1 g1 tt1 tk tv (wipeL ρ vs) (ds.drop (i + 1)) acc μ4)) (cont := fun acc μ => Q.dcLoop g1 tt1 tk tv (wipeL ρ4 vs1) (es.drop (j + 1)) acc μ) hD s10 (by omega) (l9.ext e10) o7 fun ψ' H' μ' acc' vacc' s' hz' ll o' => ?_
            exact ⟨ψ', μ', acc', vacc', s', (lw7.ext e710).mono ll, (lv7.ext e710).mono ll, leans_trans (leans_trans l7 e710.leans) ll, by omega, o'⟩
        · rintro H7 ⟨ψ7, μ7, acc7, vacc7, s7, lw7, lv7, l7, hz7, o7⟩
          rw [List.drop_length] at o7
          exact ⟨ψ7, μ7, acc7, vacc7, s7, lw7, o7⟩
  · rintro H2 ⟨ψ, μ2, acc, vacc, s, lw, o2⟩
    have hu : ∀ b, φ1.av b → ψ.av b := fun b q => by rw [s.ea]; exact .inl q
    rw [List.drop_length] at o2
    have eψ : (ψ.un φ1.av).hide D = ψ := by
      have e0 : ψ = ⟨ψ.pl, ψ.av⟩ := rfl
      rw [e0, s.ea]
    refine o2 (ψ.un φ1.av) H2 s.ext (s.rel.un hu) D vacc ⟨?_, hno.2⟩ hD0 s.at_ s.len (by rw [eψ]; exact s.rep) (by rw [eψ]; exact s.rel)
    exact (s.rel.av D (by rw [s.ea]; exact .inr rfl)).1
/-- a dict comprehension's reading -/
def DcR (X : Cx) (W : WX) (kx vx : Expr) (gs : List Comprehension) (scope : Scope) (pos : Pos) (iter : Expr) (r : EK) : Prop :=
  ∃ t : TE, DcCore X kx vx gs scope pos iter t ∧ ∀ σ H Q φ ρ μ, RepL X.K φ H σ ρ → Rel X.K φ H μ → OutG X.K W σ φ H (GD X.K H Q) (r ρ μ) → t σ H Q
theorem dcr_one {kx vx tg iter : Expr} {ifs : List Expr} {scope : Scope} {own : List (Str × Nat)} {pos : Pos} {q : EA} {g : EG} {tt : EB} {tk tv : EE} (hc : X.calm = true) (hN : X.N.Nodup) (hi : PI X tg iter (liftI X.K W q)) (ok : BlkOk X.N X.env.scope scope own)
    (hg : ∀ (s : Shared) (H : Hp) (C : Addr) (cl : List (Str × Addr)) (fp : List Addr), PG (X.blk s H scope (compEnvC scope cl C X.env) fp) tg (liftG X.K (own.map (·.2)) g))
    (ht : ∀ (s : Shared) (H : Hp) (C : Addr) (cl : List (Str × Addr)) (fp : List Addr), PTs (X.blk s H scope (compEnvC scope cl C X.env) fp) ifs (liftB X.K W0 tt))
    (hk : ∀ (s : Shared) (H : Hp) (C : Addr) (cl : List (Str × Addr)) (fp : List Addr), PE (X.blk s H scope (compEnvC scope cl C X.env) fp) kx (lift X.K W0 tk))
    (he : ∀ (s : Shared) (H : Hp) (C : Addr) (cl : List (Str × Addr)) (fp : List Addr), PE (X.blk s H scope (compEnvC scope cl C X.env) fp) vx (lift X.K W0 tv)) (hs : ∀ x, foldedSetIterable iter X.env x = pure x := by intro _; rfl) :
    DcR X W kx vx [⟨tg, iter, ifs, 0⟩] scope pos iter (KX.dc q (own.map (·.2)) g tt tk tv) :=
  ⟨_, fun pins s σ H Q pos' use Qf I h hRR => dc_core hc hN I hi ok hg ht hk he hs h hRR, fun σ H Q φ ρ μ hl hm o => dc_outH hl hm o⟩
theorem dcr_two {kx vx tg iter tg1 iter1 : Expr} {ifs ifs1 : List Expr} {scope : Scope} {own : List (Str × Nat)} {vs1 : List Nat} {pos : Pos} {q q1 : EA} {g g1 : EG} {tt tt1 : EB} {tk tv : EE} (hc : X.calm = true) (hN : X.N.Nodup) (hv : ∀ i ∈ vs1, i ∈ own.map (·.2)) (hi : PI X tg iter (liftI X.K W q)) (ok : BlkOk X.N X.env.scope scope own)
    (hg : ∀ (s : Shared) (H : Hp) (C : Addr) (cl : List (Str × Addr)) (fp : List Addr), PG (X.blk s H scope (compEnvC scope cl C X.env) fp) tg (liftG X.K (own.map (·.2)) g))
    (ht : ∀ (s : Shared) (H : Hp) (C : Addr) (cl : List (Str × Addr)) (fp : List Addr), PTs (X.blk s H scope (compEnvC scope cl C X.env) fp) ifs (liftB X.K W0 tt))
    (hi1 : ∀ (s : Shared) (H : Hp) (C : Addr) (cl : List (Str × Addr)) (fp : List Addr), PI (X.blk s H scope (compEnvC scope cl C X.env) fp) tg1 iter1 (liftJ X.K W0 q1))
    (hg1 : ∀ (s : Shared) (H : Hp) (C : Addr) (cl : List (Str × Addr)) (fp : List Addr), PG (X.blk s H scope (compEnvC scope cl C X.env) fp) tg1 (liftG X.K vs1 g1))
    (ht1 : ∀ (s : Shared) (H : Hp) (C : Addr) (cl : List (Str × Addr)) (fp : List Addr), PTs (X.blk s H scope (compEnvC scope cl C X.env) fp) ifs1 (liftB X.K W0 tt1))
    (hk : ∀ (s : Shared) (H : Hp) (C : Addr) (cl : List (Str × Addr)) (fp : List Addr), PE (X.blk s H scope (compEnvC scope cl C X.env) fp) kx (lift X.K W0 tk))
    (he : ∀ (s : Shared) (H : Hp) (C : Addr) (cl : List (Str × Addr)) (fp : List Addr), PE (X.blk s H scope (compEnvC scope cl C X.env) fp) vx (lift X.K W0 tv)) (hs : ∀ x, foldedSetIterable iter X.env x = pure x := by intro _; rfl) (hs1 : ∀ env x, foldedSetIterable iter1 env x = pure x := by intro _ _; rfl) :
    DcR X W kx vx [⟨tg, iter, ifs, 0⟩, ⟨tg1, iter1, ifs1, 0⟩] scope pos iter (KX.dc2 q (own.map (·.2)) g tt q1 vs1 g1 tt1 tk tv) :=
  ⟨_, fun pins s σ H Q pos' use Qf I h hRR => dc2_core hc hN I hi ok hv hg ht hk he hs hi1 hg1 ht1 hs1 h hRR, fun σ H Q φ ρ μ hl hm o => dc2_outH hl hm o⟩
/-- what stands behind the comprehension: the dict, and what freezing it gives -/
def DcEnd (X : Cx) (W : WX) (σ : L2.St) (φ : Pl) (H : Hp) (Qr : VK) (v : V) (H' : Hp) : Prop := ∃ (D : Addr) (ks : List Key) (xs : List Dp.D) (us : List V) (φ' : Pl) (μ' : Mem), v = .ref D ∧ H' D = some (.dK (ks.zip us)) ∧ φ'.out D ∧ H D = none ∧ ks.length = xs.length ∧ RepAll X.K (φ'.hide D) H' us xs ∧ Rel X.K (φ'.hide D) H' μ' ∧ Rel X.K φ' H' μ' ∧ Ext φ H φ' H' ∧
      (∀ φ2 H2, Ext φ H φ2 H2 → Rel X.K φ2 H2 μ' → ∀ v, Rep X.K φ2 H2 v (.dct ks xs) → Qr v H2)
theorem dcEnd_of {r : EK} {σ : L2.St} {H : Hp} {Qr : VK} {φ : Pl} {ρ : Dp.Loc} {μ : Mem} (o : OutG X.K W σ φ H (GV X.K Qr) (E.ofK r ρ μ)) : OutG X.K W σ φ H (GD X.K H (DcEnd X W σ φ H Qr)) (r ρ μ) := by
  unfold E.ofK at o
  cases hd : r ρ μ with
  | bad => rw [hd] at o; exact o
  | err x μ2 => rw [hd] at o; exact o
  | ok kx μ2 =>
    rw [hd] at o
    intro φ' H' e r D us h1 h0 h2 h3 h4 h5
    exact ⟨D, kx.1, kx.2, us, φ', μ2, rfl, h2, h1, h0, h3, h4, h5, r, e, fun φ2 H2 e2 r2 v rv => o φ2 H2 e2 r2 v rv⟩
theorem dcEnd_lock {pins : List (Addr × Obj)} {s : Shared} {σ σ' : L2.St} {φ : Pl} {H H' : Hp} {Qr : VK} {v : V} (I : Inv X pins σ' H' s) (h : DcEnd X W σ φ H Qr v H') : ∃ H'', Inv X pins σ' H'' s ∧ Qr v H'' := by
  obtain ⟨D, ks, xs, us, φ', μ', rfl, hD, hout, h0, hlen, ra, rh, r, e, fin⟩ := h
  obtain ⟨od, J⟩ := I.lock hD True.intro
  have hv : (φ'.hide D).av D := Or.inr rfl
  have l1 : Leans X.K (φ'.hide D) H' (φ'.hide D) (upd H' D (.frz od (.dK (ks.zip us)))) := leans_writeK hv ⟨_, hD⟩
  have l2 : Leans X.K (φ'.hide D) (upd H' D (.frz od (.dK (ks.zip us)))) φ' (upd H' D (.frz od (.dK (ks.zip us)))) := leans_un (ψ := φ'.hide D) (av := φ'.av) fun b q => .inl q
  have rw1 : Rel X.K φ' (upd H' D (.frz od (.dK (ks.zip us)))) μ' := Rel.un (ψ := φ'.hide D) (av := φ'.av) (fun b q => .inl q) (rh.writeK hv ⟨_, hD⟩)
  exact ⟨_, J, fin φ' _ (e.over h0) rw1 _ (rep_dct upd_same hlen (RepAll.mono l2 _ (RepAll.mono l1 _ ra)))⟩
theorem se_dcK {kx vx tg iter : Expr} {ifs : List Expr} {gs : List Comprehension} {scope : Scope} {pos : Pos} {r : EK} (c : DcR X W kx vx (⟨tg, iter, ifs, 0⟩ :: gs) scope pos iter r) : PE X (.DictComp kx vx (⟨tg, iter, ifs, 0⟩ :: gs) scope pos) (lift X.K W (E.ofK r)) := by
  obtain ⟨t, c, ht⟩ := c
  refine ⟨fun pins s σ H Qr I ⟨φ, ρ, μ, hl, hm, o⟩ => ?_⟩
  refine thn ((pe_dcC c).run pins s σ H (DcEnd X W σ φ H Qr) I (ht σ H _ φ ρ μ hl hm (dcEnd_of o))) ?_
  rintro u s1 ⟨v, H1, I1, ru, h⟩
  obtain ⟨H2, I2, q⟩ := dcEnd_lock I1 h
  exact ⟨v, H2, I2, ru, q⟩
theorem ps_setDcK {i : Nat} {y : Str} {py : Pos} {kx vx tg iter : Expr} {ifs : List Expr} {gs : List Comprehension} {scope : Scope} {pos spos : Pos} {r : EK} (hN : X.N.Nodup) (hy : X.N[i]? = some y) (hyl : X.env.scope.names.lookup y = some .local)
    (hsw : swapsWith (.DictComp kx vx (⟨tg, iter, ifs, 0⟩ :: gs) scope pos) (some (.Name y py)) spos.line X.env = pure true) (c : DcR X W kx vx (⟨tg, iter, ifs, 0⟩ :: gs) scope pos iter r) :
    PS X (.Assign [.Name y py] (.DictComp kx vx (⟨tg, iter, ifs, 0⟩ :: gs) scope pos) spos) (liftS X.K W (S.asg (E.ofK r) (G.name i))) := by
  obtain ⟨t, c, ht⟩ := c
  refine ⟨fun pins s σ H De I ⟨φ, ρ, μ, hl, hm, o⟩ => ?_⟩
  have o' := (asg_out (vs := [i]) hl o).imp fun d μ' φ' H' e r h v rv => name_out (by simp) (h v rv)
  refine thn ((ps_setDcC hN hy hyl hsw c).run pins s σ H { De with nx := fun σ' H' => ∃ v, σ' = σ.set i (some v) ∧ DcEnd X W σ φ H (fun v H2 => De.nx (σ.set i (some v)) H2) v H' } I ?_) ?_
  · exact ht σ H _ φ ρ μ hl hm ((dcEnd_of (Qr := fun v H2 => De.nx (σ.set i (some v)) H2) o').imp fun kx μ' φ' H' e r h D us h1 h0 h2 h3 h4 h5 => ⟨_, rfl, h D us h1 h0 h2 h3 h4 h5⟩)
  · rintro f s1 h
    cases f with
    | next =>
      obtain ⟨σ', H', I', v, rfl, h⟩ := h
      obtain ⟨H2, I2, q⟩ := dcEnd_lock I' h
      exact ⟨_, H2, I2, q⟩
    | brk => exact h
    | cont => exact h
    | ret u => exact h
end
end Dp

set_option maxHeartbeats 4000000
/-! sets of whole numbers: copied, merged, put together by | -/
namespace L2
open PySem PySem.Spec PyProof.Rows
/-! ### tables of any of the masks -/
def Msk (m : Nat) : Prop := ((List.range (m + 1)).all fun j => (List.range (m + 1)).any fun b => lcgN m b == j) = true ∧ lcgN m (m + 1) = 0
theorem msk7 : Msk 7 := by unfold Msk; decide +kernel
theorem msk15 : Msk 15 := by unfold Msk; decide +kernel
theorem msk31 : Msk 31 := by unfold Msk; decide +kernel
theorem msk63 : Msk 63 := by unfold Msk; decide +kernel
theorem msk127 : Msk 127 := by unfold Msk; decide +kernel
theorem msk_all {m : Nat} (hm : Msk m) {j : Nat} (hj : j ≤ m) : ∃ b, b ≤ m ∧ lcgN m b = j := by
  have h1 := List.all_eq_true.mp hm.1 j (List.mem_range.mpr (Nat.lt_succ_of_le hj))
  obtain ⟨b, hb, e⟩ := List.any_eq_true.mp h1
  exact ⟨b, Nat.le_of_lt_succ (List.mem_range.mp hb), beq_iff_eq.mp e⟩
theorem msk_mod {m : Nat} (hm : Msk m) : ∀ k, lcgN m (m + 1 + k) = lcgN m k
  | 0 => hm.2
  | k + 1 => by
    show (lcgN m (m + 1 + k) * 5 + 1) % (m + 1) = (lcgN m k * 5 + 1) % (m + 1)
    rw [msk_mod hm k]
theorem msk_round {m : Nat} (hm : Msk m) {i j : Nat} (hi : i ≤ m) (hj : j ≤ m) : ∃ k, k ≤ m ∧ lcgI m i k = j := by
  obtain ⟨a, ha, ea⟩ := msk_all hm hi
  obtain ⟨b, hb, eb⟩ := msk_all hm hj
  rw [← ea]
  rcases Nat.lt_or_ge b a with c | c
  · refine ⟨b + (m + 1) - a, by omega, ?_⟩
    rw [lcgN_add, show a + (b + (m + 1) - a) = m + 1 + b by omega, msk_mod hm, eb]
  · refine ⟨b - a, by omega, ?_⟩
    rw [lcgN_add, show a + (b - a) = b by omega, eb]
theorem msk_meets {m : Nat} (hm : Msk m) (h : Int) {j : Nat} (hj : j ≤ m) : ∃ n, n ≤ m + 12 ∧ runI m (SetTable.bits h) n = j := by
  obtain ⟨k, hk, e⟩ := msk_round hm (runI_le m (SetTable.bits h) 12) hj
  exact ⟨12 + k, by omega, by rw [runI_tail (bits_lt h)]; exact e⟩
theorem way_in (m : Nat) (h : Int) (k : Nat) : way m h k ≤ m := by
  have hi : SetTable.bits h % (m + 1) ≤ m := Nat.le_of_lt_succ (Nat.mod_lt _ (Nat.succ_pos _))
  have r := runEnd_bd hi
  have q := nth_in (m := m) k (runAt m (SetTable.bits h % (m + 1)) (SetTable.bits h)) (by
    show SetTable.bits h % (m + 1) + (SetTable.runEnd m (SetTable.bits h % (m + 1)) - SetTable.bits h % (m + 1)) ≤ m
    omega)
  show (nth m (runAt m (SetTable.bits h % (m + 1)) (SetTable.bits h)) k).j ≤ m
  omega
theorem msk_find {m : Nat} (hm : Msk m) (owner : Array (Option Nat)) (h : Int) {j : Nat} (hj : j ≤ m) (hf : oAt owner j = none) :
    ∃ i, i ≤ m ∧ SetTable.layClean.free m owner (SetTable.turns m) (SetTable.bits h % (m + 1)) (SetTable.bits h) = some i ∧ oAt owner i = none := by
  obtain ⟨n, hn, e⟩ := msk_meets hm h hj
  have hw : way m h (off m (SetTable.bits h % (m + 1)) (SetTable.bits h) n) = j := by
    show (nth m (runAt m (SetTable.bits h % (m + 1)) (SetTable.bits h)) (off m (SetTable.bits h % (m + 1)) (SetTable.bits h) n)).j = j
    rw [nth_off, itL_run]
    exact e
  obtain ⟨K, k1, k2, k3⟩ := st_least (p := fun k => oAt owner (way m h k) = none) (off m (SetTable.bits h % (m + 1)) (SetTable.bits h) n) (by
    show oAt owner (way m h (off m (SetTable.bits h % (m + 1)) (SetTable.bits h) n)) = none
    rw [hw]; exact hf)
  refine ⟨way m h K, ?_, ?_, k2⟩
  · exact way_in m h K
  · refine free_spec m owner (SetTable.turns m) n _ _ K (by unfold SetTable.turns; omega) k1 (fun k hk => ?_) ?_
    · have q := k3 k hk
      cases z : oAt owner (nth m (runAt m (SetTable.bits h % (m + 1)) (SetTable.bits h)) k).j with
      | none => exact absurd z q
      | some _ => rfl
    · have q : oAt owner (nth m (runAt m (SetTable.bits h % (m + 1)) (SetTable.bits h)) K).j = none := k2
      rw [q] <;> rfl
/-- the slots that are taken, by n elements -/
structure Oc (m n : Nat) (owner : Array (Option Nat)) : Prop where
  sz : owner.size = m + 1
  all : ∀ k, k < n → ∃ j, j ≤ m ∧ oAt owner j = some k
  ps : ∃ ps : List Nat, ps.length = n ∧ ∀ j, j ≤ m → oAt owner j ≠ none → j ∈ ps
theorem Oc.init (m : Nat) : Oc m 0 (Array.replicate (m + 1) none) :=
  ⟨by simp, fun k hk => absurd hk (Nat.not_lt_zero _), [], rfl, fun j hj e => absurd (oAt_init hj) e⟩
theorem Oc.step {m n : Nat} (hm : Msk m) {owner : Array (Option Nat)} (W : Oc m n owner) (hl : n ≤ m) (h : Int) :
    ∃ j, SetTable.layClean.free m owner (SetTable.turns m) (SetTable.bits h % (m + 1)) (SetTable.bits h) = some j ∧ Oc m (n + 1) (owner.setIfInBounds j (some n)) := by
  obtain ⟨ps, hps, hin⟩ := W.ps
  obtain ⟨j0, h0, hn0⟩ := st_missing ps (m + 1) (by omega)
  have hj0 : oAt owner j0 = none := by
    cases z : oAt owner j0 with
    | none => rfl
    | some k => exact absurd (hin j0 (Nat.le_of_lt_succ h0) (by rw [z]; exact fun e => nomatch e)) hn0
  obtain ⟨i, hi, e1, e2⟩ := msk_find hm owner h (Nat.le_of_lt_succ h0) hj0
  have his : i < owner.size := by rw [W.sz]; exact Nat.lt_succ_of_le hi
  have hself := oAt_set_self (some n) his
  refine ⟨i, e1, by rw [Array.size_setIfInBounds]; exact W.sz, fun k hk => ?_, i :: ps, by rw [List.length_cons, hps], fun j hj e => ?_⟩
  · by_cases c : k < n
    · obtain ⟨j, hj, e⟩ := W.all k c
      exact ⟨j, hj, by rw [oAt_set_ne _ (fun z => by rw [z, e2] at e; cases e)]; exact e⟩
    · have ek : k = n := by omega
      rw [ek]; exact ⟨i, hi, hself⟩
  · by_cases c : j = i
    · rw [c]; exact List.mem_cons_self
    · rw [oAt_set_ne _ c] at e
      exact List.mem_cons_of_mem _ (hin j hj e)
theorem Oc.fold {m : Nat} (hm : Msk m) : ∀ (rest : List Int) (n : Nat) (owner : Array (Option Nat)), Oc m n owner → n + rest.length ≤ m →
    ∃ owner', rest.foldl (stepF m) (some (owner, n)) = some (owner', n + rest.length) ∧ Oc m (n + rest.length) owner'
  | [], n, owner, W, _ => ⟨owner, rfl, W⟩
  | h :: rest, n, owner, W, hl => by
    rw [List.length_cons] at hl
    obtain ⟨j, e, W'⟩ := W.step hm (by omega) h
    obtain ⟨owner', f, W2⟩ := Oc.fold hm rest (n + 1) _ W' (by omega)
    have ea : n + 1 + rest.length = n + (h :: rest).length := by rw [List.length_cons]; omega
    rw [ea] at f W2
    exact ⟨owner', by rw [List.foldl_cons, stepF_some e]; exact f, W2⟩
/-- a table laid for elements that fit -/
structure Laid (m : Nat) (led plain : Bool) (n : Nat) (t : SetTable) (order : Array Nat) : Prop where
  perm : order.toList.Perm (List.range n)
  fits : t.fits n = true
  ris : Ris t.place.toList
  led : t.led = led
  plain : t.plain = plain
  mask : t.mask = m
  dum : t.dummies = #[]
theorem laid_ok {m : Nat} (hm : Msk m) (f mv : Nat) (led plain : Bool) {hs : Array Int} (hn : hs.size ≤ m) : ∃ t order, SetTable.laid m f mv led plain hs = some (t, order) ∧ Laid m led plain hs.size t order := by
  obtain ⟨owner, fo, W⟩ := Oc.fold hm hs.toList 0 _ (Oc.init m) (by rw [Array.length_toList]; omega)
  rw [Nat.zero_add, Array.length_toList] at fo W
  have e : SetTable.layClean m hs = some owner := by rw [layClean_eq, fo]; rfl
  have hr : SetTable.laid m f mv led plain hs = some ({ mask := m, place := ((liveOf m owner).map (·.1)).toArray, dummies := #[], finger := f, led := led, moves := mv, plain := plain }, ((liveOf m owner).map (·.2)).toArray) := by
    unfold SetTable.laid
    rw [e]; rfl
  have ris := ris_live (fun j => owner.getD j none) (List.range (m + 1)) (by unfold Ris; exact List.pairwise_lt_range)
  have r1 : Ris ((liveOf m owner).map (·.1)) := ris.1
  have nd : ((liveOf m owner).map (·.1)).Nodup := List.Pairwise.imp (fun h => Nat.ne_of_lt h) r1
  have hlen : (liveOf m owner).length = hs.size := by
    obtain ⟨ps, p1, p2⟩ := W.ps
    have a := nat_nodup_len ((liveOf m owner).map (·.1)) ps nd fun x hx => by
      obtain ⟨⟨y, k⟩, hq, rfl⟩ := List.mem_map.mp hx
      obtain ⟨b1, b2⟩ := (mem_live W.sz).1 hq
      exact p2 y b1 (by rw [b2]; exact fun z => nomatch z)
    have b := nat_nodup_len (List.range hs.size) ((liveOf m owner).map (·.2)) List.nodup_range fun k hk => by
      obtain ⟨j, b1, b2⟩ := W.all k (List.mem_range.mp hk)
      exact List.mem_map.mpr ⟨(j, k), (mem_live W.sz).2 ⟨b1, b2⟩, rfl⟩
    rw [List.length_map, p1] at a
    rw [List.length_map, List.length_range] at b
    omega
  refine ⟨_, _, hr, ?_, ?_, r1, rfl, rfl, rfl, rfl⟩
  · refine perm_range hs.size _ (by simp [hlen]) fun k hk => ?_
    obtain ⟨j, b1, b2⟩ := W.all k hk
    exact List.mem_map.mpr ⟨(j, k), (mem_live W.sz).2 ⟨b1, b2⟩, rfl⟩
  · unfold SetTable.fits SetTable.fill
    simp [hlen]
    exact hn
/-- the elements in the new order -/
theorem order_perm {α : Type} (es : Array α) {order : Array Nat} (hp : order.toList.Perm (List.range es.size)) : (order.filterMap (es[·]?)).toList.Perm es.toList := by
  have h1 : (order.toList.filterMap (fun i => es[i]?)).Perm ((List.range es.size).filterMap fun i => es[i]?) := hp.filterMap _
  have h2 : (List.range es.size).filterMap (fun i => es[i]?) = es.toList := by
    have key : ∀ n, n ≤ es.size → (List.range n).filterMap (fun i => es[i]?) = es.toList.take n := by
      intro n
      induction n with
      | zero => intro _; rfl
      | succ n ih =>
        intro hn
        have hlt : n < es.toList.length := by rw [Array.length_toList]; exact hn
        have hlt' : n < es.size := hn
        rw [List.range_succ, List.filterMap_append, ih (Nat.le_of_lt hn), List.take_add_one, List.getElem?_eq_getElem hlt]
        simp [hlt']
    rw [key es.size (Nat.le_refl _), ← Array.length_toList, List.take_length]
  rw [h2] at h1
  rw [Array.toList_filterMap]
  exact h1
end L2

set_option maxHeartbeats 4000000
namespace L2
open PySem PySem.Spec PyProof.Rows
section
variable {P : Program} {w : World} {A : Around} {E : Value → Shared → Prop} {s : Shared}
/-- a set of whole numbers, its state named -/
structure SetS (w : World) (h : Heap) (a : Addr) (S : Int → Bool) (n : Nat) (o : Obj) (es : Array (Int × Value)) (ep : Nat) (t : SetTable) : Prop where
  ho : h.get? a = some o
  ex : o.ExactSet
  hd : o.data = .set es ep t
  good : ∀ e ∈ es.toList, GoodE e
  nd : (es.toList.map keyOf).Nodup
  mem : ∀ k, S k = true ↔ k ∈ es.toList.map keyOf
  lt : es.size < scanBound
  fits : t.fits es.size = true
  n : es.size = n
  ris : Ris t.place.toList
  led : w.params.followText "set-order" = true ∨ t.led = true
theorem SetR.st {h : Heap} {a : Addr} {S : Int → Bool} {n : Nat} (R : SetR w h a S n) : ∃ o es ep t, SetS w h a S n o es ep t := by
  obtain ⟨o, es, ep, t, ho, hex, hd, g, nd, hm, hb, hf, hn, hr, hl⟩ := R
  exact ⟨o, es, ep, t, ho, hex, hd, g, nd, hm, hb, hf, hn, hr, hl⟩
theorem SetS.r {h : Heap} {a : Addr} {S : Int → Bool} {n : Nat} {o : Obj} {es : Array (Int × Value)} {ep : Nat} {t : SetTable} (R : SetS w h a S n o es ep t) : SetR w h a S n :=
  ⟨o, es, ep, t, R.ho, R.ex, R.hd, R.good, R.nd, R.mem, R.lt, R.fits, R.n, R.ris, R.led⟩
variable {a b : Addr} {S S' : Int → Bool} {n m : Nat} {o o' : Obj} {es es' : Array (Int × Value)} {ep ep' : Nat} {t t' : SetTable}
theorem SetS.entries {Q : Array (Int × Value) → Shared → Prop} (R : SetS w s.heap a S n o es ep t) (h : Q es s) : wpAny (model P w) A (setEntries a) Q E s := by
  unfold setEntries
  exact wpAny_bind (wpAny_setState_of R.ho R.hd R.fits (wpAny_pure h))
theorem quiet_ok {l : List Addr} (hl : ∀ x ∈ l, ∃ S n o es ep t, SetS w s.heap x S n o es ep t) {Q : Bool → Shared → Prop} (h : Q true s) : wpAny (model P w) A (setsQuiet l) Q E s := by
  unfold setsQuiet
  refine wpAny_bind (wpAny_forIn_list _ (fun l r s' => r = (none, ()) ∧ s' = s ∧ ∀ x ∈ l, ∃ S n o es ep t, SetS w s.heap x S n o es ep t) _ ?_ ?_ l _ ⟨rfl, rfl, hl⟩)
  · rintro x rest r s' ⟨rfl, rfl, hx⟩
    obtain ⟨S, n, o, es, ep, t, R⟩ := hx x List.mem_cons_self
    refine wpAny_bind (R.entries ?_)
    refine wpAny_bind (wpAny_mono (wpAny_forIn_array' _ (fun l r s1 => r = (none, ()) ∧ s1 = s' ∧ ∀ e ∈ l, GoodE e) (fun r s1 => r = (none, ()) ∧ s1 = s') ?_ ?_ es _ ⟨rfl, rfl, R.good⟩) (fun r s1 hr => ?_) fun _ _ x => x)
    · rintro ⟨hh, v⟩ rest r s1 ⟨rfl, rfl, hg⟩
      obtain ⟨k, tk, e1, _⟩ := hg _ List.mem_cons_self
      have e1 : v = Value.int k tk := e1
      subst e1
      exact wpAny_pure ⟨rfl, rfl, fun e he => hg e (List.mem_cons_of_mem _ he)⟩
    · rintro r s1 ⟨rfl, rfl, _⟩
      exact ⟨rfl, rfl⟩
    · obtain ⟨rfl, rfl⟩ := hr
      exact wpAny_pure ⟨rfl, rfl, fun x hx' => hx x (List.mem_cons_of_mem _ hx')⟩
  · rintro r s' ⟨rfl, rfl, _⟩
    exact wpAny_pure h
theorem walk_ok (R : SetS w s.heap b S m o es ep t) (hp : w.params.followText "set-order" = true ∨ (t.led = true ∧ t.plain = true) ∨ es.size ≤ 1) {Q : Array (Int × Value) → Shared → Prop} (hQ : ∀ l : Array (Int × Value), l.toList.Perm es.toList → Q l s) :
    wpAny (model P w) A (setWalk b) Q E s := by
  unfold setWalk
  refine wpAny_bind (wpAny_setState_of R.ho R.hd R.fits ?_)
  dsimp only
  refine wpAny_bind (wpAny_byText ?_)
  cases hbt : w.params.followText "set-order" with
  | true =>
    refine wp_if_pos rfl ?_
    exact wpAny_bind (wpAny_askSetting (wpAny_pure (hQ _ (pick_perm _ _))))
  | false =>
    refine wp_if_neg (by decide) ?_
    have hl : t.led = true := by
      rcases R.led with z | z
      · rw [hbt] at z; cases z
      · exact z
    have hdr : (!t.plain && decide (es.size > 1)) = false := by
      rcases hp with z | z | z
      · rw [hbt] at z; cases z
      · rw [z.2]; rfl
      · have : ¬ es.size > 1 := by omega
        simp [this]
    refine wp_if_neg (by show ¬ ((!t.plain && decide (es.size > 1)) = true); rw [hdr]; exact Bool.false_ne_true) ?_
    refine wpAny_bind (wpAny_of_eq (a := ()) ?_ ?_)
    · show (if (!t.led && decide (es.size > 1)) = true then unsupported "set:maker-not-led" else pure ()) = pure ()
      rw [hl]; rfl
    · exact wpAny_pure (hQ es (List.Perm.refl _))
/-- the elements of a set of whole numbers, told in some order -/
structure Els (S : Int → Bool) (n : Nat) (l : List (Int × Value)) : Prop where
  good : ∀ e ∈ l, GoodE e
  nd : (l.map keyOf).Nodup
  mem : ∀ k, S k = true ↔ k ∈ l.map keyOf
  len : l.length = n
theorem SetS.els {h : Heap} (R : SetS w h a S n o es ep t) {l : List (Int × Value)} (p : l.Perm es.toList) : Els S n l :=
  ⟨fun e he => R.good e (p.mem_iff.mp he), (p.map keyOf).nodup_iff.mpr R.nd, fun k => (R.mem k).trans (p.map keyOf).mem_iff.symm, by rw [p.length_eq, Array.length_toList, R.n]⟩
/-- its flags may be told anew -/
theorem SetS.flags {h : Heap} (R : SetS w h a S n o es ep t) {t2 : SetTable} (hp : t2.place = t.place) (hf : t2.fits es.size = true) (hl : w.params.followText "set-order" = true ∨ t2.led = true) :
    SetS w (h.update a (Obj.putSet es t2)) a S n { o with data := .set es (ep + 1) t2 } es (ep + 1) t2 :=
  ⟨store_at R.ho R.hd, R.ex, rfl, R.good, R.nd, R.mem, R.lt, hf, R.n, by rw [hp]; exact R.ris, hl⟩
theorem walkUnseen_ok (R : SetS w s.heap b S' m o' es' ep' t') (R1 : SetR w s.heap a S n) (hne : a ≠ b) {Q : Array (Int × Value) → Shared → Prop}
    (hQ : ∀ (l : Array (Int × Value)) h', Heap.SameBut a s.heap h' → SetR w h' a S n → Els S' m l.toList → Q l { s with heap := h' }) :
    wpAny (model P w) A (setWalkUnseen b [a] (some a)) Q E s := by
  obtain ⟨o, es, ep, t, R2⟩ := R1.st
  have easy : (w.params.followText "set-order" = true ∨ (t'.led = true ∧ t'.plain = true) ∨ es'.size ≤ 1) → wpAny (model P w) A (setWalk b) Q E s := fun hp =>
    walk_ok R hp fun l pl => hQ l s.heap (Heap.SameBut.refl _ _) R1 (R.els pl)
  unfold setWalkUnseen
  refine wpAny_bind (wpAny_setState_of R.ho R.hd R.fits ?_)
  dsimp only
  refine wpAny_bind (wpAny_byText ?_)
  by_cases hc : (w.params.followText "set-order" || (t'.led && t'.plain) || decide (es'.size ≤ 1)) = true
  · refine wp_if_pos hc ?_
    simp only [Bool.or_eq_true, Bool.and_eq_true, decide_eq_true_eq, or_assoc] at hc
    exact easy hc
  · refine wp_if_neg hc ?_
    simp only [Bool.or_eq_true, Bool.and_eq_true, decide_eq_true_eq, not_or] at hc
    obtain ⟨⟨hbt, hlp⟩, hsz⟩ := hc
    have hl : t'.led = true := R.led.resolve_left hbt
    refine wpAny_bind (quiet_ok (l := [b, a]) (fun x hx => ?_) ?_)
    · simp only [List.mem_cons, List.not_mem_nil, or_false] at hx
      rcases hx with rfl | rfl
      · exact ⟨_, _, _, _, _, _, R⟩
      · exact ⟨_, _, _, _, _, _, R2⟩
    refine wp_if_neg (by decide) ?_
    refine wpAny_bind (wpAny_rule ?_)
    refine wpAny_bind (wpAny_setState_of R2.ho R2.hd R2.fits ?_)
    dsimp only
    by_cases hf : (t.led && !t'.led || t.plain && !t'.plain) = true
    · refine wp_if_pos hf ?_
      refine wpAny_bind (wpAny_storeSet_of R2.ho R2.hd ?_ (fits_of_scanBound R2.lt))
      refine wpAny_pure (hQ es' _ (Heap.SameBut.update _ a _) (R2.flags (t2 := { t with led := t.led && t'.led, plain := t.plain && t'.plain }) rfl R2.fits (R2.led.imp id fun z => ?_)).r (R.els (List.Perm.refl _)))
      show (t.led && t'.led) = true
      rw [z, hl]; rfl
    · refine wp_if_neg hf ?_
      exact wpAny_pure (hQ es' s.heap (Heap.SameBut.refl _ _) R1 (R.els (List.Perm.refl _)))
theorem setMerge_eq (a b : Addr) (each : Sem Unit) : setMerge a b each = (do
    if a == b then return
    let (eo, epoch, to) ← setState b
    if eo.isEmpty then return
    setRoomFor a eo.size
    let (_, _, ts) ← setState a
    match ts.road to with
    | .slotForSlot => storeSet a eo { to with finger := ts.finger, led := ts.led && to.led, moves := ts.moves, plain := ts.plain && to.plain }
    | .clean =>
      let (es, t) ← (do
        let some (t, order) := (SetTable.laid ts.mask ts.finger ts.moves (led := ts.led && to.led) (plain := ts.plain && to.plain) (eo.map (·.1))) | unsupported "internal:set-table-without-room"
        let es' := order.filterMap (eo[·]?)
        if es'.size != eo.size then unsupported "internal:set-table-lost-an-element"
        pure (es', t) : Sem (Array (Int × Value) × SetTable))
      storeSet a es t
    | .oneByOne =>
      for (h, x) in ← setWalkUnseen b [a] (some a) do
        let _ ← holding [x] (setAddHashed a x h)
        each
        if (← setState b).2.1 != epoch then unsupported "set.changed-during-merge") := by rfl
/-- the room that is made -/
theorem above_ok : ∀ k, k ≤ 63 → (SetTable.sizeAbove (k * 2) - 1 = 7 ∨ SetTable.sizeAbove (k * 2) - 1 = 15 ∨ SetTable.sizeAbove (k * 2) - 1 = 31 ∨ SetTable.sizeAbove (k * 2) - 1 = 63 ∨ SetTable.sizeAbove (k * 2) - 1 = 127) ∧ k ≤ SetTable.sizeAbove (k * 2) - 1 ∧ SetTable.sizeAbove (k * 2) ≤ 128 := by
  have h : ∀ k ∈ List.range 64, (SetTable.sizeAbove (k * 2) - 1 = 7 ∨ SetTable.sizeAbove (k * 2) - 1 = 15 ∨ SetTable.sizeAbove (k * 2) - 1 = 31 ∨ SetTable.sizeAbove (k * 2) - 1 = 63 ∨ SetTable.sizeAbove (k * 2) - 1 = 127) ∧ k ≤ SetTable.sizeAbove (k * 2) - 1 ∧ SetTable.sizeAbove (k * 2) ≤ 128 := by decide +kernel
  exact fun k hk => h k (List.mem_range.mpr (by omega))
theorem above_msk {k : Nat} (hk : k ≤ 63) : Msk (SetTable.sizeAbove (k * 2) - 1) := by
  rcases (above_ok k hk).1 with e | e | e | e | e
  · rw [e]; exact msk7
  · rw [e]; exact msk15
  · rw [e]; exact msk31
  · rw [e]; exact msk63
  · rw [e]; exact msk127
theorem fits_size {t : SetTable} {n : Nat} (h : t.fits n = true) : t.place.size = n := by
  unfold SetTable.fits at h
  rw [Bool.and_eq_true, beq_iff_eq] at h
  exact h.1
/-- elements put into a table that is laid for them -/
theorem SetS.laidAt {h : Heap} (ho : h.get? a = some o) (ex : o.ExactSet) (hd : o.data = .set es ep t) (el : Els S n es'.toList) (hn : es'.size ≤ 63) {t2 : SetTable} {order : Array Nat} {M : Nat} {led plain : Bool}
    (L : Laid M led plain es'.size t2 order) (hl : w.params.followText "set-order" = true ∨ led = true) :
    SetS w (h.update a (Obj.putSet (order.filterMap (es'[·]?)) t2)) a S n { o with data := .set (order.filterMap (es'[·]?)) (ep + 1) t2 } (order.filterMap (es'[·]?)) (ep + 1) t2 := by
  have pm := order_perm es' L.perm
  have hs : (order.filterMap (es'[·]?)).size = es'.size := by rw [← Array.length_toList, pm.length_eq, Array.length_toList]
  have hsb : scanBound = 4096 := rfl
  refine ⟨store_at ho hd, ex, rfl, fun e he => el.good e (pm.mem_iff.mp he), (pm.map keyOf).nodup_iff.mpr el.nd, fun k => (el.mem k).trans (pm.map keyOf).mem_iff.symm, by rw [hs, hsb]; omega, by rw [hs]; exact L.fits, by rw [hs, ← Array.length_toList]; exact el.len, L.ris, hl.imp id fun z => by rw [L.led]; exact z⟩
theorem laid_size {es : Array (Int × Value)} {M : Nat} {led plain : Bool} {t2 : SetTable} {order : Array Nat} (L : Laid M led plain es.size t2 order) : (order.filterMap (es[·]?)).size = es.size := by
  have pm := order_perm es L.perm
  rw [← Array.length_toList, pm.length_eq, Array.length_toList]
theorem room_ok (R : SetS w s.heap a S n o es ep t) (few : n + m ≤ 63) {Q : Unit → Shared → Prop}
    (hQ : ∀ h' o' es' ep' t', Heap.SameBut a s.heap h' → SetS w h' a S n o' es' ep' t' → (n = 0 → t.mask = 7 → t.fill = 0 → t'.fill = 0 ∧ Msk t'.mask ∧ m ≤ t'.mask ∧ (m = 0 → t'.mask = 7)) → Q () { s with heap := h' }) :
    wpAny (model P w) A (setRoomFor a m) Q E s := by
  have hps := fits_size R.fits
  have hn := R.n
  unfold setRoomFor
  refine wpAny_bind (wpAny_setState_of R.ho R.hd R.fits ?_)
  dsimp only
  unfold SetTable.roomFor
  by_cases hc : (t.fill + m) * 5 ≥ t.mask * 3
  · rw [if_pos hc]
    show wpAny _ _ (setRelay a ((t.place.size + m) * 2)) _ _ _
    have e0 : t.place.size + m ≤ 63 := by omega
    obtain ⟨_, a2, a3⟩ := above_ok _ e0
    rw [setRelay_eq]
    refine wpAny_bind (wpAny_setState_of R.ho R.hd R.fits ?_)
    dsimp only
    refine wp_if_neg (by rw [sizeLine_eq]; omega) ?_
    try refine wpAny_bind (wpAny_pure ?_)
    have hsz : (es.map (·.1)).size = es.size := Array.size_map ..
    obtain ⟨t2, order, e, L⟩ := laid_ok (above_msk e0) t.finger (t.movedTo (SetTable.sizeAbove ((t.place.size + m) * 2) - 1)) t.led t.plain (hs := es.map (·.1)) (by rw [hsz]; omega)
    rw [hsz] at L
    have e' : t.relaid (es.map (·.1)) ((t.place.size + m) * 2) = some (t2, order) := e
    rw [e']
    dsimp only
    refine wpAny_bind ?_
    refine wp_if_neg (by rw [laid_size L]; simp) ?_
    try refine wpAny_bind (wpAny_pure ?_)
    refine wpAny_pure ?_
    have hsb : scanBound = 4096 := rfl
    refine wpAny_storeSet_of R.ho R.hd ?_ (by rw [laid_size L]; exact fits_of_scanBound R.lt)
    have RR := SetS.laidAt R.ho R.ex R.hd (R.els (List.Perm.refl _)) (by omega) L R.led
    refine hQ _ _ _ _ _ (Heap.SameBut.update _ a _) RR fun h0 h7 hf => ⟨?_, ?_, ?_, fun hm0 => ?_⟩
    · have hfz := fits_size L.fits
      unfold SetTable.fill
      rw [L.dum, hfz]
      show es.size + 0 = 0
      omega
    · rw [L.mask]; exact above_msk e0
    · rw [L.mask]; omega
    · rw [h7, hf] at hc; omega
  · rw [if_neg hc]
    refine wpAny_pure (hQ s.heap o es ep t (Heap.SameBut.refl _ _) R fun h0 h7 hf => ⟨hf, by rw [h7]; exact msk7, ?_, fun _ => h7⟩)
    rw [h7, hf] at hc
    rw [h7]; omega
/-- a set of whole numbers whose empty table is the first one -/
def SetE (w : World) (h : Heap) (a : Addr) (S : Int → Bool) (n : Nat) : Prop := ∃ o es ep t, SetS w h a S n o es ep t ∧ (n = 0 → t.mask = 7 ∧ t.fill = 0)
theorem SetE.r {h : Heap} (R : SetE w h a S n) : SetR w h a S n := by
  obtain ⟨o, es, ep, t, R, _⟩ := R
  exact R.r
theorem SetR.e {h : Heap} (R : SetR w h a S n) (hn : 0 < n) : SetE w h a S n := by
  obtain ⟨o, es, ep, t, R⟩ := R.st
  exact ⟨o, es, ep, t, R, fun z => by omega⟩
theorem SetE.at {h h' : Heap} (R : SetE w h a S n) (k : ∀ o, h.get? a = some o → h'.get? a = some o) : SetE w h' a S n := by
  obtain ⟨o, es, ep, t, R, z⟩ := R
  exact ⟨o, es, ep, t, ⟨k o R.ho, R.ex, R.hd, R.good, R.nd, R.mem, R.lt, R.fits, R.n, R.ris, R.led⟩, z⟩
theorem SetS.move {h h' : Heap} (R : SetS w h a S n o es ep t) (e : h'.get? a = h.get? a) : SetS w h' a S n o es ep t :=
  ⟨by rw [e]; exact R.ho, R.ex, R.hd, R.good, R.nd, R.mem, R.lt, R.fits, R.n, R.ris, R.led⟩
theorem Els.none {l : List (Int × Value)} (L : Els S 0 l) (k : Int) : S k = false := by
  cases hk : S k with
  | false => rfl
  | true =>
    have e : l = [] := List.eq_nil_of_length_eq_zero L.len
    have := (L.mem k).1 hk
    rw [e] at this; cases this
theorem merge_ok (R0 : SetE w s.heap a S n) (R' : SetR w s.heap b S' m) (hne : a ≠ b) (few : n + m ≤ 63) {each : Sem Unit}
    (heach : ∀ h' (Q' : Unit → Shared → Prop), Heap.SameBut a s.heap h' → Q' () { s with heap := h' } → wpAny (model P w) A each Q' E { s with heap := h' })
    {Q : Unit → Shared → Prop} (hQ : ∀ h' c, Heap.SameBut a s.heap h' → SetE w h' a (fun j => S j || S' j) c → c ≤ n + m → Q () { s with heap := h' }) :
    wpAny (model P w) A (setMerge a b each) Q E s := by
  obtain ⟨o, es, ep, t, R, z0⟩ := R0
  obtain ⟨o', es', ep', t', R'⟩ := R'.st
  have hsb : scanBound = 4096 := rfl
  rw [setMerge_eq]
  refine wp_if_neg (by simp [hne]) ?_
  try refine wpAny_bind (wpAny_pure ?_)
  refine wpAny_bind (wpAny_setState_of R'.ho R'.hd R'.fits ?_)
  dsimp only
  by_cases hm : es'.isEmpty = true
  · refine wp_if_pos hm ?_
    have hm0 : m = 0 := by rw [← R'.n]; simpa using hm
    subst hm0
    refine wpAny_pure (hQ s.heap n (Heap.SameBut.refl _ _) ⟨o, es, ep, t, ⟨R.ho, R.ex, R.hd, R.good, R.nd, fun k => ?_, R.lt, R.fits, R.n, R.ris, R.led⟩, z0⟩ (Nat.le_refl _))
    rw [(R'.els (List.Perm.refl _)).none k, Bool.or_false]
    exact R.mem k
  refine wp_if_neg hm ?_
  try refine wpAny_bind (wpAny_pure ?_)
  have hm1 : 0 < m := by
    rw [← R'.n]
    rcases Nat.eq_zero_or_pos es'.size with z | z
    · exact absurd (by simpa using z) hm
    · exact z
  rw [R'.n]
  refine wpAny_bind (room_ok R few fun h1 o1 es1 ep1 t1 sb1 R1 z1 => ?_)
  have eb : ∀ {h' : Heap}, Heap.SameBut a s.heap h' → h'.get? b = s.heap.get? b := fun sb => sb.2 b (fun z => hne z.symm)
  refine wpAny_bind (wpAny_setState_of R1.ho R1.hd R1.fits ?_)
  dsimp only
  have R2 := R'.move (eb sb1)
  by_cases hn0 : n = 0
  · -- into an empty table
    subst hn0
    obtain ⟨f1, k1, m1, _⟩ := z1 rfl (z0 rfl).1 (z0 rfl).2
    have hS : ∀ k, S k = false := (R.els (List.Perm.refl _)).none
    have hSS : (fun j => S j || S' j) = S' := funext fun j => by rw [hS j, Bool.false_or]
    rw [hSS] at hQ
    have hled : w.params.followText "set-order" = true ∨ (t1.led && t'.led) = true := by
      rcases R1.led with z | z
      · exact .inl z
      · exact R'.led.imp id fun y => by rw [z, y]; rfl
    unfold SetTable.road
    rw [f1]
    by_cases hr : (t1.mask == t'.mask && t'.dummies.isEmpty) = true
    · rw [if_neg (by decide), if_pos hr]
      show wpAny _ _ (storeSet a es' _) _ _ _
      refine wpAny_storeSet_of R1.ho R1.hd ?_ (fits_of_scanBound R'.lt)
      refine hQ _ m (sb1.trans (Heap.SameBut.update _ a _)) (SetR.e ⟨_, es', _, _, store_at R1.ho R1.hd, R1.ex, rfl, R'.good, R'.nd, R'.mem, R'.lt, R'.fits, R'.n, R'.ris, hled⟩ hm1) (by omega)
    · rw [if_neg (by decide), if_neg hr]
      dsimp only
      have hsz : (es'.map (·.1)).size = es'.size := Array.size_map ..
      obtain ⟨t2, order, e, L⟩ := laid_ok k1 t1.finger t1.moves (t1.led && t'.led) (t1.plain && t'.plain) (hs := es'.map (·.1)) (by rw [hsz, R'.n]; exact m1)
      rw [hsz] at L
      rw [e]
      dsimp only
      refine wpAny_bind ?_
      refine wp_if_neg (by rw [laid_size L]; simp [R'.n]) ?_
      try refine wpAny_bind (wpAny_pure ?_)
      refine wpAny_pure ?_
      refine wpAny_storeSet_of R1.ho R1.hd ?_ (by rw [laid_size L]; exact fits_of_scanBound R'.lt)
      have RR := SetS.laidAt R1.ho R1.ex R1.hd (R'.els (List.Perm.refl _)) (by have := R'.n; omega) L hled
      exact hQ _ m (sb1.trans (Heap.SameBut.update _ a _)) (SetR.e RR.r hm1) (by omega)
  · have hf : (t1.fill != 0) = true := by
      have h1 := fits_size R1.fits
      have h2 := R1.n
      unfold SetTable.fill
      simp only [bne_iff_ne, ne_eq]
      omega
    unfold SetTable.road
    rw [if_pos hf]
    dsimp only
    refine wpAny_bind (walkUnseen_ok R2 R1.r hne fun l h2 sb2 RA L => ?_)
    refine wpAny_bind (wpAny_mono (wpAny_forIn_array' _ (fun rest _ s1 => ∃ h1 T c, s1 = { s with heap := h1 } ∧ Heap.SameBut a s.heap h1 ∧ SetR w h1 a T c ∧ n ≤ c ∧ c + rest.length ≤ n + m ∧ (∀ e ∈ rest, GoodE e) ∧ (∀ k, (T k || decide (k ∈ rest.map keyOf)) = (S k || S' k))) (fun _ s' => Q () s') ?_ ?_ l _ ⟨h2, S, n, rfl, sb1.trans sb2, RA, Nat.le_refl _, by rw [L.len]; exact Nat.le_refl _, L.good, fun k => ?_⟩) (fun _ _ h => wpAny_pure h) fun _ _ x => x)
    · rintro ⟨hh, v⟩ rest _ s1 ⟨h1, T, c, rfl, sb, RT, hc1, hc2, hg, hT⟩
      obtain ⟨k, tk, e1, e2⟩ := hg _ List.mem_cons_self
      have e1 : v = Value.int k tk := e1
      have e2 : hh = hashInt k := e2
      subst e1
      subst e2
      rw [List.length_cons] at hc2
      refine wpAny_bind (wpAny_holding (setR_add_hashed RT (by rw [hsb]; omega) fun h3 sb3 R3 => ?_))
      refine wpAny_bind (heach h3 _ (sb.trans sb3) ?_)
      have R4 := R'.move (eb (sb.trans sb3))
      refine wpAny_bind (wpAny_setState_of R4.ho R4.hd R4.fits ?_)
      dsimp only
      refine wp_if_neg (by simp) ?_
      refine wpAny_pure ⟨h3, _, _, rfl, sb.trans sb3, R3, ?_, ?_, fun e he => hg e (List.mem_cons_of_mem _ he), fun j => ?_⟩
      · split <;> omega
      · split <;> omega
      · have := hT j
        rw [← this]
        show ((T j || decide (j = k)) || decide (j ∈ rest.map keyOf)) = (T j || decide (j ∈ keyOf (hashInt k, Value.int k tk) :: rest.map keyOf))
        have ek : keyOf (hashInt k, Value.int k tk) = k := rfl
        rw [ek, Bool.or_assoc]
        congr 1
        by_cases hjk : j = k <;> simp [hjk]
    · rintro _ s1 ⟨h1, T, c, rfl, sb, RT, hc1, hc2, hg, hT⟩
      refine hQ h1 c sb ((SetR.congr RT fun k => ?_).e (by omega)) (by simpa using hc2)
      have := hT k
      exact (show T k = (S k || S' k) by simpa using this).symm
    · have := L.mem k
      cases hs : S k with
      | true => simp
      | false =>
        cases hs' : S' k with
        | true => simp [this.1 hs']
        | false =>
          have : k ∉ l.toList.map keyOf := fun z => by rw [this.2 z] at hs'; cases hs'
          simp [this]
/-- the empty one -/
theorem setE_fresh {h : Heap} (hN : h.get? a = some (Dp.freshSet w)) : SetE w h a (fun _ => false) 0 := by
  refine ⟨_, #[], 0, .fresh 0 0 (!w.params.followText "set-order"), ⟨hN, ⟨rfl, rfl, rfl⟩, rfl, fun e he => (by cases he), List.nodup_nil, fun k => by simp, by decide, rfl, rfl, List.Pairwise.nil, ?_⟩, fun _ => ⟨rfl, rfl⟩⟩
  show w.params.followText "set-order" = true ∨ (!w.params.followText "set-order") = true
  cases w.params.followText "set-order" <;> simp
theorem type_of_set {h : Heap} (R : SetR w h b S m) : ∃ o, h.get? b = some o ∧ o.cls = .type "set" := by
  obtain ⟨o, es, ep, t, R⟩ := R.st
  exact ⟨o, R.ho, R.ex.1⟩
theorem newSet_ok {Q : Value → Shared → Prop} (h : Q (.ref s.heap.objs.size) { s with heap := s.heap.push (Dp.freshSet w) }) : wpAny (model P w) A (newSet (.type "set")) Q E s := by
  unfold newSet
  refine wpAny_bind (wpAny_byText ?_)
  dsimp only
  simp only [newObj]
  exact wpAny_bind (wpAny_alloc (wpAny_pure h))
theorem copy_ok (R : SetR w s.heap b S m) (few : m ≤ 63) {Q : Value → Shared → Prop}
    (hQ : ∀ h' c, (∀ x u, s.heap.get? x = some u → h'.get? x = some u) → SetE w h' s.heap.objs.size S c → c ≤ m → Q (.ref s.heap.objs.size) { s with heap := h' }) :
    wpAny (model P w) A (Builtin.Frozenset.copyOf b) Q E s := by
  obtain ⟨o, ho, hc⟩ := type_of_set R
  unfold Builtin.Frozenset.copyOf Builtin.Frozenset.baseOf
  refine wpAny_bind (wpAny_bind (wpAny_isInstance (b := true) (T := "set") ⟨o, ho, hc⟩ sub_set_self (wpAny_pure ?_)))
  show wpAny _ _ (newSet (.type "set") >>= _) _ _ _
  refine wpAny_bind (newSet_ok ?_)
  generalize hN : s.heap.objs.size = N at hQ ⊢
  show wpAny _ _ (Builtin.Frozenset.addrOf (.ref N) >>= _) _ _ _
  refine wpAny_bind (wpAny_pure ?_)
  have hb : b < N := by rw [← hN]; exact Heap.lt_size ho
  have gN : (s.heap.push (Dp.freshSet w)).get? N = some (Dp.freshSet w) := hN ▸ Heap.get?_push_size _ rfl
  have kp : ∀ x u, s.heap.get? x = some u → (s.heap.push (Dp.freshSet w)).get? x = some u := fun x u e => Heap.get?_push_of_some _ e
  refine wpAny_bind (merge_ok (s := { s with heap := s.heap.push (Dp.freshSet w) }) (n := 0) (setE_fresh gN) (R.at fun u e => kp _ _ e) (Nat.ne_of_gt hb) (by omega) (fun h' Q' _ q => wpAny_pure q) fun h' c sb RE hc => ?_)
  refine wpAny_pure (hQ h' c (fun x u e => ?_) ?_ (by omega))
  · have hx : x < N := by rw [← hN]; exact Heap.lt_size e
    rw [sb.2 x (Nat.ne_of_lt hx)]
    exact kp x u e
  · have e : (fun j => false || S j) = S := funext fun j => Bool.false_or _
    rw [e] at RE
    exact RE
theorem typeIs_set {h : Heap} {s : Shared} (e : s.heap = h) (R : SetR w h b S m) : s.TypeIs (.ref b) "set" := by
  subst e
  obtain ⟨o, ho, hc⟩ := type_of_set R
  exact ⟨o, ho, hc⟩
theorem anySet_ok (R : SetR w s.heap b S m) {Q : Bool → Shared → Prop} (h : Q true s) : wpAny (model P w) A (Builtin.Frozenset.isAnySet (.ref b)) Q E s := by
  unfold Builtin.Frozenset.isAnySet
  refine wpAny_bind (wpAny_isInstance (b := true) (typeIs_set rfl R) sub_set_self ?_)
  exact wpAny_pure h
theorem update_set (R0 : SetE w s.heap a S n) (R' : SetR w s.heap b S' m) (hne : a ≠ b) (few : n + m ≤ 63) (id : String)
    {Q : Unit → Shared → Prop} (hQ : ∀ h' c, Heap.SameBut a s.heap h' → SetE w h' a (fun j => S j || S' j) c → c ≤ n + m → Q () { s with heap := h' }) :
    wpAny (model P w) A (Builtin.Frozenset.updateFrom id a (.ref b)) Q E s := by
  obtain ⟨o', es', ep', t', R2⟩ := R'.st
  unfold Builtin.Frozenset.updateFrom
  refine wpAny_bind (anySet_ok R' ?_)
  refine wp_if_pos rfl ?_
  show wpAny _ _ (Builtin.Frozenset.addrOf (.ref b) >>= _) _ _ _
  refine wpAny_bind (wpAny_pure ?_)
  unfold Builtin.Frozenset.merge
  refine wpAny_bind (wpAny_setEpoch_of R2.ho R2.hd R2.fits ?_)
  refine merge_ok R0 R' hne few (fun h' Q' sb q => ?_) hQ
  have R4 := R2.move (h' := h') (sb.2 b (fun z => hne z.symm))
  unfold Builtin.Frozenset.unchanged
  refine wpAny_bind (wpAny_setEpoch_of (s := { s with heap := h' }) R4.ho R4.hd R4.fits ?_)
  refine wp_if_neg (by simp) ?_
  exact wpAny_pure q
theorem entry_set_or : entryFor table "set.__or__" = some Builtin.«frozenset.__or__» :=
  entryFor_alias (id' := "frozenset.__or__") (by kernel_rfl) rfl (by decide +kernel) (by kernel_rfl)
theorem or_eq (l r : Value) : Builtin.«frozenset.__or__» ⟨[l, r], []⟩ = (do
    let (self, other) ← Builtin.Frozenset.slot1 "__or__" ⟨[l, r], []⟩
    if !(← Builtin.Frozenset.isAnySet self <&&> Builtin.Frozenset.isAnySet other) then rule s!"frozenset.{"__or__"}.declined"; return ← ret .notImplemented
    let x ← Builtin.Frozenset.addrOf self
    let v ← (do
      let result ← Builtin.Frozenset.copyOf x
      if other != .ref x then holding [result] (Builtin.Frozenset.updateFrom s!"frozenset.{"__or__"}" (← Builtin.Frozenset.addrOf result) other)
      return result : Sem Value)
    ret v) := by rfl
theorem or_sets (Ra : SetR w s.heap a S n) (Rb : SetR w s.heap b S' m) (hne : a ≠ b) (few : n + m ≤ 63) {Q : Value → Shared → Prop}
    (hQ : ∀ h' c, (∀ x u, s.heap.get? x = some u → h'.get? x = some u) → SetE w h' s.heap.objs.size (fun j => S j || S' j) c → c ≤ n + m → Q (.ref s.heap.objs.size) { s with heap := h' }) :
    wpAny (model P w) A (binaryOp .BitOr (.ref a) (.ref b)) Q E s := by
  refine wpAny_binaryOp_same (op := .BitOr) (T := "set") (typeIs_set rfl Ra) (typeIs_set rfl Rb) PySem.F.fills_set_or PySem.F.slot_set_or (wpAny_call_entry PySem.F.slot_set_or (typeIs_set rfl Ra) entry_set_or ?_ (PySem.F.args_set_or_2 _ _))
  rw [or_eq]
  refine wpAny_bind (m := Builtin.Frozenset.slot1 _ _) (wpAny_pure ?_)
  refine wpAny_bind (wpAny_bind (anySet_ok Ra ?_))
  show wpAny _ _ (Builtin.Frozenset.isAnySet (.ref b)) _ _ _
  refine anySet_ok Rb ?_
  refine wp_if_neg (by decide) ?_
  show wpAny _ _ (Builtin.Frozenset.addrOf (.ref a) >>= _) _ _ _
  refine wpAny_bind (wpAny_pure ?_)
  refine wpAny_bind (wpAny_bind (copy_ok Ra (by omega) fun h1 c1 k1 R1 hc1 => ?_))
  generalize hN : s.heap.objs.size = N at hQ R1 ⊢
  have hb : b < N := by rw [← hN]; exact Rb.lt
  refine wp_if_pos (by simp [hne.symm]) ?_
  show wpAny _ _ (Builtin.Frozenset.addrOf (.ref N) >>= _) _ _ _
  refine wpAny_bind (wpAny_pure ?_)
  refine wpAny_bind (wpAny_holding (update_set (s := { s with heap := h1 }) R1 (Rb.at fun u e => k1 _ _ e) (Nat.ne_of_gt hb) (by omega) _ fun h2 c2 sb R2 hc2 => ?_))
  refine wpAny_pure ?_
  show wpAny _ _ (ret (Value.ref N)) _ _ _
  refine wpAny_pure ⟨_, rfl, by simp, hQ h2 c2 (fun x u e => ?_) R2 (by omega)⟩
  have hx : x < N := by rw [← hN]; exact Heap.lt_size e
  rw [sb.2 x (Nat.ne_of_lt hx)]
  exact k1 x u e
end
end L2

set_option maxHeartbeats 4000000
namespace L2
open PySem PySem.Spec PyProof.Rows
section
variable {P : Program} {w : World} {A : Around} {E : Value → Shared → Prop} {s : Shared}
variable {a b : Addr} {S S' : Int → Bool} {n m : Nat}
/-- the dict's whole numbers put into a set -/
theorem update_dict {d : Addr} {o : Obj} {es : Array DictEntry} {ep : Nat} {ks : List Int} (R0 : SetE w s.heap a (fun _ => false) 0) (ho : s.heap.get? d = some o) (hc : o.cls = .type "dict") (hd : o.data = .dict es ep) (hl : es.size = ks.length)
    (he : ∀ (i : Nat) (e : DictEntry), es[i]? = some e → ∃ k t, ks[i]? = some k ∧ e.key = Value.int k t ∧ e.hash = hashInt k) (hsys : (d == sysModules) = false) (hne : a ≠ d) (few : ks.length ≤ 63) (id : String)
    {Q : Unit → Shared → Prop} (hQ : ∀ h' c, Heap.SameBut a s.heap h' → SetE w h' a (fun j => decide (j ∈ ks)) c → c ≤ ks.length → Q () { s with heap := h' }) :
    wpAny (model P w) A (Builtin.Frozenset.updateFrom id a (.ref d)) Q E s := by
  obtain ⟨o1, es1, ep1, t1, R1, z1⟩ := R0
  have hsb : scanBound = 4096 := rfl
  have hT : s.TypeIs (.ref d) "dict" := ⟨o, ho, hc⟩
  unfold Builtin.Frozenset.updateFrom Builtin.Frozenset.isAnySet
  refine wpAny_bind (wpAny_bind (wpAny_isInstance (b := false) hT PySem.F.sub_dict_set ?_))
  show wpAny _ _ (isInstance (.ref d) (.type "frozenset")) _ _ _
  refine wpAny_isInstance (b := false) hT PySem.F.sub_dict_frozenset ?_
  refine wp_if_neg (by decide) ?_
  try refine wpAny_bind (wpAny_pure ?_)
  refine wpAny_bind (wpAny_typeOf hT ?_)
  refine wp_if_pos (by decide) ?_
  refine wpAny_bind (wpAny_rule ?_)
  show wpAny _ _ (Builtin.Frozenset.addrOf (.ref d) >>= _) _ _ _
  refine wpAny_bind (wpAny_pure ?_)
  refine wp_if_neg (by rw [hsys]; decide) ?_
  try refine wpAny_bind (wpAny_pure ?_)
  refine wpAny_bind (wpAny_dictEpoch ho hd ?_)
  refine wpAny_bind (wpAny_dictEntries ho hd ?_)
  rw [hl]
  refine wpAny_bind (room_ok R1 (m := ks.length) (by omega) fun h2 o2 es2 ep2 t2 sb2 R2 z2 => ?_)
  have eb : ∀ {h' : Heap}, Heap.SameBut a s.heap h' → h'.get? d = some o := fun sb => (sb.2 d (fun z => hne z.symm)).trans ho
  refine wpAny_bind (wpAny_dictEntries (eb sb2) hd ?_)
  rw [hl]
  obtain ⟨f2, _, _, m2⟩ := z2 rfl (z1 rfl).1 (z1 rfl).2
  refine wpAny_bind (wpAny_mono (PySem.SeqAt.wpAny_forIn_span 0 ks.length _ (fun i _ s1 => ∃ h1 c, s1 = { s with heap := h1 } ∧ Heap.SameBut a s.heap h1 ∧ SetR w h1 a (fun j => decide (j ∈ ks.take i)) c ∧ c ≤ i ∧ (i ≠ 0 → 0 < c) ∧ (i = 0 → h1 = h2)) (fun _ s' => Q () s') ?_ ?_ _ ⟨h2, 0, rfl, sb2, ?_, Nat.le_refl _, fun z => absurd rfl z, fun _ => rfl⟩) (fun _ _ h => wpAny_pure h) fun _ _ x => x)
  · rintro i _ s1 h0 hi ⟨h1, c, rfl, sb, RE, hc1, _, _⟩
    refine wpAny_bind (wpAny_dictEntries (eb sb) hd ?_)
    obtain ⟨e, ei⟩ : ∃ e, es[i]? = some e := ⟨_, Array.getElem?_eq_getElem (by omega)⟩
    obtain ⟨k, t, e1, e2, e3⟩ := he i e ei
    rw [ei]
    dsimp only
    rw [e2, e3]
    refine wpAny_bind (wpAny_holding (setR_add_hashed RE (by rw [hsb]; omega) fun h3 sb3 R3 => ?_))
    refine wpAny_bind (wpAny_dictEpoch (eb (sb.trans sb3)) hd ?_)
    refine wp_if_neg (by simp) ?_
    have et : ks.take (i + 1) = ks.take i ++ [k] := by rw [List.take_add_one, e1]; rfl
    have hcc : 0 < (if (fun j => decide (j ∈ ks.take i)) k = true then c else c + 1) := by
      split
      · rename_i hk
        rcases Nat.eq_zero_or_pos c with z | z
        · subst z
          obtain ⟨o5, es5, ep5, t5, R5⟩ := RE.st
          exact absurd (((R5.els (List.Perm.refl _)).none k).symm.trans hk) (by decide)
        · exact z
      · omega
    refine wpAny_pure ⟨h3, _, rfl, sb.trans sb3, SetR.congr R3 fun j => ?_, ?_, fun _ => hcc, fun z => absurd z (Nat.succ_ne_zero _)⟩
    · rw [et]
      by_cases hj : j = k <;> simp [hj]
    · split <;> omega
  · rintro _ s1 ⟨h1, c, rfl, sb, RE, hc1, hc2, hc3⟩
    have em : max 0 ks.length = ks.length := by omega
    rw [em] at RE hc1 hc2 hc3
    rw [List.take_length] at RE
    by_cases hz : ks.length = 0
    · have ek : ks = [] := List.eq_nil_of_length_eq_zero hz
      rw [hc3 hz]
      subst ek
      refine hQ h2 0 sb2 ⟨o2, es2, ep2, t2, ⟨R2.ho, R2.ex, R2.hd, R2.good, R2.nd, fun k => ?_, R2.lt, R2.fits, R2.n, R2.ris, R2.led⟩, fun _ => ⟨m2 rfl, f2⟩⟩ (Nat.le_refl _)
      rw [← R2.mem k]; simp
    · exact hQ h1 c sb (RE.e (hc2 hz)) hc1
  · have e0 : (fun j => decide (j ∈ ks.take 0)) = (fun _ : Int => false) := funext fun j => by simp
    rw [e0]
    exact R2.r
theorem call_set_dict {d : Addr} {o : Obj} {es : Array DictEntry} {ep : Nat} {ks : List Int} (hh : A.handled = none) (ho : s.heap.get? d = some o) (hc : o.cls = .type "dict") (hd : o.data = .dict es ep) (hl : es.size = ks.length)
    (he : ∀ (i : Nat) (e : DictEntry), es[i]? = some e → ∃ k t, ks[i]? = some k ∧ e.key = Value.int k t ∧ e.hash = hashInt k) (hsys : (d == sysModules) = false) (few : ks.length ≤ 63) {Q : Value → Shared → Prop}
    (hQ : ∀ h' tk c, (∀ x u, s.heap.get? x = some u → h'.get? x = some u) → SetE w h' s.heap.objs.size (fun j => decide (j ∈ ks)) c → c ≤ ks.length → Q (.ref s.heap.objs.size) { s with heap := h', toks := tk }) :
    wpAny (model P w) A (call (.type "set") [.ref d]) Q E s := by
  generalize hN : s.heap.objs.size = N at hQ
  have gN : (s.heap.push (Dp.freshSet w)).get? N = some (Dp.freshSet w) := hN ▸ Heap.get?_push_size _ rfl
  have dN : d < N := hN ▸ Heap.lt_size ho
  refine Dp.call_setA (G := fun h' => ∃ c, SetE w h' N (fun j => decide (j ∈ ks)) c ∧ c ≤ ks.length ∧ ∀ x u, s.heap.get? x = some u → h'.get? x = some u) hh (fun A' R E' hn' hR => ?_) fun h1 tk ⟨c, g1, g2, g3⟩ => by rw [hN]; exact hQ h1 tk c g3 g1 g2
  rw [hN]
  refine update_dict (s := { s with heap := s.heap.push (Dp.freshSet w) }) (setE_fresh gN) (Heap.get?_push_of_some _ ho) hc hd hl he hsys (Nat.ne_of_gt dN) few _ fun h' c sb RE hc' => ?_
  refine hR h' s.toks ⟨c, RE, hc', fun x u e => ?_⟩
  have hx : x < N := hN ▸ Heap.lt_size e
  rw [sb.2 x (Nat.ne_of_lt hx)]
  exact Heap.get?_push_of_some _ e
/-- a set of whole numbers, seen by the members that were put in -/
def SetEO (w : World) (a : Addr) (ns : List Int) : HO := .ext fun h => ∃ c, SetE w h a (fun j => decide (j ∈ ns)) c ∧ c ≤ ns.length
theorem setEO_new {H : Hp} {h : Heap} {ns : List Int} {c : Nat} (R : SetE w h a (fun j => decide (j ∈ ns)) c) (hc : c ≤ ns.length) : ObjOk P w H h a (SetEO w a ns) := by
  have ⟨o, _, _, _, ho, _⟩ := R
  exact ⟨⟨c, R, hc⟩, ⟨o, ho.ho⟩, fun h1 h2 ⟨c, p, q⟩ k => ⟨c, p.at k, q⟩⟩
end
section
variable {X : Cx}
theorem setEO_get {pins : List (Addr × Obj)} {σ : St} {H : Hp} {s : Shared} {a : Addr} {ns : List Int} (I : Inv X pins σ H s) (ha : H a = some (SetEO X.w a ns)) : ∃ c, SetE X.w s.heap a (fun j => decide (j ∈ ns)) c ∧ c ≤ ns.length := (I.hok a _ ha).1
theorem pairs_len {P : Program} {w : World} {es : List DictEntry} {kvs : List (Key × Value)} (h : Pairs (mixKind P w) es kvs) : es.length = kvs.length := by
  induction h with
  | nil => rfl
  | cons _ _ _ ih => simp [ih]
theorem pairs_at {P : Program} {w : World} {es : List DictEntry} {kvs : List (Key × Value)} (h : Pairs (mixKind P w) es kvs) : ∀ (i : Nat) (e : DictEntry), es[i]? = some e → ∃ kv : Key × Value, kvs[i]? = some kv ∧ (mixKind P w).is kv.1 e.key = true := by
  induction h with
  | nil => intro i e h; simp at h
  | cons h1 _ _ ih =>
    intro i e h
    cases i with
    | zero => simp at h; subst h; exact ⟨_, rfl, h1⟩
    | succ i => exact ih i e (by simpa using h)
/-- set(d), the keys whole numbers -/
theorem cr_setD (hc : X.calm = true) : CallR X (.type "set") (fun xs H Q => ∃ (d : Addr) (kvs : List (Key × V)) (ks : List Int), xs = [.ref d] ∧ Rd H d (.dK kvs) ∧ kvs.map (·.1) = ks.map Sum.inl ∧ ks.length ≤ 63 ∧ ∀ p, H p = none → Q (.ref p) (upd H p (SetEO X.w p ks))) := by
  intro pins s σ H xs us Q I r q
  obtain ⟨d, kvs, ks, rfl, hd, hks, few, q⟩ := q
  obtain ⟨u, rfl, rx⟩ := vals1 r
  cases rx
  obtain ⟨z, hsys, vs, rel, dd⟩ := dk_rd I.hok hd
  obtain ⟨o, es, ep, ho, hex, hdt, hko, hp, hn⟩ := dd
  have hkeys : vs.map (·.1) = ks.map Sum.inl := rel.keys.symm.trans hks
  have hl : es.size = ks.length := by
    have e := congrArg List.length hkeys
    rw [List.length_map, List.length_map] at e
    rw [← Array.length_toList, pairs_len hp, e]
  refine call_set_dict (ks := ks) (I.ok.hd hc) ho hex.1 hdt hl (fun i e hi => ?_) hsys few fun h' tk c k R hc' => ?_
  · obtain ⟨kv, e1, e2⟩ := pairs_at hp i e (by rw [Array.getElem?_toList]; exact hi)
    have e3 : (vs.map (·.1))[i]? = some kv.1 := by rw [List.getElem?_map, e1]; rfl
    rw [hkeys, List.getElem?_map] at e3
    cases e4 : ks[i]? with
    | none => rw [e4] at e3; cases e3
    | some y =>
      rw [e4] at e3
      have e5 : Sum.inl y = kv.1 := Option.some.inj e3
      rw [← e5] at e2
      obtain ⟨k2, g1, g2⟩ := hko e (Array.mem_of_getElem? hi)
      rcases keyIs_shape (show keyIs (Sum.inl y) e.key = true from e2) with ⟨j, t, ek, ev⟩ | ⟨z, t, ek, ev⟩
      · cases ek
        refine ⟨y, t, rfl, ev, ?_⟩
        have : k2 = Sum.inl y := (mixKind X.prog X.w).inj _ _ _ g1 e2
        rw [g2, this]; rfl
      · cases ek
  · exact ⟨.ref _, upd H s.heap.objs.size (SetEO X.w s.heap.objs.size ks), I.laid (t' := tk) k (Nat.le_refl _) (setEO_new R hc'), rfl, q _ (I.hok.fresh (Nat.le_refl _))⟩
end
end L2
namespace Dp
open PySem PySem.Spec PyProof.Rows L2
/-! ### sets that are made, put together and sorted -/
abbrev ESt := Dp.Loc → Mem → Res (List Int)
def liftSt (K : PySem.W.Frag) (w : World) (W : WX) (m : ESt) : TE := fun σ H Q => ∃ φ ρ μ, RepL K φ H σ ρ ∧ Rel K φ H μ ∧ OutG K W σ φ H (fun ns _ φ' H' => ∀ a, H' a = none → Q (.ref a) (upd H' a (SetEO w a ns))) (m ρ μ)
/-- set(d), the keys of a dict -/
def St.ofD (e : EE) : ESt := fun ρ μ => (e ρ μ).bind fun d μ => match seeD μ d with
  | some (ks, _) => (match Op.intKeys ks with
    | some ns => if ns.length ≤ 63 then .ok ns μ else .bad
    | none => .bad)
  | none => .bad
def St.or (a b : ESt) : ESt := fun ρ μ => (a ρ μ).bind fun x μ => (b ρ μ).bind fun y μ => if x.length + y.length ≤ 63 then .ok (x ++ y) μ else .bad
/-- sorted(..) of it -/
def E.sst (m : ESt) : EE := fun ρ μ => (m ρ μ).bind fun ns μ => if ns.length ≤ 63 then .ok (.lst ((ssetL ns).map .int)) μ else .bad
section
variable {X : Cx} {W : WX} {p p2 q pos : Pos} {a b : Expr} {ma mb : ESt} {me : EE}
theorem pst_ofD (hc : X.calm = true) (hg2 : Gl X "set") (hm2 : X.mg "set" = none) (ha : PE X a (lift X.K W me)) (na : starEach [a] X.env = (false, eval a X.env) :: starEach [] X.env := by rfl) :
    PE X (.Call (.Name "set" p2) [a] [] q) (liftSt X.K X.w W (St.ofD me)) := by
  refine ⟨fun pins s σ H Q I ⟨φ, ρ, μ, hl, hr, o⟩ => ?_⟩
  refine Call_ (ld_blt I hg2 hm2 boot_set ?_)
  refine callWith_type1 (args_cons (use ha I hl hr (OutG.bind o) fun v s1 x H1 d μ1 φ1 I1 r1 e1 m1 p1 o1 => args_nil ?_) na) na rfl
  split at o1
  · rename_i ks xs hd
    split at o1
    · rename_i ns hks
      split at o1
      · rename_i few
        obtain ⟨a, vs, rfl, hH, hlen, rr⟩ := seeD_rep m1 p1 hd
        refine cr_setD hc pins s1 σ H1 [.ref a] [v] Q I1 (.cons r1 .nil) ⟨a, _, ns, rfl, hH, ?_, few, fun p hp => o1 φ1 H1 Ext.refl m1 p hp⟩
        rw [List.map_fst_zip (by rw [hlen, rr.length]; exact Nat.le_refl _), intKeys_map hks]
      · exact o1.elim
    · exact o1.elim
  · exact o1.elim
theorem OutG.rb {α β : Type} {K : PySem.W.Frag} {W : WX} {σ : L2.St} {φ : Pl} {H : Hp} {G : β → Mem → Pl → Hp → Prop} {r : Res α} {f : α → Mem → Res β} (o : OutG K W σ φ H G (r.bind f)) : OutG K W σ φ H (fun a μ' φ' H' => OutG K W σ φ' H' G (f a μ')) r := OutG.bind o
theorem pst_or (ha : PE X a (liftSt X.K X.w W ma)) (hb : PE X b (liftSt X.K X.w W mb)) : PE X (.BinOp a .BitOr b pos) (liftSt X.K X.w W (St.or ma mb)) := by
  refine ⟨fun pins s σ H Q I ⟨φ, ρ, μ, hl, hm, o⟩ => wpAny_BinOp (bin ha hb (R := fun x y H2 => ∃ p q ns ms, x = .ref p ∧ y = .ref q ∧ p ≠ q ∧ H2 p = some (SetEO X.w p ns) ∧ H2 q = some (SetEO X.w q ms) ∧ ns.length + ms.length ≤ 63 ∧
    (∀ r, H2 r = none → Q (.ref r) (upd H2 r (SetEO X.w r (ns ++ ms))))) I ⟨φ, ρ, μ, hl, hm, (OutG.bind o).imp fun ns μ1 φ1 H1 e1 m1 o1 p hp => ?_⟩ fun v u s2 x y H2 I2 rx ry hR => ?_)⟩
  · have eF : Ext φ1 H1 φ1 (upd H1 p (SetEO X.w p ns)) := Ext.fresh hp
    refine ⟨φ1, ρ, μ1, (hl.ext e1).ext eF, m1.fresh hp, (OutG.bind (o1.ext eF)).imp fun ms μ2 φ2 H2 e2 m2 o2 q hq => ?_⟩
    have hpn : p ∉ φ1.pl := m1.notin hp
    have hp2 : H2 p = some (SetEO X.w p ns) := e2.keep p _ upd_same hpn
    have hne : p ≠ q := fun z => by rw [z, hq] at hp2; cases hp2
    split at o2
    · rename_i few
      exact ⟨p, q, ns, ms, rfl, rfl, hne, by rw [upd_ne hne]; exact hp2, upd_same, few, fun r hr => o2 φ2 _ (Ext.fresh hq) (m2.fresh hq) r hr⟩
    · exact o2.elim
  · obtain ⟨p, q, ns, ms, rfl, rfl, hne, hp, hq, few, fin⟩ := hR
    cases rx
    cases ry
    obtain ⟨c1, R1, l1⟩ := setEO_get I2 hp
    obtain ⟨c2, R2, l2⟩ := setEO_get I2 hq
    refine or_sets R1.r R2.r hne (by omega) fun h' c k R hc' => ?_
    have R' : SetE X.w h' s2.heap.objs.size (fun j => decide (j ∈ ns ++ ms)) c := by
      have e : (fun j => decide (j ∈ ns) || decide (j ∈ ms)) = (fun j => decide (j ∈ ns ++ ms)) := funext fun j => by rw [Bool.eq_iff_iff]; simp
      rw [← e]; exact R
    exact ⟨.ref _, upd H2 s2.heap.objs.size (SetEO X.w s2.heap.objs.size (ns ++ ms)), I2.laid (t' := s2.toks) k (Nat.le_refl _) (setEO_new R' (by rw [List.length_append]; omega)), rfl, fin _ (I2.hok.fresh (Nat.le_refl _))⟩
theorem se_sst {e : Expr} {m : ESt} (hc : X.calm = true) (hg : Gl X "sorted") (hm : X.mg "sorted" = none) (he : PE X e (liftSt X.K X.w W m)) (na : starEach [e] X.env = (false, eval e X.env) :: starEach [] X.env := by rfl) :
    PE X (.Call (.Name "sorted" p) [e] [] pos) (lift X.K W (E.sst m)) := by
  refine ⟨fun pins s σ H Q I ⟨φ, ρ, μ, hl, hr, o⟩ => ?_⟩
  refine Call_ (ld_blt I hg hm boot_sorted (callWith_builtin1 (args_cons ?_ na) na rfl))
  refine thn (he.run pins s σ H (fun v H2 => ∃ p ns φ1 H1 μ1, v = .ref p ∧ H1 p = none ∧ H2 = upd H1 p (SetEO X.w p ns) ∧ Ext φ H φ1 H1 ∧ Rel X.K φ1 H1 μ1 ∧ OutG X.K W σ φ1 H1 (GV X.K Q) (if ns.length ≤ 63 then .ok (.lst ((ssetL ns).map .int)) μ1 else .bad)) I ⟨φ, ρ, μ, hl, hr, (OutG.bind o).imp fun ns μ1 φ1 H1 e1 m1 o1 p hp => ⟨p, ns, φ1, H1, μ1, rfl, hp, rfl, e1, m1, o1⟩⟩) ?_
  rintro v s1 ⟨x, H2, I1, rx, q, ns, φ1, H1, μ1, rfl, hp, rfl, e1, m1, o1⟩
  cases rx
  refine args_nil ?_
  split at o1
  · rename_i few
    obtain ⟨c, RE, hcl⟩ := setEO_get I1 upd_same
    have R := RE.r
    have eF : Ext φ1 H1 φ1 (upd H1 q (SetEO X.w q ns)) := Ext.fresh hp
    refine sorted_set R (I1.ok.hd hc) (by omega) fun s' p out c2 ys k g o2 hp' hgt hi hs hmm hln => ?_
    have hlen : (ys.map V.int).length ≤ sizeLine := by rw [List.length_map, hln, sizeLine_eq]; omega
    have hn : (upd H1 q (SetEO X.w q ns)) p = none := I1.hok.fresh hp'
    have J : Inv X pins σ (upd (upd H1 q (SetEO X.w q ns)) p (.lst (ys.map V.int))) { s1 with heap := s'.heap, gens := s'.gens, drawn := s'.drawn, toks := s'.toks } :=
      I1.call (ch := []) (Un.laid k hp' hn) (I1.hok.laid k hp' ⟨hlen, out.toList, c2, vals_of_ints hi, hgt⟩) (by rw [g]; exact I1.bare) (fun _ z => nomatch z)
    have e : s' = { s1 with heap := s'.heap, gens := s'.gens, drawn := s'.drawn, toks := s'.toks } := by
      cases s'
      cases o2
      rfl
    rw [e]
    have ey : ys = ssetL ns := strict_ext hs (ssetL_pw ns) fun z => by rw [hmm z, ssetL_mem, decide_eq_true_eq]
    subst ey
    have m2 := m1.fresh (o := SetEO X.w q ns) hp
    exact ⟨.ref p, _, J, rfl, o1 φ1 _ (eF.trans (Ext.fresh hn)) (m2.fresh hn) _ (rep_lst upd_same (m2.out hn) (repAll_ints _))⟩
  · exact o1.elim
end
end Dp

namespace Dp
open PySem PySem.Spec PyProof.Rows L2
/-! ### list(x), x a dict too -/
def F.listU (ds : List D) (μ : Mem) : Res D := match ds with
  | [d] => (match seeD μ d with
    | some (ks, _) => .ok (.lst (ks.map keyV)) μ
    | none => F.list [d] μ)
  | _ => .bad
theorem repAll_keyV {K : PySem.W.Frag} {φ : Pl} {H : Hp} : ∀ ks : List Key, RepAll K φ H (ks.map kV) (ks.map keyV)
  | [] => RepAll.nil_
  | k :: ks => RepAll.cons_ (rep_keyV k) (repAll_keyV ks)
section
variable {X : Cx} {W : WX}
theorem calls_listU (hc : X.calm = true) : CallS X W (.type "list") F.listU := by
  intro pins s σ H φ μ xs us ds Q I rv hm rs o
  unfold F.listU at o
  split at o
  · rename_i d
    split at o
    · rename_i ks ws hd
      obtain ⟨v, u, rfl, rfl, r1, hv⟩ := one_val rv rs
      obtain ⟨a, vs, rfl, hH, hlen, rr⟩ := seeD_rep hm hv hd
      refine call_listD hc pins s σ H _ _ Q I rv ⟨a, _, rfl, hH, fun p hn => ?_⟩
      have e : ((ks.zip vs).map fun kv => kV kv.1) = ks.map kV := by
        have := List.map_fst_zip (l₁ := ks) (l₂ := vs) (by rw [hlen, rr.length]; exact Nat.le_refl _)
        have e2 : ((ks.zip vs).map fun kv => kV kv.1) = ((ks.zip vs).map Prod.fst).map kV := by rw [List.map_map]; rfl
        rw [e2, this]
      rw [e]
      exact o φ _ (Ext.fresh hn) (hm.fresh hn) _ (rep_lst upd_same (hm.out hn) (repAll_keyV ks))
    · exact calls_list pins s σ H φ μ xs us _ Q I rv hm rs o
  · exact o.elim
end
end Dp

namespace Dp
open PySem PySem.Spec PyProof.Rows L2
/-! ### bent data: what a value with something put otherwise may be (whole numbers up to B) -/
structure BT (B : Nat) (v d : D) : Prop where
  lf : lfI B d = true
  dp : dpt d ≤ dpt v + 2
  bk : blk d ≤ 3 * blk v + 200
section
variable {A B : Nat} {v d : D}
theorem BT.dat (hB : B ≤ 10 ^ 55) (h : BT B v d) {n b : Nat} (h1 : dpt v + 2 ≤ n) (h2 : 3 * blk v + 200 ≤ b) : Dat n b d := ⟨lfI_lf hB d h.lf, Nat.le_trans h.dp h1, Nat.le_trans h.bk h2⟩
theorem BT.nr (hB : B ≤ 10 ^ 55) (h : BT B v d) : d.nr = true := pl_nr _ (lf_pl _ (lfI_lf hB d h.lf))
theorem of_ltS (s : String) : ((Str.ofString s).cps.toList.all fun c => decide (c < 1114112)) = true := by
  rw [List.all_eq_true]
  intro c hc
  rw [Str.ofString_eq_toList] at hc
  simp at hc
  obtain ⟨a, _, rfl⟩ := hc
  refine decide_eq_true ?_
  rcases a.valid with h | h
  · exact Nat.lt_trans h (by decide)
  · exact h.2
theorem str_textI {i : Int} (h : i.natAbs ≤ 10 ^ 55) : ∃ s : Str, (∀ μ, F.str [.int i] μ = .ok (.str s) μ) ∧ (s.cps.toList.all fun c => decide (c < 1114112)) = true ∧ s.length ≤ 60 := by
  have hb : i.natAbs < 10 ^ 56 := Nat.lt_of_le_of_lt h (by decide)
  have l1 := PySem.int_text_length_le10 (a := i) (k := 56) (by decide) hb
  have l2 : i.natAbs.log2 ≤ 250 := log2_le (by have e : (2:Nat) ^ 250 = 1809251394333065553493296640760748560207343510400633813116524750123642650624 := by decide
                                               omega)
  refine ⟨toString i, fun μ => ?_, of_ltS _, ?_⟩
  · show (if i.natAbs.log2 < 1920 then _ else _) = _
    rw [if_pos (by omega)]
  · show (Str.ofString (toString i)).length ≤ _
    rw [PySem.ofString_length]; omega
theorem bt_int {i : Int} (h : i.natAbs ≤ B) : BT B v (.int i) := ⟨by rw [lfI_int]; exact decide_eq_true h, by simp, by simp⟩
theorem bt_bl {b : Bool} : BT B v (.bl b) := ⟨by simp, by simp, by simp⟩
theorem bt_non : BT B v .non := ⟨by simp, by simp, by simp⟩
theorem bt_text {x : Str} (h : (x.cps.toList.all fun c => decide (c < 1114112)) = true) (hl : x.length ≤ 3 * blk v + 200) : BT B v (.str x) := ⟨by rw [lfI]; exact h, by simp, by simp; exact hl⟩
theorem bt_lit (s : String) (h : (Str.ofString s).length ≤ 200) : BT B v (.str s) := bt_text (of_ltS s) (by omega)
theorem bt_nil : BT B v (.tup []) := ⟨by simp, by simp, by simp⟩
theorem bt_lnil : BT B v (.lst []) := ⟨by simp, by simp, by simp⟩
theorem bt_same (hAB : A ≤ B) (h : lfI A v = true) : BT B v v := ⟨lfI_mono hAB v h, by omega, by omega⟩
theorem bt_wrap (hAB : A ≤ B) (h : lfI A v = true) : BT B v (.tup [v]) := ⟨by rw [lfI_tup, lfIAll_cons, lfI_mono hAB v h]; simp, by simp, by simp; omega⟩
/-- anything shallow -/
theorem bt_flat {e : D} (h1 : lfI B e = true) (h2 : dpt e ≤ dpt v + 2) (h3 : blk e ≤ 200) : BT B v e := ⟨h1, h2, by omega⟩
theorem bt_items {xs ys : List D} (hAB : A ≤ B) (hl : lfIAll A xs = true) (h : ∀ d ∈ ys, d ∈ xs) (hb : blkAll ys ≤ 3 * blkAll xs + 200) : BT B (.tup xs) (.tup ys) ∧ BT B (.tup xs) (.lst ys) ∧ BT B (.lst xs) (.tup ys) ∧ BT B (.lst xs) (.lst ys) := by
  have a : lfIAll B ys = true := lfIAll_iff.mpr fun d hd => lfI_mono hAB d (lfIAll_iff.mp hl d (h d hd))
  have b : dptAll ys ≤ dptAll xs := dptAll_le fun d hd => dpt_mem (h d hd)
  exact ⟨⟨by rw [lfI_tup]; exact a, by rw [dpt_tup, dpt_tup]; omega, by rw [blk_tup, blk_tup]; exact hb⟩, ⟨by rw [lfI_lst]; exact a, by rw [dpt_lst, dpt_tup]; omega, by rw [blk_lst, blk_tup]; exact hb⟩,
    ⟨by rw [lfI_tup]; exact a, by rw [dpt_tup, dpt_lst]; omega, by rw [blk_tup, blk_lst]; exact hb⟩, ⟨by rw [lfI_lst]; exact a, by rw [dpt_lst, dpt_lst]; omega, by rw [blk_lst, blk_lst]; exact hb⟩⟩
/-- one item put otherwise -/
theorem bt_at {xs : List D} {i : Nat} {x e : D} (hAB : A ≤ B) (hx : xs[i]? = some x) (hl : lfIAll A xs = true) (h : BT B x e) : BT B (.tup xs) (.tup (xs.take i ++ e :: xs.drop (i + 1))) := by
  have hi := (List.getElem?_eq_some_iff.mp hx).1
  have hm := List.mem_of_getElem? hx
  have e0 : xs.take i ++ e :: xs.drop (i + 1) = xs.set i e := by rw [List.set_eq_take_append_cons_drop, if_pos hi]
  rw [e0]
  refine ⟨?_, ?_, ?_⟩
  · rw [lfI_tup]
    refine lfIAll_iff.mpr fun d hd => ?_
    rcases List.mem_or_eq_of_mem_set hd with g | g
    · exact lfI_mono hAB d (lfIAll_iff.mp hl d g)
    · rw [g]; exact h.lf
  · have : dptAll (xs.set i e) ≤ dptAll xs + 2 := dptAll_le fun d hd => by
      rcases List.mem_or_eq_of_mem_set hd with g | g
      · have := dpt_mem g; omega
      · rw [g]; have := h.dp; have := dpt_mem hm; omega
    rw [dpt_tup, dpt_tup]; omega
  · have := blkAll_set (e := e) hx
    have h2 := h.bk
    have := blk_mem hm
    rw [blk_tup, blk_tup]; omega
theorem cutD_mem {xs : List D} {lo hi : Option Int} : ∀ d ∈ cutD xs lo hi, d ∈ xs := fun d hd => List.mem_of_mem_drop (List.mem_of_mem_take hd)
theorem cutD_blk (xs : List D) (lo hi : Option Int) : blkAll (cutD xs lo hi) ≤ blkAll xs := Nat.le_trans (blkAll_take _ _) (blkAll_drop _ _)
theorem cutD_len (xs : List D) (lo hi : Option Int) : (cutD xs lo hi).length ≤ xs.length := by
  unfold cutD
  rw [List.length_take, List.length_drop]; omega
theorem slice_tupD (xs : List D) (lo hi : Option Int) (μ : Mem) : Op.slice (.tup xs) lo hi μ = .ok (.tup (cutD xs lo hi)) μ := rfl
theorem slice_lstD (xs : List D) (lo hi : Option Int) (μ : Mem) : Op.slice (.lst xs) lo hi μ = .ok (.lst (cutD xs lo hi)) μ := rfl
theorem blkAll_rev : ∀ xs : List D, blkAll xs.reverse = blkAll xs
  | [] => rfl
  | x :: xs => by rw [List.reverse_cons, blkAll_append, blkAll_rev xs, blkAll_cons, blkAll_cons, blkAll_nil]; omega
theorem cutS_all (x : Str) (lo hi : Option Int) (f : Nat → Bool) (h : x.cps.toList.all f = true) : (L2.cutS x lo hi).cps.toList.all f = true ∧ (L2.cutS x lo hi).length ≤ x.length := by
  refine ⟨?_, L2.cutS_length x lo hi⟩
  unfold L2.cutS
  simp only [List.all_eq_true] at h ⊢
  exact fun c hc => h c (List.mem_of_mem_drop (List.mem_of_mem_take hc))
theorem cutD_take {xs : List D} {n : Nat} (h : n ≤ xs.length) : cutD xs none (some (n : Int)) = xs.take n := by
  have := slice_pre (μ := []) (xs := xs) (n := n) h
  rw [slice_tupD] at this
  injection this with this
  injection this
theorem item_inD {xs : List D} {v : Int} {μ : Mem} (h0 : 0 ≤ v) (h : v < xs.length) : ∃ d, d ∈ xs ∧ Op.item (.lst xs) (.int v) μ = .ok d μ := by
  have hi : v.toNat < xs.length := by omega
  exact ⟨xs[v.toNat], List.getElem_mem hi, by rw [item_lst h0, List.getElem?_eq_getElem hi]; rfl⟩
/-- a value and one from it: the same -/
theorem sameAll_zip : ∀ {xs ys : List D}, xs.length = ys.length → ((xs.zip ys).all fun p => sameB p.1 p.2) = sameAll xs ys
  | [], [], _ => rfl
  | x :: xs, y :: ys, h => by
    rw [List.zip_cons_cons, List.all_cons, sameAll, sameAll_zip (by simpa using h)]
  | [], y :: ys, h => by cases h
  | x :: xs, [], h => by cases h
theorem zipL_map (xs ys : List D) : Q.zipL xs ys = (xs.zip ys).map fun p => .tup [p.1, p.2] := by
  unfold Q.zipL
  rw [List.zip, List.map_zipWith]
end
end Dp

namespace K56
open PySem PySem.Spec PyProof.Rows L2 Dp
def topS (i : Nat) : Stmt := PySem.Challenge.pw_rootsagree_k56_merges_judged.main.body.getD i (.Pass ⟨0, 0, 0, 0⟩)
inductive Fn where
  | _law_draw | _law_value | _law_key | _law_pairs | _law_changed | _law_hands | _law_three | _law_chosen | _law_merged | _law_bent | _law_same | is_like | are_rising | is_tuple_of | is_integer | is_between | is_key | is_short_text | is_value | is_a_pair | is_a_pairs | need_pairs | need_three | need_rule | three_ways | chosen | clashes_of | merge | merged | merge_holds | _law_right | _law_pot | law
abbrev CF := Fn → List D → Mem → Res D
def B__law_draw (c : CF) : ES :=
  S.seq (S.ite (T.ofB (E.op2 Op.gt (E.op2 Op.item (E.var 0) (E.val (.int 0))) (E.val (.int 0)))) (S.seq (S.asg (E.op2 Op.mod (E.call F.int (A.cons (E.op2 Op.item (E.var 0) (E.val (.int 0))) (A.nil))) (E.var 1)) (G.name 2))
    (S.seq (S.asg (E.op2 Op.fdiv (E.op2 Op.item (E.var 0) (E.val (.int 0))) (E.var 1)) (G.item (E.var 0) (E.val (.int 0))))
    (S.ret (E.var 2)))) (S.nil))
    (S.seq (S.asg (E.op2 Op.add (E.op2 Op.item (E.var 0) (E.val (.int 2))) (E.val (.int 1))) (G.item (E.var 0) (E.val (.int 2))))
    (S.seq (S.asg (E.op2 Op.mod (E.call F.int (A.cons (E.op2 Op.add (E.op2 Op.pow (E.op2 Op.add (E.op2 Op.item (E.var 0) (E.val (.int 1))) (E.op2 Op.mul (E.val (.int 32452843)) (E.op2 Op.item (E.var 0) (E.val (.int 2))))) (E.val (.int 3))) (E.op2 Op.item (E.var 0) (E.val (.int 2)))) (A.nil))) (E.op2 Op.add (E.op2 Op.pow (E.val (.int 10)) (E.val (.int 30))) (E.val (.int 57)))) (G.name 3))
    (S.seq (S.asg (E.op2 Op.mod (E.call F.int (A.cons (E.op2 Op.add (E.op2 Op.add (E.op2 Op.mul (E.var 3) (E.var 3)) (E.op2 Op.item (E.var 0) (E.val (.int 1)))) (E.op2 Op.mul (E.val (.int 7)) (E.op2 Op.item (E.var 0) (E.val (.int 2))))) (A.nil))) (E.op2 Op.add (E.op2 Op.pow (E.val (.int 10)) (E.val (.int 28))) (E.val (.int 331)))) (G.name 3))
    (S.ret (E.op2 Op.mod (E.call F.int (A.cons (E.op2 Op.fdiv (E.var 3) (E.val (.int 15485863))) (A.nil))) (E.var 1))))))
def B__law_value (c : CF) : ES :=
  S.seq (S.asg (E.call (c ._law_draw) (A.cons (E.var 0) (A.cons (E.val (.int 6)) (A.nil)))) (G.name 1))
    (S.seq (S.ite (T.ofB (E.op2 Op.lt (E.var 1) (E.val (.int 3)))) (S.ret (E.op2 Op.item (E.lst (A.cons (E.val (.int 0)) (A.cons (E.val (.int 1)) (A.cons (E.op1 Op.neg (E.val (.int 1))) (A.cons (E.val (.str "")) (A.cons (E.val (.str "x")) (A.cons (E.val (.str "a b")) (A.nil)))))))) (E.call (c ._law_draw) (A.cons (E.var 0) (A.cons (E.val (.int 6)) (A.nil)))))) (S.nil))
    (S.seq (S.ite (T.ofB (E.op2 Op.eq (E.var 1) (E.val (.int 3)))) (S.ret (E.op2 Op.item (E.lst (A.cons (E.op2 Op.sub (E.op2 Op.pow (E.val (.int 10)) (E.val (.int 30))) (E.val (.int 1))) (A.cons (E.op2 Op.add (E.op1 Op.neg (E.op2 Op.pow (E.val (.int 10)) (E.val (.int 30)))) (E.val (.int 1))) (A.cons (E.call (c ._law_draw) (A.cons (E.var 0) (A.cons (E.op2 Op.pow (E.val (.int 10)) (E.val (.int 20))) (A.nil)))) (A.nil))))) (E.call (c ._law_draw) (A.cons (E.var 0) (A.cons (E.val (.int 3)) (A.nil)))))) (S.nil))
    (S.seq (S.ite (T.ofB (E.op2 Op.eq (E.var 1) (E.val (.int 4)))) (S.ret (E.meth .str Mt.join (E.val (.str "")) (A.cons (E.ofQ (Q.lc (Q.range1 (A.cons (E.call (c ._law_draw) (A.cons (E.var 0) (A.cons (E.val (.int 6)) (A.nil)))) (A.nil))) [2] (G.name 2) (T.yes) (E.op2 Op.item (E.lst (A.cons (E.val (.str "~")) (A.cons (E.val (.str " ")) (A.cons (E.val (.str "i")) (A.cons (E.val (.str "0")) (A.cons (E.val (.str "\"")) (A.cons (E.val (.str "t")) (A.cons (E.val (.str ":")) (A.nil))))))))) (E.call (c ._law_draw) (A.cons (E.var 0) (A.cons (E.val (.int 7)) (A.nil))))))) (A.nil)))) (S.nil))
    (S.ret (E.op2 Op.sub (E.call (c ._law_draw) (A.cons (E.var 0) (A.cons (E.val (.int 40)) (A.nil)))) (E.val (.int 20)))))))
def B__law_key (c : CF) : ES :=
  S.seq (S.asg (E.call (c ._law_draw) (A.cons (E.var 0) (A.cons (E.val (.int 5)) (A.nil)))) (G.name 1))
    (S.seq (S.ite (T.ofB (E.op2 Op.lt (E.var 1) (E.val (.int 3)))) (S.ret (E.call (c ._law_draw) (A.cons (E.var 0) (A.cons (E.op2 Op.item (E.lst (A.cons (E.val (.int 4)) (A.cons (E.val (.int 9)) (A.cons (E.val (.int 24)) (A.nil))))) (E.var 1)) (A.nil))))) (S.nil))
    (S.seq (S.ite (T.ofB (E.op2 Op.eq (E.var 1) (E.val (.int 3)))) (S.ret (E.op2 Op.add (E.call (c ._law_draw) (A.cons (E.var 0) (A.cons (E.val (.int 5)) (A.nil)))) (E.op2 Op.mul (E.val (.int 1000003)) (E.call (c ._law_draw) (A.cons (E.var 0) (A.cons (E.val (.int 4)) (A.nil))))))) (S.nil))
    (S.ret (E.op2 Op.item (E.lst (A.cons (E.op2 Op.sub (E.op2 Op.pow (E.val (.int 10)) (E.val (.int 12))) (E.val (.int 1))) (A.cons (E.call (c ._law_draw) (A.cons (E.var 0) (A.cons (E.op2 Op.pow (E.val (.int 10)) (E.val (.int 12))) (A.nil)))) (A.nil)))) (E.call (c ._law_draw) (A.cons (E.var 0) (A.cons (E.val (.int 2)) (A.nil))))))))
def B__law_pairs (c : CF) : ES :=
  S.seq (S.asg (E.dnew) (G.name 2))
    (S.seq (S.for_ (Q.range1 (A.cons (E.call (c ._law_draw) (A.cons (E.var 0) (A.cons (E.op2 Op.add (E.var 1) (E.val (.int 1))) (A.nil)))) (A.nil))) (G.name 3) (S.asg (E.call (c ._law_value) (A.cons (E.var 0) (A.nil))) (G.item (E.var 2) (E.call (c ._law_key) (A.cons (E.var 0) (A.nil))))))
    (S.ret (E.call F.tuple (A.cons (E.ofQ (Q.lc (Q.any (E.call F.sortedU (A.cons (E.var 2) (A.nil)))) [4] (G.name 4) (T.yes) (E.tup (A.cons (E.var 4) (A.cons (E.op2 Op.item (E.var 2) (E.var 4)) (A.nil)))))) (A.nil)))))
def B__law_changed (c : CF) : ES :=
  S.seq (S.asg (E.call F.mdct (A.cons (E.var 1) (A.nil))) (G.name 3))
    (S.seq (S.for_ (Q.range1 (A.cons (E.call (c ._law_draw) (A.cons (E.var 0) (A.cons (E.op2 Op.add (E.var 2) (E.val (.int 1))) (A.nil)))) (A.nil))) (G.name 4) (S.seq (S.asg (E.call F.sortedU (A.cons (E.var 3) (A.nil))) (G.name 5))
    (S.ite (T.and (T.ofB (E.op2 Op.ne (E.var 5) (E.lst (A.nil)))) (T.ofB (E.op2 Op.eq (E.call (c ._law_draw) (A.cons (E.var 0) (A.cons (E.val (.int 3)) (A.nil)))) (E.val (.int 0))))) (S.expr (E.meth .dict Mt.dpop (E.var 3) (A.cons (E.op2 Op.item (E.var 5) (E.call (c ._law_draw) (A.cons (E.var 0) (A.cons (E.call F.len (A.cons (E.var 5) (A.nil))) (A.nil))))) (A.nil)))) (S.ite (T.and (T.ofB (E.op2 Op.ne (E.var 5) (E.lst (A.nil)))) (T.ofB (E.op2 Op.eq (E.call (c ._law_draw) (A.cons (E.var 0) (A.cons (E.val (.int 2)) (A.nil)))) (E.val (.int 0))))) (S.asg (E.call (c ._law_value) (A.cons (E.var 0) (A.nil))) (G.item (E.var 3) (E.op2 Op.item (E.var 5) (E.call (c ._law_draw) (A.cons (E.var 0) (A.cons (E.call F.len (A.cons (E.var 5) (A.nil))) (A.nil))))))) (S.asg (E.call (c ._law_value) (A.cons (E.var 0) (A.nil))) (G.item (E.var 3) (E.call (c ._law_key) (A.cons (E.var 0) (A.nil)))))))))
    (S.ret (E.call F.tuple (A.cons (E.ofQ (Q.lc (Q.any (E.call F.sortedU (A.cons (E.var 3) (A.nil)))) [6] (G.name 6) (T.yes) (E.tup (A.cons (E.var 6) (A.cons (E.op2 Op.item (E.var 3) (E.var 6)) (A.nil)))))) (A.nil)))))
def B__law_hands (c : CF) : ES :=
  S.seq (S.asg (E.call (c ._law_pairs) (A.cons (E.var 0) (A.cons (E.var 1) (A.nil)))) (G.name 2))
    (S.seq (S.par2 3 4 (A.cons (E.call (c ._law_changed) (A.cons (E.var 0) (A.cons (E.var 2) (A.cons (E.val (.int 5)) (A.nil))))) (A.cons (E.call (c ._law_changed) (A.cons (E.var 0) (A.cons (E.var 2) (A.cons (E.val (.int 5)) (A.nil))))) (A.nil))))
    (S.seq (S.ite (T.ofB (E.op2 Op.eq (E.call (c ._law_draw) (A.cons (E.var 0) (A.cons (E.val (.int 5)) (A.nil)))) (E.val (.int 0)))) (S.asg (E.call (c ._law_changed) (A.cons (E.var 0) (A.cons (E.var 3) (A.cons (E.val (.int 1)) (A.nil))))) (G.name 4)) (S.nil))
    (S.ret (E.tup (A.cons (E.var 2) (A.cons (E.var 3) (A.cons (E.var 4) (A.nil))))))))
def B__law_three (c : CF) : ES :=
  S.seq (S.asg (E.mlst (A.nil)) (G.name 3))
    (S.seq (S.for_ (Q.any (E.tup (A.cons (E.var 0) (A.cons (E.var 1) (A.cons (E.var 2) (A.nil)))))) (G.name 4) (S.expr (E.meth .list Mt.append (E.var 3) (A.cons (E.call F.mdct (A.cons (E.var 4) (A.nil))) (A.nil)))))
    (S.seq (S.par2 5 6 (A.cons (E.sset (E.op2 Op.add (E.op2 Op.add (E.call F.listU (A.cons (E.op2 Op.item (E.var 3) (E.val (.int 0))) (A.nil))) (E.call F.listU (A.cons (E.op2 Op.item (E.var 3) (E.val (.int 1))) (A.nil)))) (E.call F.listU (A.cons (E.op2 Op.item (E.var 3) (E.val (.int 2))) (A.nil))))) (A.cons (E.mlst (A.nil)) (A.nil))))
    (S.seq (S.for_ (Q.any (E.var 5)) (G.name 7) (S.expr (E.meth .list Mt.append (E.var 6) (A.cons (E.op2 Op.add (E.tup (A.cons (E.var 7) (A.nil))) (E.call F.tuple (A.cons (E.ofQ (Q.lc (Q.any (E.var 3)) [8] (G.name 8) (T.yes) (E.ite (T.ofB (E.op2 Op.isin (E.var 7) (E.var 8))) (E.tup (A.cons (E.op2 Op.item (E.var 8) (E.var 7)) (A.nil))) (E.tup (A.nil))))) (A.nil)))) (A.nil)))))
    (S.ret (E.var 6)))))
def B__law_chosen (c : CF) : ES :=
  S.seq (S.ite (T.ofB (E.op2 Op.eq (E.var 1) (E.var 2))) (S.ret (E.lst (A.cons (E.var 1) (A.nil)))) (S.nil))
    (S.seq (S.ite (T.ofB (E.op2 Op.eq (E.var 1) (E.var 0))) (S.ret (E.lst (A.cons (E.var 2) (A.nil)))) (S.nil))
    (S.ret (E.ite (T.ofB (E.op2 Op.eq (E.var 2) (E.var 0))) (E.lst (A.cons (E.var 1) (A.nil))) (E.lst (A.nil)))))
def B__law_merged (c : CF) : ES :=
  S.seq (S.par2 4 5 (A.cons (E.lst (A.nil)) (A.cons (E.mlst (A.nil)) (A.nil))))
    (S.seq (S.for_ (Q.any (E.call (c ._law_three) (A.cons (E.var 0) (A.cons (E.var 1) (A.cons (E.var 2) (A.nil)))))) (G.tup (G.cons (G.name 6) (G.cons (G.name 7) (G.cons (G.name 8) (G.cons (G.name 9) (G.nil)))))) (S.seq (S.asg (E.call (c ._law_chosen) (A.cons (E.var 7) (A.cons (E.var 8) (A.cons (E.var 9) (A.nil))))) (G.name 10))
    (S.seq (S.ite (T.ofB (E.op2 Op.eq (E.var 10) (E.lst (A.nil)))) (S.seq (S.expr (E.meth .list Mt.append (E.var 5) (A.cons (E.var 6) (A.nil))))
    (S.asg (E.lst (A.cons (E.ite (T.ofB (E.op2 Op.eq (E.var 3) (E.val (.str "one")))) (E.var 8) (E.var 9)) (A.nil))) (G.name 10))) (S.nil))
    (S.asg (E.op2 Op.add (E.var 4) (E.ofQ (Q.lc (Q.any (E.op2 Op.item (E.var 10) (E.val (.int 0)))) [11] (G.name 11) (T.yes) (E.tup (A.cons (E.var 6) (A.cons (E.var 11) (A.nil))))))) (G.name 4)))))
    (S.seq (S.ite (T.and (T.ofB (E.op2 Op.eq (E.var 3) (E.val (.str "clash")))) (T.ofB (E.op2 Op.ne (E.var 5) (E.lst (A.nil))))) (S.ret (E.tup (A.cons (E.val (.str "clash")) (A.cons (E.call F.tuple (A.cons (E.var 5) (A.nil))) (A.nil))))) (S.nil))
    (S.ret (E.tup (A.cons (E.val (.str "merged")) (A.cons (E.call F.tuple (A.cons (E.var 4) (A.nil))) (A.nil)))))))
def B__law_bent (c : CF) : ES :=
  S.seq (S.ite (T.or (T.not (T.of (E.op1 (Op.isTy .tup) (E.var 1)))) (T.or (T.ofB (E.op2 Op.eq (E.var 1) (E.tup (A.nil)))) (T.ofB (E.op2 Op.eq (E.call (c ._law_draw) (A.cons (E.var 0) (A.cons (E.val (.int 5)) (A.nil)))) (E.val (.int 0)))))) (S.seq (S.asg (E.lst (A.cons (E.val .non) (A.cons (E.tup (A.nil)) (A.cons (E.val (.int 0)) (A.cons (E.val (.bl true)) (A.cons (E.val (.str "x")) (A.cons (E.val (.str "merged")) (A.cons (E.val (.str "clash")) (A.cons (E.lst (A.nil)) (A.cons (E.tup (A.cons (E.tup (A.cons (E.val (.int 5)) (A.cons (E.val (.int 5)) (A.nil)))) (A.nil))) (A.cons (E.var 1) (A.nil)))))))))))) (G.name 2))
    (S.seq (S.ite (T.of (E.op1 (Op.isTy .tup) (E.var 1))) (S.asg (E.op2 Op.add (E.var 2) (E.lst (A.cons (E.call F.list (A.cons (E.var 1) (A.nil))) (A.cons (E.slice (E.var 1) (Prt.no) (Prt.of (E.op1 Op.neg (E.val (.int 1))))) (A.cons (E.slice (E.var 1) (Prt.of (E.val (.int 1))) (Prt.no)) (A.cons (E.op2 Op.add (E.var 1) (E.slice (E.var 1) (Prt.no) (Prt.of (E.val (.int 1))))) (A.cons (E.op1 Op.rev (E.var 1)) (A.nil)))))))) (G.name 2)) (S.nil))
    (S.seq (S.ite (T.of (E.op1 (Op.isTy .int) (E.var 1))) (S.asg (E.op2 Op.add (E.var 2) (E.lst (A.cons (E.op2 Op.add (E.var 1) (E.val (.int 1))) (A.cons (E.call F.str (A.cons (E.var 1) (A.nil))) (A.cons (E.op2 Op.eq (E.var 1) (E.val (.int 1))) (A.cons (E.op1 Op.neg (E.var 1)) (A.nil))))))) (G.name 2)) (S.nil))
    (S.ret (E.op2 Op.item (E.var 2) (E.call (c ._law_draw) (A.cons (E.var 0) (A.cons (E.call F.len (A.cons (E.var 2) (A.nil))) (A.nil))))))))) (S.nil))
    (S.seq (S.asg (E.call (c ._law_draw) (A.cons (E.var 0) (A.cons (E.call F.len (A.cons (E.var 1) (A.nil))) (A.nil)))) (G.name 3))
    (S.ret (E.op2 Op.add (E.op2 Op.add (E.slice (E.var 1) (Prt.no) (Prt.of (E.var 3))) (E.tup (A.cons (E.call (c ._law_bent) (A.cons (E.var 0) (A.cons (E.op2 Op.item (E.var 1) (E.var 3)) (A.nil)))) (A.nil)))) (E.slice (E.var 1) (Prt.of (E.op2 Op.add (E.var 3) (E.val (.int 1)))) (Prt.no)))))
def B__law_same (c : CF) : ES :=
  S.seq (S.ite (T.and (T.of (E.op1 (Op.isTy .tup) (E.var 0))) (T.of (E.op1 (Op.isTy .tup) (E.var 1)))) (S.ret (E.and (E.op2 Op.eq (E.call F.len (A.cons (E.var 0) (A.nil))) (E.call F.len (A.cons (E.var 1) (A.nil)))) (E.call F.all (A.cons (E.ofQ (Q.lc (Q.zipF (A.cons (E.var 0) (A.cons (E.var 1) (A.nil)))) [2, 3] (G.tup (G.cons (G.name 2) (G.cons (G.name 3) (G.nil)))) (T.yes) (E.call (c ._law_same) (A.cons (E.var 2) (A.cons (E.var 3) (A.nil)))))) (A.nil))))) (S.nil))
    (S.seq (S.ite (T.or (T.ofB (E.op2 Op.ne (E.op1 (Op.isTy .bool) (E.var 0)) (E.op1 (Op.isTy .bool) (E.var 1)))) (T.ofB (E.op2 Op.ne (E.op1 (Op.isTy .str) (E.var 0)) (E.op1 (Op.isTy .str) (E.var 1))))) (S.ret (E.val (.bl false))) (S.nil))
    (S.ret (E.and (E.op1 (Op.isTy2 .int .str) (E.var 0)) (E.and (E.op1 (Op.isTy2 .int .str) (E.var 1)) (E.op2 Op.eq (E.var 0) (E.var 1))))))
def B_is_like (c : CF) : ES :=
  S.seq (S.ite (T.of (E.op1 (Op.isTy .tup) (E.var 1))) (S.seq (S.ite (T.or (T.not (T.of (E.op1 (Op.isTy .tup) (E.var 0)))) (T.ofB (E.op2 Op.ne (E.call F.len (A.cons (E.var 0) (A.nil))) (E.call F.len (A.cons (E.var 1) (A.nil)))))) (S.ret (E.val (.bl false))) (S.nil))
    (S.ret (E.call F.all (A.cons (E.ofQ (Q.lc (Q.zipF (A.cons (E.var 0) (A.cons (E.var 1) (A.nil)))) [2, 3] (G.tup (G.cons (G.name 2) (G.cons (G.name 3) (G.nil)))) (T.yes) (E.call (c .is_like) (A.cons (E.var 2) (A.cons (E.var 3) (A.nil)))))) (A.nil))))) (S.nil))
    (S.seq (S.ite (T.or (T.of (E.op1 (Op.isTy .bool) (E.var 0))) (T.ofB (E.op2 Op.ne (E.op1 (Op.isTy .str) (E.var 0)) (E.op1 (Op.isTy .str) (E.var 1))))) (S.ret (E.val (.bl false))) (S.nil))
    (S.ret (E.and (E.op1 (Op.isTy2 .int .str) (E.var 0)) (E.op2 Op.eq (E.var 0) (E.var 1)))))
def B_are_rising (c : CF) : ES :=
  S.seq (S.asg (E.ofQ (Q.lc (Q.any (E.var 0)) [2, 3] (G.tup (G.cons (G.name 2) (G.cons (G.name 3) (G.nil)))) (T.yes) (E.var 2))) (G.name 1))
    (S.ret (E.and (E.op2 Op.le (E.call F.len (A.cons (E.var 1) (A.nil))) (E.val (.int (400)))) (E.call F.all (A.cons (E.ofQ (Q.lc (Q.range1 (A.cons (E.op2 Op.sub (E.call F.len (A.cons (E.var 1) (A.nil))) (E.val (.int 1))) (A.nil))) [4] (G.name 4) (T.yes) (E.op2 Op.lt (E.op2 Op.item (E.var 1) (E.var 4)) (E.op2 Op.item (E.var 1) (E.op2 Op.add (E.var 4) (E.val (.int 1))))))) (A.nil)))))
def B_is_tuple_of (c : CF) : ES :=
  S.ret (E.and (E.op1 (Op.isTy .tup) (E.var 1)) (E.op2 Op.eq (E.call F.len (A.cons (E.var 1) (A.nil))) (E.var 0)))
def B_is_integer (c : CF) : ES :=
  S.ret (E.and (E.op1 (Op.isTy .int) (E.var 0)) (E.notE (E.op1 (Op.isTy .bool) (E.var 0))))
def B_is_between (c : CF) : ES :=
  S.ret (E.and (E.call (c .is_integer) (A.cons (E.var 1) (A.nil))) (E.chain Op.le Op.le (E.var 0) (E.var 1) (E.var 2)))
def B_is_key (c : CF) : ES :=
  S.ret (E.call (c .is_between) (A.cons (E.val (.int 0)) (A.cons (E.var 0) (A.cons (E.val (.int (999999999999))) (A.nil)))))
def B_is_short_text (c : CF) : ES :=
  S.ret (E.and (E.op1 (Op.isTy .str) (E.var 0)) (E.and (E.op2 Op.le (E.call F.len (A.cons (E.var 0) (A.nil))) (E.val (.int (100)))) (E.call F.all (A.cons (E.ofQ (Q.lc (Q.any (E.var 0)) [1] (G.name 1) (T.yes) (E.chain Op.le Op.le (E.val (.str " ")) (E.var 1) (E.val (.str "~"))))) (A.nil)))))
def B_is_value (c : CF) : ES :=
  S.ret (E.or (E.call (c .is_between) (A.cons (E.op1 Op.neg (E.val (.int (999999999999999999999999999999)))) (A.cons (E.var 0) (A.cons (E.val (.int (999999999999999999999999999999))) (A.nil))))) (E.call (c .is_short_text) (A.cons (E.var 0) (A.nil))))
def B_is_a_pair (c : CF) : ES :=
  S.ret (E.and (E.call (c .is_tuple_of) (A.cons (E.val (.int 2)) (A.cons (E.var 0) (A.nil)))) (E.and (E.call (c .is_key) (A.cons (E.op2 Op.item (E.var 0) (E.val (.int 0))) (A.nil))) (E.call (c .is_value) (A.cons (E.op2 Op.item (E.var 0) (E.val (.int 1))) (A.nil)))))
def B_is_a_pairs (c : CF) : ES :=
  S.ret (E.and (E.op1 (Op.isTy .tup) (E.var 0)) (E.and (E.call F.all (A.cons (E.ofQ (Q.lc (Q.any (E.var 0)) [1] (G.name 1) (T.yes) (E.call (c .is_a_pair) (A.cons (E.var 1) (A.nil))))) (A.nil))) (E.call (c .are_rising) (A.cons (E.var 0) (A.nil)))))
def B_need_pairs (c : CF) : ES :=
  S.ite (T.not (T.of (E.call (c .is_a_pairs) (A.cons (E.var 0) (A.nil))))) (S.never) (S.nil)
def B_need_three (c : CF) : ES :=
  S.seq (S.expr (E.call (c .need_pairs) (A.cons (E.var 0) (A.nil))))
    (S.seq (S.expr (E.call (c .need_pairs) (A.cons (E.var 1) (A.nil))))
    (S.expr (E.call (c .need_pairs) (A.cons (E.var 2) (A.nil)))))
def B_need_rule (c : CF) : ES :=
  S.ite (T.or (T.not (T.of (E.op1 (Op.isTy .str) (E.var 0)))) (T.ofB (E.op2 Op.notin (E.var 0) (E.tup (A.cons (E.val (.str "one")) (A.cons (E.val (.str "other")) (A.cons (E.val (.str "clash")) (A.nil)))))))) (S.never) (S.nil)
def B_three_ways (c : CF) : ES :=
  S.seq (S.asg (E.ofQ (Q.lc (Q.any (E.tup (A.cons (E.var 0) (A.cons (E.var 1) (A.cons (E.var 2) (A.nil)))))) [5] (G.name 5) (T.yes) (E.dc (Q.any (E.var 5)) [6, 7] (G.tup (G.cons (G.name 6) (G.cons (G.name 7) (G.nil)))) (T.yes) (E.var 6) (E.tup (A.cons (E.var 7) (A.nil)))))) (G.name 3))
    (S.seq (S.asg (E.sst (St.or (St.or (St.ofD (E.op2 Op.item (E.var 3) (E.val (.int 0)))) (St.ofD (E.op2 Op.item (E.var 3) (E.val (.int 1))))) (St.ofD (E.op2 Op.item (E.var 3) (E.val (.int 2)))))) (G.name 4))
    (S.ret (E.ofQ (Q.lc (Q.any (E.var 4)) [6] (G.name 6) (T.yes) (E.tup (A.cons (E.var 6) (A.cons (E.meth .dict Mt.dget2 (E.op2 Op.item (E.var 3) (E.val (.int 0))) (A.cons (E.var 6) (A.cons (E.tup (A.nil)) (A.nil)))) (A.cons (E.meth .dict Mt.dget2 (E.op2 Op.item (E.var 3) (E.val (.int 1))) (A.cons (E.var 6) (A.cons (E.tup (A.nil)) (A.nil)))) (A.cons (E.meth .dict Mt.dget2 (E.op2 Op.item (E.var 3) (E.val (.int 2))) (A.cons (E.var 6) (A.cons (E.tup (A.nil)) (A.nil)))) (A.nil))))))))))
def B_chosen (c : CF) : ES :=
  S.seq (S.ite (T.or (T.ofB (E.op2 Op.eq (E.var 1) (E.var 2))) (T.ofB (E.op2 Op.eq (E.var 2) (E.var 0)))) (S.ret (E.var 1)) (S.nil))
    (S.ret (E.ite (T.ofB (E.op2 Op.eq (E.var 1) (E.var 0))) (E.var 2) (E.val .non)))
def B_clashes_of (c : CF) : ES :=
  S.ret (E.call F.tuple (A.cons (E.ofQ (Q.lc (Q.any (E.call (c .three_ways) (A.cons (E.var 0) (A.cons (E.var 1) (A.cons (E.var 2) (A.nil)))))) [3, 4, 5, 6] (G.tup (G.cons (G.name 3) (G.cons (G.name 4) (G.cons (G.name 5) (G.cons (G.name 6) (G.nil)))))) (T.ofB (E.op2 Op.is (E.call (c .chosen) (A.cons (E.var 4) (A.cons (E.var 5) (A.cons (E.var 6) (A.nil))))) (E.val .non))) (E.var 3))) (A.nil)))
def B_merge (c : CF) : ES :=
  S.seq (S.asg (E.call (c .clashes_of) (A.cons (E.var 0) (A.cons (E.var 1) (A.cons (E.var 2) (A.nil))))) (G.name 4))
    (S.seq (S.ite (T.and (T.ofB (E.op2 Op.eq (E.var 3) (E.val (.str "clash")))) (T.ofB (E.op2 Op.ne (E.var 4) (E.tup (A.nil))))) (S.ret (E.tup (A.cons (E.val (.str "clash")) (A.cons (E.var 4) (A.nil))))) (S.nil))
    (S.seq (S.asg (E.mlst (A.nil)) (G.name 5))
    (S.seq (S.for_ (Q.any (E.call (c .three_ways) (A.cons (E.var 0) (A.cons (E.var 1) (A.cons (E.var 2) (A.nil)))))) (G.tup (G.cons (G.name 6) (G.cons (G.name 7) (G.cons (G.name 8) (G.cons (G.name 9) (G.nil)))))) (S.seq (S.asg (E.call (c .chosen) (A.cons (E.var 7) (A.cons (E.var 8) (A.cons (E.var 9) (A.nil))))) (G.name 10))
    (S.seq (S.ite (T.ofB (E.op2 Op.is (E.var 10) (E.val .non))) (S.asg (E.ite (T.ofB (E.op2 Op.eq (E.var 3) (E.val (.str "one")))) (E.var 8) (E.var 9)) (G.name 10)) (S.nil))
    (S.expr (E.meth .list Mt.extend (E.var 5) (A.cons (E.ofQ (Q.lc (Q.any (E.var 10)) [11] (G.name 11) (T.yes) (E.tup (A.cons (E.var 6) (A.cons (E.var 11) (A.nil)))))) (A.nil)))))))
    (S.ret (E.tup (A.cons (E.val (.str "merged")) (A.cons (E.call F.tuple (A.cons (E.var 5) (A.nil))) (A.nil))))))))
def B_merged (c : CF) : ES :=
  S.seq (S.expr (E.call (c .need_three) (A.cons (E.var 0) (A.cons (E.var 1) (A.cons (E.var 2) (A.nil))))))
    (S.seq (S.expr (E.call (c .need_rule) (A.cons (E.var 3) (A.nil))))
    (S.ret (E.call (c .merge) (A.cons (E.var 0) (A.cons (E.var 1) (A.cons (E.var 2) (A.cons (E.var 3) (A.nil))))))))
def B_merge_holds (c : CF) : ES :=
  S.ret (E.call (c .is_like) (A.cons (E.var 4) (A.cons (E.call (c .merged) (A.cons (E.var 0) (A.cons (E.var 1) (A.cons (E.var 2) (A.cons (E.var 3) (A.nil)))))) (A.nil))))
def B__law_right (c : CF) : ES :=
  S.seq (S.asg (E.call (c ._law_hands) (A.cons (E.var 0) (A.cons (E.val (.int 6)) (A.nil)))) (G.tup (G.cons (G.name 1) (G.cons (G.name 2) (G.cons (G.name 3) (G.nil))))))
    (S.seq (S.asg (E.op2 Op.item (E.lst (A.cons (E.val (.str "one")) (A.cons (E.val (.str "other")) (A.cons (E.val (.str "clash")) (A.cons (E.val (.str "clash")) (A.nil)))))) (E.call (c ._law_draw) (A.cons (E.var 0) (A.cons (E.val (.int 4)) (A.nil))))) (G.name 4))
    (S.seq (S.asg (E.call (c ._law_merged) (A.cons (E.var 1) (A.cons (E.var 2) (A.cons (E.var 3) (A.cons (E.var 4) (A.nil)))))) (G.name 5))
    (S.seq (S.asg (E.mlst (A.cons (E.var 5) (A.cons (E.call (c ._law_merged) (A.cons (E.var 1) (A.cons (E.var 2) (A.cons (E.var 3) (A.cons (E.val (.str "one")) (A.nil)))))) (A.cons (E.call (c ._law_merged) (A.cons (E.var 1) (A.cons (E.var 2) (A.cons (E.var 3) (A.cons (E.val (.str "other")) (A.nil)))))) (A.cons (E.val .non) (A.nil)))))) (G.name 6))
    (S.seq (S.asg (E.op2 Op.madd (E.var 6) (E.lst (A.cons (E.tup (A.cons (E.val (.str "merged")) (A.nil))) (A.cons (E.tup (A.cons (E.val (.str "clash")) (A.cons (E.tup (A.nil)) (A.nil)))) (A.nil))))) (G.name 6))
    (S.seq (S.for_ (Q.range1 (A.cons (E.val (.int 8)) (A.nil))) (G.name 7) (S.expr (E.meth .list Mt.append (E.var 6) (A.cons (E.call (c ._law_bent) (A.cons (E.var 0) (A.cons (E.var 5) (A.nil)))) (A.nil)))))
    (S.seq (S.for_ (Q.any (E.var 6)) (G.name 8) (S.seq (S.par2 10 11 (A.cons (E.call (c ._law_same) (A.cons (E.var 8) (A.cons (E.var 5) (A.nil)))) (A.cons (E.call F.repr (A.cons (E.var 8) (A.nil))) (A.nil))))
    (S.seq (S.asg (E.mlst (A.cons (E.call (c .merge_holds) (A.cons (E.var 1) (A.cons (E.var 2) (A.cons (E.var 3) (A.cons (E.var 4) (A.cons (E.var 8) (A.nil))))))) (A.nil))) (G.name 9))
    (S.seq (S.expr (E.meth .list Mt.append (E.var 9) (A.cons (E.callK (c .merge_holds) (fun ds es => pick [4, 3, 2, 1, 0] (ds ++ es)) A.nil (A.cons (E.var 8) (A.cons (E.var 4) (A.cons (E.var 3) (A.cons (E.var 2) (A.cons (E.var 1) (A.nil))))))) (A.nil))))
    (S.ite (T.or (T.ofB (E.op2 Op.ne (E.call F.repr (A.cons (E.var 9) (A.nil))) (E.call F.repr (A.cons (E.lst (A.cons (E.var 10) (A.cons (E.var 10) (A.nil)))) (A.nil))))) (T.ofB (E.op2 Op.ne (E.call F.repr (A.cons (E.var 8) (A.nil))) (E.var 11)))) (S.ret (E.val (.bl false))) (S.nil))))))
    (S.ret (E.val (.bl true)))))))))
def B__law_pot (c : CF) : ES :=
  S.seq (S.asg (E.op2 Op.add (E.op2 Op.mul (E.val (.int 31)) (E.var 1)) (E.val (.int 11))) (G.name 2))
    (S.seq (S.for_ (Q.any (E.var 0)) (G.name 3) (S.asg (E.op2 Op.mod (E.call F.int (A.cons (E.op2 Op.add (E.op2 Op.add (E.op2 Op.mul (E.var 2) (E.val (.int 7919))) (E.op2 Op.mul (E.var 3) (E.val (.int 611953)))) (E.val (.int 3))) (A.nil))) (E.op2 Op.add (E.op2 Op.pow (E.val (.int 10)) (E.val (.int 27))) (E.val (.int 103)))) (G.name 2)))
    (S.seq (S.asg (E.ite (T.ofB (E.op2 Op.lt (E.var 1) (E.call F.len (A.cons (E.var 0) (A.nil))))) (E.op2 Op.item (E.var 0) (E.var 1)) (E.var 2)) (G.name 4))
    (S.ret (E.mlst (A.cons (E.call F.max (A.cons (E.val (.int 0)) (A.cons (E.op2 Op.sub (E.var 4) (E.op2 Op.pow (E.val (.int 10)) (E.val (.int 18)))) (A.nil)))) (A.cons (E.op2 Op.mod (E.call F.int (A.cons (E.op2 Op.add (E.op2 Op.mul (E.var 2) (E.val (.int 5))) (E.op2 Op.mul (E.var 4) (E.val (.int 9)))) (A.nil))) (E.op2 Op.add (E.op2 Op.pow (E.val (.int 10)) (E.val (.int 29))) (E.val (.int 319)))) (A.cons (E.val (.int 0)) (A.nil))))))))
def B_law (c : CF) : ES :=
  S.seq (S.for_ (Q.range1 (A.cons (E.call F.max (A.cons (E.val (.int 1)) (A.cons (E.call F.min (A.cons (E.val (.int 3)) (A.cons (E.call F.len (A.cons (E.var 0) (A.nil))) (A.nil)))) (A.nil)))) (A.nil))) (G.name 1) (S.ite (T.not (T.of (E.call (c ._law_right) (A.cons (E.call (c ._law_pot) (A.cons (E.var 0) (A.cons (E.var 1) (A.nil)))) (A.nil))))) (S.ret (E.val (.bl false))) (S.nil)))
    (S.ret (E.val (.bl true)))
def bodyOf (c : CF) : Fn → ES
  | ._law_draw => B__law_draw c
  | ._law_value => B__law_value c
  | ._law_key => B__law_key c
  | ._law_pairs => B__law_pairs c
  | ._law_changed => B__law_changed c
  | ._law_hands => B__law_hands c
  | ._law_three => B__law_three c
  | ._law_chosen => B__law_chosen c
  | ._law_merged => B__law_merged c
  | ._law_bent => B__law_bent c
  | ._law_same => B__law_same c
  | .is_like => B_is_like c
  | .are_rising => B_are_rising c
  | .is_tuple_of => B_is_tuple_of c
  | .is_integer => B_is_integer c
  | .is_between => B_is_between c
  | .is_key => B_is_key c
  | .is_short_text => B_is_short_text c
  | .is_value => B_is_value c
  | .is_a_pair => B_is_a_pair c
  | .is_a_pairs => B_is_a_pairs c
  | .need_pairs => B_need_pairs c
  | .need_three => B_need_three c
  | .need_rule => B_need_rule c
  | .three_ways => B_three_ways c
  | .chosen => B_chosen c
  | .clashes_of => B_clashes_of c
  | .merge => B_merge c
  | .merged => B_merged c
  | .merge_holds => B_merge_holds c
  | ._law_right => B__law_right c
  | ._law_pot => B__law_pot c
  | .law => B_law c
def npOf : Fn → Nat
  | ._law_draw => 2
  | ._law_value => 1
  | ._law_key => 1
  | ._law_pairs => 2
  | ._law_changed => 3
  | ._law_hands => 2
  | ._law_three => 3
  | ._law_chosen => 3
  | ._law_merged => 4
  | ._law_bent => 2
  | ._law_same => 2
  | .is_like => 2
  | .are_rising => 1
  | .is_tuple_of => 2
  | .is_integer => 1
  | .is_between => 3
  | .is_key => 1
  | .is_short_text => 1
  | .is_value => 1
  | .is_a_pair => 1
  | .is_a_pairs => 1
  | .need_pairs => 1
  | .need_three => 3
  | .need_rule => 1
  | .three_ways => 3
  | .chosen => 3
  | .clashes_of => 3
  | .merge => 4
  | .merged => 4
  | .merge_holds => 5
  | ._law_right => 1
  | ._law_pot => 2
  | .law => 1
def nsOf : Fn → Nat
  | ._law_draw => 4
  | ._law_value => 3
  | ._law_key => 2
  | ._law_pairs => 5
  | ._law_changed => 7
  | ._law_hands => 5
  | ._law_three => 9
  | ._law_chosen => 3
  | ._law_merged => 12
  | ._law_bent => 4
  | ._law_same => 4
  | .is_like => 4
  | .are_rising => 5
  | .is_tuple_of => 2
  | .is_integer => 1
  | .is_between => 3
  | .is_key => 1
  | .is_short_text => 2
  | .is_value => 1
  | .is_a_pair => 1
  | .is_a_pairs => 2
  | .need_pairs => 1
  | .need_three => 3
  | .need_rule => 1
  | .three_ways => 8
  | .chosen => 3
  | .clashes_of => 7
  | .merge => 12
  | .merged => 4
  | .merge_holds => 5
  | ._law_right => 12
  | ._law_pot => 5
  | .law => 2
def mbOf : Fn → Bool
  | ._law_draw => false
  | ._law_value => false
  | ._law_key => false
  | ._law_pairs => false
  | ._law_changed => false
  | ._law_hands => false
  | ._law_three => false
  | ._law_chosen => false
  | ._law_merged => false
  | ._law_bent => false
  | ._law_same => false
  | .is_like => false
  | .are_rising => false
  | .is_tuple_of => false
  | .is_integer => false
  | .is_between => false
  | .is_key => false
  | .is_short_text => false
  | .is_value => false
  | .is_a_pair => false
  | .is_a_pairs => false
  | .need_pairs => false
  | .need_three => false
  | .need_rule => false
  | .three_ways => false
  | .chosen => false
  | .clashes_of => false
  | .merge => false
  | .merged => false
  | .merge_holds => false
  | ._law_right => false
  | ._law_pot => true
  | .law => false
def call : Nat → CF
  | 0 => fun _ _ _ => .bad
  | k + 1 => fun f => proto (mbOf f) (runB (npOf f) (nsOf f) (bodyOf (call k) f))
structure Facts (K : PySem.W.Frag) (mg : Str → Option Value) : Prop where
  b_all : mg "all" = none
  b_bool : mg "bool" = none
  b_dict : mg "dict" = none
  b_int : mg "int" = none
  b_isinstance : mg "isinstance" = none
  b_len : mg "len" = none
  b_list : mg "list" = none
  b_max : mg "max" = none
  b_min : mg "min" = none
  b_range : mg "range" = none
  b_repr : mg "repr" = none
  b_set : mg "set" = none
  b_sorted : mg "sorted" = none
  b_str : mg "str" = none
  b_tuple : mg "tuple" = none
  b_zip : mg "zip" = none
  c_CLASH : ∃ t, mg "CLASH" = some (.str ("clash") t)
  c_MERGED : ∃ t, mg "MERGED" = some (.str ("merged") t)
  c_MOST_KEY : ∃ t, mg "MOST_KEY" = some (.int (999999999999) t)
  c_MOST_PAIRS : ∃ t, mg "MOST_PAIRS" = some (.int (400) t)
  c_MOST_SIGNS : ∃ t, mg "MOST_SIGNS" = some (.int (100) t)
  c_MOST_VALUE : ∃ t, mg "MOST_VALUE" = some (.int (999999999999999999999999999999) t)
  c_ONE : ∃ t, mg "ONE" = some (.str ("one") t)
  c_OTHER : ∃ t, mg "OTHER" = some (.str ("other") t)
section
variable {P : Program} {w : World} {K : PySem.W.Frag} {mg : Str → Option Value} {base : Heap} {k : Nat}
theorem sc__law_draw : FnScope ["pot", "many", "found", "mixed"] ["pot", "many"] (defScope (topS 36)) := ⟨rfl, rfl, rfl, by decide +kernel, rfl, by decide +kernel, by decide +kernel⟩
theorem ok__law_draw (T : Facts K mg)  {yy : Str} {f : Addr} {fd : FuncData} (F : Fun K yy yy (topS 36) f fd) :
    FnG P w K mg base (L2.CX P w) (k + 1) f fd ["pot", "many"] (spOf K 2 (call (k + 1) ._law_draw)) :=
  fnP false (fnD F sc__law_draw (B__law_draw (call k)) fun cdv A outer s H E hG hr tk =>
    have nd := sc__law_draw.nd
    ss_cons (ps_ifD (st_cmp (ops_gt (room_hu hr)) (se_item (room_hu hr) (sv 0) (se_int)) (se_int) (nomark _)) (ss_cons (ps_asgD (vs := [2]) (se_bin ops_mod (se_callTy calls_int rfl T.b_int rfl (sa_cons (se_item (room_hu hr) (sv 0) (se_int)) (sa_nil) rfl)) (sv 1)) (pg_nameD (i := 2) nd rfl (by first | exact .inl rfl | exact .inr rfl)))
    (ss_cons (ps_asgD (vs := []) (se_bin ops_fdiv (se_item (room_hu hr) (sv 0) (se_int)) (sv 1)) (pg_itemD (room_hu hr) (sv 0) (se_int)))
    (ss_one (ps_retD (sv 2))))) (ss_nil))
    (ss_cons (ps_asgD (vs := []) (se_bin ops_add (se_item (room_hu hr) (sv 0) (se_int)) (se_int)) (pg_itemD (room_hu hr) (sv 0) (se_int)))
    (ss_cons (ps_asgD (vs := [3]) (se_bin ops_mod (se_callTy calls_int rfl T.b_int rfl (sa_cons (se_bin ops_add (se_bin ops_pow (se_bin ops_add (se_item (room_hu hr) (sv 0) (se_int)) (se_bin ops_mul (se_int) (se_item (room_hu hr) (sv 0) (se_int)))) (se_int)) (se_item (room_hu hr) (sv 0) (se_int))) (sa_nil) rfl)) (se_bin ops_add (se_bin ops_pow (se_int) (se_int)) (se_int))) (pg_nameD (i := 3) nd rfl (by first | exact .inl rfl | exact .inr rfl)))
    (ss_cons (ps_asgD (vs := [3]) (se_bin ops_mod (se_callTy calls_int rfl T.b_int rfl (sa_cons (se_bin ops_add (se_bin ops_add (se_bin ops_mul (sv 3) (sv 3)) (se_item (room_hu hr) (sv 0) (se_int))) (se_bin ops_mul (se_int) (se_item (room_hu hr) (sv 0) (se_int)))) (sa_nil) rfl)) (se_bin ops_add (se_bin ops_pow (se_int) (se_int)) (se_int))) (pg_nameD (i := 3) nd rfl (by first | exact .inl rfl | exact .inr rfl)))
    (ss_one (ps_retD (se_bin ops_mod (se_callTy calls_int rfl T.b_int rfl (sa_cons (se_bin ops_fdiv (sv 3) (se_int)) (sa_nil) rfl)) (sv 1))))))))
theorem sc__law_value : FnScope ["pot", "way", "turn"] ["pot"] (defScope (topS 38)) := ⟨rfl, rfl, rfl, by decide +kernel, rfl, by decide +kernel, by decide +kernel⟩
theorem ok__law_value (T : Facts K mg) (c__law_draw : Cal P w K mg base k "_law_draw" (topS 36) ["pot", "many"] (call k ._law_draw)) {yy : Str} {f : Addr} {fd : FuncData} (F : Fun K yy yy (topS 38) f fd) :
    FnG P w K mg base (L2.CX P w) (k + 1) f fd ["pot"] (spOf K 1 (call (k + 1) ._law_value)) :=
  fnP false (fnD F sc__law_value (B__law_value (call k)) fun cdv A outer s H E hG hr tk =>
    have nd := sc__law_value.nd
    ss_cons (ps_asgD (vs := [1]) (se_call c__law_draw hG hr rfl tk (sa_cons (sv 0) (sa_cons (se_int) (sa_nil) rfl) rfl) (fun _ _ _ _ _ _ us hl => match us, hl with | [_, _], _ => rfl) (al_cons (al_cons al_nil)) rfl) (pg_nameD (i := 1) nd rfl (by first | exact .inl rfl | exact .inr rfl)))
    (ss_cons (ps_ifD (st_cmp (ops_lt (room_hu hr)) (sv 1) (se_int) (nomark _)) (ss_one (ps_retD (se_item (room_hu hr) (se_lst (sa_cons (se_int) (sa_cons (se_int) (sa_cons (se_un ops_neg (se_int)) (sa_cons (se_str) (sa_cons (se_str) (sa_cons (se_str) (sa_nil) rfl) rfl) rfl) rfl) rfl) rfl)) (se_call c__law_draw hG hr rfl tk (sa_cons (sv 0) (sa_cons (se_int) (sa_nil) rfl) rfl) (fun _ _ _ _ _ _ us hl => match us, hl with | [_, _], _ => rfl) (al_cons (al_cons al_nil)) rfl)))) (ss_nil))
    (ss_cons (ps_ifD (st_cmp (ops_eq (room_hu hr)) (sv 1) (se_int) (nomark _)) (ss_one (ps_retD (se_item (room_hu hr) (se_lst (sa_cons (se_bin ops_sub (se_bin ops_pow (se_int) (se_int)) (se_int)) (sa_cons (se_bin ops_add (se_un ops_neg (se_bin ops_pow (se_int) (se_int))) (se_int)) (sa_cons (se_call c__law_draw hG hr rfl tk (sa_cons (sv 0) (sa_cons (se_bin ops_pow (se_int) (se_int)) (sa_nil) rfl) rfl) (fun _ _ _ _ _ _ us hl => match us, hl with | [_, _], _ => rfl) (al_cons (al_cons al_nil)) rfl) (sa_nil) rfl) rfl) rfl)) (se_call c__law_draw hG hr rfl tk (sa_cons (sv 0) (sa_cons (se_int) (sa_nil) rfl) rfl) (fun _ _ _ _ _ _ us hl => match us, hl with | [_, _], _ => rfl) (al_cons (al_cons al_nil)) rfl)))) (ss_nil))
    (ss_cons (ps_ifD (st_cmp (ops_eq (room_hu hr)) (sv 1) (se_int) (nomark _)) (ss_one (ps_retD (se_meth .str PySem.F.plainAttrs_str PySem.F.slot_str_join PySem.F.type_str_join meth_join (se_str) (sa_cons (se_lc (own := [("turn", 2)]) rfl nd (pi_range1D rfl T.b_range (sa_cons (se_call c__law_draw hG hr rfl tk (sa_cons (sv 0) (sa_cons (se_int) (sa_nil) rfl) rfl) (fun _ _ _ _ _ _ us hl => match us, hl with | [_, _], _ => rfl) (al_cons (al_cons al_nil)) rfl) (sa_nil) rfl)) (blkOk_by (by kernel_rfl)) (fun _ _ _ _ _ => pg_nameD (i := 2) nd rfl (by first | exact .inl rfl | exact .inr rfl)) (fun _ _ _ _ _ => sts_nil) (fun _ _ _ _ _ => se_item (room_hu hr) (se_lst (sa_cons (se_str) (sa_cons (se_str) (sa_cons (se_str) (sa_cons (se_str) (sa_cons (se_str) (sa_cons (se_str) (sa_cons (se_str) (sa_nil) rfl) rfl) rfl) rfl) rfl) rfl) rfl)) (se_call c__law_draw hG hr rfl takes0 (sa_cons (sv 0) (sa_cons (se_int) (sa_nil) rfl) rfl) (fun _ _ _ _ _ _ us hl => match us, hl with | [_, _], _ => rfl) (al_cons (al_cons al_nil)) rfl))) (sa_nil) rfl)))) (ss_nil))
    (ss_one (ps_retD (se_bin ops_sub (se_call c__law_draw hG hr rfl tk (sa_cons (sv 0) (sa_cons (se_int) (sa_nil) rfl) rfl) (fun _ _ _ _ _ _ us hl => match us, hl with | [_, _], _ => rfl) (al_cons (al_cons al_nil)) rfl) (se_int))))))))
theorem sc__law_key : FnScope ["pot", "way"] ["pot"] (defScope (topS 37)) := ⟨rfl, rfl, rfl, by decide +kernel, rfl, by decide +kernel, by decide +kernel⟩
theorem ok__law_key (T : Facts K mg) (c__law_draw : Cal P w K mg base k "_law_draw" (topS 36) ["pot", "many"] (call k ._law_draw)) {yy : Str} {f : Addr} {fd : FuncData} (F : Fun K yy yy (topS 37) f fd) :
    FnG P w K mg base (L2.CX P w) (k + 1) f fd ["pot"] (spOf K 1 (call (k + 1) ._law_key)) :=
  fnP false (fnD F sc__law_key (B__law_key (call k)) fun cdv A outer s H E hG hr tk =>
    have nd := sc__law_key.nd
    ss_cons (ps_asgD (vs := [1]) (se_call c__law_draw hG hr rfl tk (sa_cons (sv 0) (sa_cons (se_int) (sa_nil) rfl) rfl) (fun _ _ _ _ _ _ us hl => match us, hl with | [_, _], _ => rfl) (al_cons (al_cons al_nil)) rfl) (pg_nameD (i := 1) nd rfl (by first | exact .inl rfl | exact .inr rfl)))
    (ss_cons (ps_ifD (st_cmp (ops_lt (room_hu hr)) (sv 1) (se_int) (nomark _)) (ss_one (ps_retD (se_call c__law_draw hG hr rfl tk (sa_cons (sv 0) (sa_cons (se_item (room_hu hr) (se_lst (sa_cons (se_int) (sa_cons (se_int) (sa_cons (se_int) (sa_nil) rfl) rfl) rfl)) (sv 1)) (sa_nil) rfl) rfl) (fun _ _ _ _ _ _ us hl => match us, hl with | [_, _], _ => rfl) (al_cons (al_cons al_nil)) rfl))) (ss_nil))
    (ss_cons (ps_ifD (st_cmp (ops_eq (room_hu hr)) (sv 1) (se_int) (nomark _)) (ss_one (ps_retD (se_bin ops_add (se_call c__law_draw hG hr rfl tk (sa_cons (sv 0) (sa_cons (se_int) (sa_nil) rfl) rfl) (fun _ _ _ _ _ _ us hl => match us, hl with | [_, _], _ => rfl) (al_cons (al_cons al_nil)) rfl) (se_bin ops_mul (se_int) (se_call c__law_draw hG hr rfl tk (sa_cons (sv 0) (sa_cons (se_int) (sa_nil) rfl) rfl) (fun _ _ _ _ _ _ us hl => match us, hl with | [_, _], _ => rfl) (al_cons (al_cons al_nil)) rfl))))) (ss_nil))
    (ss_one (ps_retD (se_item (room_hu hr) (se_lst (sa_cons (se_bin ops_sub (se_bin ops_pow (se_int) (se_int)) (se_int)) (sa_cons (se_call c__law_draw hG hr rfl tk (sa_cons (sv 0) (sa_cons (se_bin ops_pow (se_int) (se_int)) (sa_nil) rfl) rfl) (fun _ _ _ _ _ _ us hl => match us, hl with | [_, _], _ => rfl) (al_cons (al_cons al_nil)) rfl) (sa_nil) rfl) rfl)) (se_call c__law_draw hG hr rfl tk (sa_cons (sv 0) (sa_cons (se_int) (sa_nil) rfl) rfl) (fun _ _ _ _ _ _ us hl => match us, hl with | [_, _], _ => rfl) (al_cons (al_cons al_nil)) rfl)))))))
theorem sc__law_pairs : FnScope ["pot", "most", "found", "turn", "key"] ["pot", "most"] (defScope (topS 39)) := ⟨rfl, rfl, rfl, by decide +kernel, rfl, by decide +kernel, by decide +kernel⟩
theorem ok__law_pairs (T : Facts K mg) (c__law_draw : Cal P w K mg base k "_law_draw" (topS 36) ["pot", "many"] (call k ._law_draw)) (c__law_value : Cal P w K mg base k "_law_value" (topS 38) ["pot"] (call k ._law_value)) (c__law_key : Cal P w K mg base k "_law_key" (topS 37) ["pot"] (call k ._law_key)) {yy : Str} {f : Addr} {fd : FuncData} (F : Fun K yy yy (topS 39) f fd) :
    FnG P w K mg base (L2.CX P w) (k + 1) f fd ["pot", "most"] (spOf K 2 (call (k + 1) ._law_pairs)) :=
  fnP false (fnD F sc__law_pairs (B__law_pairs (call k)) fun cdv A outer s H E hG hr tk =>
    have nd := sc__law_pairs.nd
    ss_cons (ps_asgD (vs := [2]) (se_dnew) (pg_nameD (i := 2) nd rfl (by first | exact .inl rfl | exact .inr rfl)))
    (ss_cons (ps_forD (vs := [3]) (passes_of rfl) rfl (pi_range1D rfl T.b_range (sa_cons (se_call c__law_draw hG hr rfl tk (sa_cons (sv 0) (sa_cons (se_bin ops_add (sv 1) (se_int)) (sa_nil) rfl) rfl) (fun _ _ _ _ _ _ us hl => match us, hl with | [_, _], _ => rfl) (al_cons (al_cons al_nil)) rfl) (sa_nil) rfl)) (pg_nameD (i := 3) nd rfl (by first | exact .inl rfl | exact .inr rfl)) (ss_one (ps_asgD (vs := []) (se_call c__law_value hG hr rfl tk (sa_cons (sv 0) (sa_nil) rfl) (fun _ _ _ _ _ _ us hl => match us, hl with | [_], _ => rfl) (al_cons al_nil) rfl) (pg_itemD (room_hu hr) (sv 2) (se_call c__law_key hG hr rfl takes0 (sa_cons (sv 0) (sa_nil) rfl) (fun _ _ _ _ _ _ us hl => match us, hl with | [_], _ => rfl) (al_cons al_nil) rfl)))))
    (ss_one (ps_retD (se_callTy calls_tuple rfl T.b_tuple rfl (sa_cons (se_lc (own := [("key", 4)]) rfl nd (pi_any (se_callB (calls_sortedU rfl (room_hu hr)) rfl T.b_sorted rfl (sa_cons (sv 2) (sa_nil) rfl))) (blkOk_by (by kernel_rfl)) (fun _ _ _ _ _ => pg_nameD (i := 4) nd rfl (by first | exact .inl rfl | exact .inr rfl)) (fun _ _ _ _ _ => sts_nil) (fun _ _ _ _ _ => se_tup (sa_cons (sv 4) (sa_cons (se_item (room_hu hr) (sv 2) (sv 4)) (sa_nil) rfl) rfl))) (sa_nil) rfl))))))
theorem sc__law_changed : FnScope ["pot", "pairs", "most", "found", "turn", "keys", "key"] ["pot", "pairs", "most"] (defScope (topS 40)) := ⟨rfl, rfl, rfl, by decide +kernel, rfl, by decide +kernel, by decide +kernel⟩
theorem ok__law_changed (T : Facts K mg) (c__law_draw : Cal P w K mg base k "_law_draw" (topS 36) ["pot", "many"] (call k ._law_draw)) (c__law_value : Cal P w K mg base k "_law_value" (topS 38) ["pot"] (call k ._law_value)) (c__law_key : Cal P w K mg base k "_law_key" (topS 37) ["pot"] (call k ._law_key)) {yy : Str} {f : Addr} {fd : FuncData} (F : Fun K yy yy (topS 40) f fd) :
    FnG P w K mg base (L2.CX P w) (k + 1) f fd ["pot", "pairs", "most"] (spOf K 3 (call (k + 1) ._law_changed)) :=
  fnP false (fnD F sc__law_changed (B__law_changed (call k)) fun cdv A outer s H E hG hr tk =>
    have nd := sc__law_changed.nd
    ss_cons (ps_asgD (vs := [3]) (se_callTy (calls_mdct rfl) rfl T.b_dict rfl (sa_cons (sv 1) (sa_nil) rfl)) (pg_nameD (i := 3) nd rfl (by first | exact .inl rfl | exact .inr rfl)))
    (ss_cons (ps_forD (vs := [4]) (passes_of rfl) rfl (pi_range1D rfl T.b_range (sa_cons (se_call c__law_draw hG hr rfl tk (sa_cons (sv 0) (sa_cons (se_bin ops_add (sv 2) (se_int)) (sa_nil) rfl) rfl) (fun _ _ _ _ _ _ us hl => match us, hl with | [_, _], _ => rfl) (al_cons (al_cons al_nil)) rfl) (sa_nil) rfl)) (pg_nameD (i := 4) nd rfl (by first | exact .inl rfl | exact .inr rfl)) (ss_cons (ps_asgD (vs := [5]) (se_callB (calls_sortedU rfl (room_hu hr)) rfl T.b_sorted rfl (sa_cons (sv 3) (sa_nil) rfl)) (pg_nameD (i := 5) nd rfl (by first | exact .inl rfl | exact .inr rfl)))
    (ss_one (ps_ifD (st_bool (sw_and (st_cmp (ops_ne (room_hu hr)) (sv 5) (se_lst (sa_nil)) (nomark _)) (sw_one (st_cmp (ops_eq (room_hu hr)) (se_call c__law_draw hG hr rfl tk (sa_cons (sv 0) (sa_cons (se_int) (sa_nil) rfl) rfl) (fun _ _ _ _ _ _ us hl => match us, hl with | [_, _], _ => rfl) (al_cons (al_cons al_nil)) rfl) (se_int) (nomark _))))) (ss_one (ps_exprD (se_meth .dict PySem.F.plainAttrs_dict PySem.F.slot_dict_pop PySem.F.type_dict_pop meth_dpop (sv 3) (sa_cons (se_item (room_hu hr) (sv 5) (se_call c__law_draw hG hr rfl tk (sa_cons (sv 0) (sa_cons (se_callB calls_len rfl T.b_len rfl (sa_cons (sv 5) (sa_nil) rfl)) (sa_nil) rfl) rfl) (fun _ _ _ _ _ _ us hl => match us, hl with | [_, _], _ => rfl) (al_cons (al_cons al_nil)) rfl)) (sa_nil) rfl)))) (ss_one (ps_ifD (st_bool (sw_and (st_cmp (ops_ne (room_hu hr)) (sv 5) (se_lst (sa_nil)) (nomark _)) (sw_one (st_cmp (ops_eq (room_hu hr)) (se_call c__law_draw hG hr rfl tk (sa_cons (sv 0) (sa_cons (se_int) (sa_nil) rfl) rfl) (fun _ _ _ _ _ _ us hl => match us, hl with | [_, _], _ => rfl) (al_cons (al_cons al_nil)) rfl) (se_int) (nomark _))))) (ss_one (ps_asgD (vs := []) (se_call c__law_value hG hr rfl tk (sa_cons (sv 0) (sa_nil) rfl) (fun _ _ _ _ _ _ us hl => match us, hl with | [_], _ => rfl) (al_cons al_nil) rfl) (pg_itemD (room_hu hr) (sv 3) (se_item (room_hu hr) (sv 5) (se_call c__law_draw hG hr rfl takes0 (sa_cons (sv 0) (sa_cons (se_callB calls_len rfl T.b_len rfl (sa_cons (sv 5) (sa_nil) rfl)) (sa_nil) rfl) rfl) (fun _ _ _ _ _ _ us hl => match us, hl with | [_, _], _ => rfl) (al_cons (al_cons al_nil)) rfl))))) (ss_one (ps_asgD (vs := []) (se_call c__law_value hG hr rfl tk (sa_cons (sv 0) (sa_nil) rfl) (fun _ _ _ _ _ _ us hl => match us, hl with | [_], _ => rfl) (al_cons al_nil) rfl) (pg_itemD (room_hu hr) (sv 3) (se_call c__law_key hG hr rfl takes0 (sa_cons (sv 0) (sa_nil) rfl) (fun _ _ _ _ _ _ us hl => match us, hl with | [_], _ => rfl) (al_cons al_nil) rfl))))))))))
    (ss_one (ps_retD (se_callTy calls_tuple rfl T.b_tuple rfl (sa_cons (se_lc (own := [("key", 6)]) rfl nd (pi_any (se_callB (calls_sortedU rfl (room_hu hr)) rfl T.b_sorted rfl (sa_cons (sv 3) (sa_nil) rfl))) (blkOk_by (by kernel_rfl)) (fun _ _ _ _ _ => pg_nameD (i := 6) nd rfl (by first | exact .inl rfl | exact .inr rfl)) (fun _ _ _ _ _ => sts_nil) (fun _ _ _ _ _ => se_tup (sa_cons (sv 6) (sa_cons (se_item (room_hu hr) (sv 3) (sv 6)) (sa_nil) rfl) rfl))) (sa_nil) rfl))))))
theorem sc__law_hands : FnScope ["pot", "most", "base", "one", "other"] ["pot", "most"] (defScope (topS 44)) := ⟨rfl, rfl, rfl, by decide +kernel, rfl, by decide +kernel, by decide +kernel⟩
theorem ok__law_hands (T : Facts K mg) (c__law_pairs : Cal P w K mg base k "_law_pairs" (topS 39) ["pot", "most"] (call k ._law_pairs)) (c__law_changed : Cal P w K mg base k "_law_changed" (topS 40) ["pot", "pairs", "most"] (call k ._law_changed)) (c__law_draw : Cal P w K mg base k "_law_draw" (topS 36) ["pot", "many"] (call k ._law_draw)) {yy : Str} {f : Addr} {fd : FuncData} (F : Fun K yy yy (topS 44) f fd) :
    FnG P w K mg base (L2.CX P w) (k + 1) f fd ["pot", "most"] (spOf K 2 (call (k + 1) ._law_hands)) :=
  fnP false (fnD F sc__law_hands (B__law_hands (call k)) fun cdv A outer s H E hG hr tk =>
    have nd := sc__law_hands.nd
    ss_cons (ps_asgD (vs := [2]) (se_call c__law_pairs hG hr rfl tk (sa_cons (sv 0) (sa_cons (sv 1) (sa_nil) rfl) rfl) (fun _ _ _ _ _ _ us hl => match us, hl with | [_, _], _ => rfl) (al_cons (al_cons al_nil)) rfl) (pg_nameD (i := 2) nd rfl (by first | exact .inl rfl | exact .inr rfl)))
    (ss_cons (ps_par2D (i := 3) (j := 4) rfl nd rfl rfl (by decide) rfl rfl (sa_cons (se_call c__law_changed hG hr rfl tk (sa_cons (sv 0) (sa_cons (sv 2) (sa_cons (se_int) (sa_nil) rfl) rfl) rfl) (fun _ _ _ _ _ _ us hl => match us, hl with | [_, _, _], _ => rfl) (al_cons (al_cons (al_cons al_nil))) rfl) (sa_cons (se_call c__law_changed hG hr rfl tk (sa_cons (sv 0) (sa_cons (sv 2) (sa_cons (se_int) (sa_nil) rfl) rfl) rfl) (fun _ _ _ _ _ _ us hl => match us, hl with | [_, _, _], _ => rfl) (al_cons (al_cons (al_cons al_nil))) rfl) (sa_nil) rfl) rfl))
    (ss_cons (ps_ifD (st_cmp (ops_eq (room_hu hr)) (se_call c__law_draw hG hr rfl tk (sa_cons (sv 0) (sa_cons (se_int) (sa_nil) rfl) rfl) (fun _ _ _ _ _ _ us hl => match us, hl with | [_, _], _ => rfl) (al_cons (al_cons al_nil)) rfl) (se_int) (nomark _)) (ss_one (ps_asgD (vs := [4]) (se_call c__law_changed hG hr rfl tk (sa_cons (sv 0) (sa_cons (sv 3) (sa_cons (se_int) (sa_nil) rfl) rfl) rfl) (fun _ _ _ _ _ _ us hl => match us, hl with | [_, _, _], _ => rfl) (al_cons (al_cons (al_cons al_nil))) rfl) (pg_nameD (i := 4) nd rfl (by first | exact .inl rfl | exact .inr rfl)))) (ss_nil))
    (ss_one (ps_retD (se_tup (sa_cons (sv 2) (sa_cons (sv 3) (sa_cons (sv 4) (sa_nil) rfl) rfl) rfl)))))))
theorem sc__law_three : FnScope ["base", "one", "other", "lots", "pairs", "keys", "found", "key", "lot"] ["base", "one", "other"] (defScope (topS 42)) := ⟨rfl, rfl, rfl, by decide +kernel, rfl, by decide +kernel, by decide +kernel⟩
theorem ok__law_three (T : Facts K mg)  {yy : Str} {f : Addr} {fd : FuncData} (F : Fun K yy yy (topS 42) f fd) :
    FnG P w K mg base (L2.CX P w) (k + 1) f fd ["base", "one", "other"] (spOf K 3 (call (k + 1) ._law_three)) :=
  fnP false (fnD F sc__law_three (B__law_three (call k)) fun cdv A outer s H E hG hr tk =>
    have nd := sc__law_three.nd
    ss_cons (ps_asgD (vs := [3]) (se_mlst (sa_nil)) (pg_nameD (i := 3) nd rfl (by first | exact .inl rfl | exact .inr rfl)))
    (ss_cons (ps_forD (vs := [4]) (passes_of rfl) rfl (pi_any (se_tup (sa_cons (sv 0) (sa_cons (sv 1) (sa_cons (sv 2) (sa_nil) rfl) rfl) rfl))) (pg_nameD (i := 4) nd rfl (by first | exact .inl rfl | exact .inr rfl)) (ss_one (ps_exprD (se_meth .list PySem.F.plainAttrs_list PySem.F.slot_list_append PySem.F.type_list_append meth_append (sv 3) (sa_cons (se_callTy (calls_mdct rfl) rfl T.b_dict rfl (sa_cons (sv 4) (sa_nil) rfl)) (sa_nil) rfl)))))
    (ss_cons (ps_par2D (i := 5) (j := 6) rfl nd rfl rfl (by decide) rfl rfl (sa_cons (se_sset rfl T.b_sorted rfl T.b_set (se_bin ops_add (se_bin ops_add (se_callTy (calls_listU rfl) rfl T.b_list rfl (sa_cons (se_item (room_hu hr) (sv 3) (se_int)) (sa_nil) rfl)) (se_callTy (calls_listU rfl) rfl T.b_list rfl (sa_cons (se_item (room_hu hr) (sv 3) (se_int)) (sa_nil) rfl))) (se_callTy (calls_listU rfl) rfl T.b_list rfl (sa_cons (se_item (room_hu hr) (sv 3) (se_int)) (sa_nil) rfl))) rfl) (sa_cons (se_mlst (sa_nil)) (sa_nil) rfl) rfl))
    (ss_cons (ps_forD (vs := [7]) (passes_of rfl) rfl (pi_any (sv 5)) (pg_nameD (i := 7) nd rfl (by first | exact .inl rfl | exact .inr rfl)) (ss_one (ps_exprD (se_meth .list PySem.F.plainAttrs_list PySem.F.slot_list_append PySem.F.type_list_append meth_append (sv 6) (sa_cons (se_bin ops_add (se_tup (sa_cons (sv 7) (sa_nil) rfl)) (se_callTy calls_tuple rfl T.b_tuple rfl (sa_cons (se_lc (own := [("lot", 8)]) rfl nd (pi_any (sv 3)) (blkOk_by (by kernel_rfl)) (fun _ _ _ _ _ => pg_nameD (i := 8) nd rfl (by first | exact .inl rfl | exact .inr rfl)) (fun _ _ _ _ _ => sts_nil) (fun _ _ _ _ _ => se_ite (st_cmp (ops_in (room_hu hr)) (sv 7) (sv 8) rfl) (se_tup (sa_cons (se_item (room_hu hr) (sv 8) (sv 7)) (sa_nil) rfl)) (se_tup (sa_nil)))) (sa_nil) rfl))) (sa_nil) rfl)))))
    (ss_one (ps_retD (sv 6)))))))
theorem sc__law_chosen : FnScope ["was", "mine", "theirs"] ["was", "mine", "theirs"] (defScope (topS 41)) := ⟨rfl, rfl, rfl, by decide +kernel, rfl, by decide +kernel, by decide +kernel⟩
theorem ok__law_chosen (T : Facts K mg)  {yy : Str} {f : Addr} {fd : FuncData} (F : Fun K yy yy (topS 41) f fd) :
    FnG P w K mg base (L2.CX P w) (k + 1) f fd ["was", "mine", "theirs"] (spOf K 3 (call (k + 1) ._law_chosen)) :=
  fnP false (fnD F sc__law_chosen (B__law_chosen (call k)) fun cdv A outer s H E hG hr tk =>
    have nd := sc__law_chosen.nd
    ss_cons (ps_ifD (st_cmp (ops_eq (room_hu hr)) (sv 1) (sv 2) (nomark _)) (ss_one (ps_retD (se_lst (sa_cons (sv 1) (sa_nil) rfl)))) (ss_nil))
    (ss_cons (ps_ifD (st_cmp (ops_eq (room_hu hr)) (sv 1) (sv 0) (nomark _)) (ss_one (ps_retD (se_lst (sa_cons (sv 2) (sa_nil) rfl)))) (ss_nil))
    (ss_one (ps_retD (se_ite (st_cmp (ops_eq (room_hu hr)) (sv 2) (sv 0) (nomark _)) (se_lst (sa_cons (sv 1) (sa_nil) rfl)) (se_lst (sa_nil)))))))
theorem sc__law_merged : FnScope ["base", "one", "other", "rule", "found", "lot", "key", "was", "mine", "theirs", "got", "value"] ["base", "one", "other", "rule"] (defScope (topS 43)) := ⟨rfl, rfl, rfl, by decide +kernel, rfl, by decide +kernel, by decide +kernel⟩
theorem ok__law_merged (T : Facts K mg) (c__law_three : Cal P w K mg base k "_law_three" (topS 42) ["base", "one", "other"] (call k ._law_three)) (c__law_chosen : Cal P w K mg base k "_law_chosen" (topS 41) ["was", "mine", "theirs"] (call k ._law_chosen)) {yy : Str} {f : Addr} {fd : FuncData} (F : Fun K yy yy (topS 43) f fd) :
    FnG P w K mg base (L2.CX P w) (k + 1) f fd ["base", "one", "other", "rule"] (spOf K 4 (call (k + 1) ._law_merged)) :=
  fnP false (fnD F sc__law_merged (B__law_merged (call k)) fun cdv A outer s H E hG hr tk =>
    have nd := sc__law_merged.nd
    ss_cons (ps_par2D (i := 4) (j := 5) rfl nd rfl rfl (by decide) rfl rfl (sa_cons (se_lst (sa_nil)) (sa_cons (se_mlst (sa_nil)) (sa_nil) rfl) rfl))
    (ss_cons (ps_forD (vs := [6, 7, 8, 9]) (passes_of rfl) rfl (pi_any (se_call c__law_three hG hr rfl tk (sa_cons (sv 0) (sa_cons (sv 1) (sa_cons (sv 2) (sa_nil) rfl) rfl) rfl) (fun _ _ _ _ _ _ us hl => match us, hl with | [_, _, _], _ => rfl) (al_cons (al_cons (al_cons al_nil))) rfl)) (pg_tupD rfl (pgs_consD (pg_nameD (i := 6) nd rfl (by first | exact .inl rfl | exact .inr rfl)) (pgs_consD (pg_nameD (i := 7) nd rfl (by first | exact .inl rfl | exact .inr rfl)) (pgs_consD (pg_nameD (i := 8) nd rfl (by first | exact .inl rfl | exact .inr rfl)) (pgs_consD (pg_nameD (i := 9) nd rfl (by first | exact .inl rfl | exact .inr rfl)) (pgs_nilD))))) (gs_cons_len (gs_cons_len (gs_cons_len (gs_cons_len gs_nil_len))))) (ss_cons (ps_asgD (vs := [10]) (se_call c__law_chosen hG hr rfl tk (sa_cons (sv 7) (sa_cons (sv 8) (sa_cons (sv 9) (sa_nil) rfl) rfl) rfl) (fun _ _ _ _ _ _ us hl => match us, hl with | [_, _, _], _ => rfl) (al_cons (al_cons (al_cons al_nil))) rfl) (pg_nameD (i := 10) nd rfl (by first | exact .inl rfl | exact .inr rfl)))
    (ss_cons (ps_ifD (st_cmp (ops_eq (room_hu hr)) (sv 10) (se_lst (sa_nil)) (nomark _)) (ss_cons (ps_exprD (se_meth .list PySem.F.plainAttrs_list PySem.F.slot_list_append PySem.F.type_list_append meth_append (sv 5) (sa_cons (sv 6) (sa_nil) rfl)))
    (ss_one (ps_asgD (vs := [10]) (se_lst (sa_cons (se_ite (st_cmp (ops_eq (room_hu hr)) (sv 3) (se_str) (nomark _)) (sv 8) (sv 9)) (sa_nil) rfl)) (pg_nameD (i := 10) nd rfl (by first | exact .inl rfl | exact .inr rfl))))) (ss_nil))
    (ss_one (ps_asgD (vs := [4]) (se_bin ops_add (sv 4) (se_lc (own := [("value", 11)]) rfl nd (pi_any (se_item (room_hu hr) (sv 10) (se_int))) (blkOk_by (by kernel_rfl)) (fun _ _ _ _ _ => pg_nameD (i := 11) nd rfl (by first | exact .inl rfl | exact .inr rfl)) (fun _ _ _ _ _ => sts_nil) (fun _ _ _ _ _ => se_tup (sa_cons (sv 6) (sa_cons (sv 11) (sa_nil) rfl) rfl)))) (pg_nameD (i := 4) nd rfl (by first | exact .inl rfl | exact .inr rfl)))))))
    (ss_cons (ps_ifD (st_bool (sw_and (st_cmp (ops_eq (room_hu hr)) (sv 3) (se_str) (nomark _)) (sw_one (st_cmp (ops_ne (room_hu hr)) (sv 5) (se_lst (sa_nil)) (nomark _))))) (ss_one (ps_retD (se_tup (sa_cons (se_str) (sa_cons (se_callTy calls_tuple rfl T.b_tuple rfl (sa_cons (sv 5) (sa_nil) rfl)) (sa_nil) rfl) rfl)))) (ss_nil))
    (ss_one (ps_retD (se_tup (sa_cons (se_str) (sa_cons (se_callTy calls_tuple rfl T.b_tuple rfl (sa_cons (sv 4) (sa_nil) rfl)) (sa_nil) rfl) rfl)))))))
theorem sc__law_bent : FnScope ["pot", "value", "ways", "at"] ["pot", "value"] (defScope (topS 46)) := ⟨rfl, rfl, rfl, by decide +kernel, rfl, by decide +kernel, by decide +kernel⟩
theorem ok__law_bent (T : Facts K mg) (c__law_draw : Cal P w K mg base k "_law_draw" (topS 36) ["pot", "many"] (call k ._law_draw)) (c__law_bent : Cal P w K mg base k "_law_bent" (topS 46) ["pot", "value"] (call k ._law_bent)) {yy : Str} {f : Addr} {fd : FuncData} (F : Fun K yy yy (topS 46) f fd) :
    FnG P w K mg base (L2.CX P w) (k + 1) f fd ["pot", "value"] (spOf K 2 (call (k + 1) ._law_bent)) :=
  fnP false (fnD F sc__law_bent (B__law_bent (call k)) fun cdv A outer s H E hG hr tk =>
    have nd := sc__law_bent.nd
    ss_cons (ps_ifD (st_bool (sw_or (st_not (st_of (se_isTy .tup rfl T.b_isinstance (sv 1) (pe_bltn rfl T.b_tuple rfl rfl)) (fun _ => rfl))) (sw_or (st_cmp (ops_eq (room_hu hr)) (sv 1) (se_tup (sa_nil)) (nomark _)) (sw_one (st_cmp (ops_eq (room_hu hr)) (se_call c__law_draw hG hr rfl tk (sa_cons (sv 0) (sa_cons (se_int) (sa_nil) rfl) rfl) (fun _ _ _ _ _ _ us hl => match us, hl with | [_, _], _ => rfl) (al_cons (al_cons al_nil)) rfl) (se_int) (nomark _)))))) (ss_cons (ps_asgD (vs := [2]) (se_lst (sa_cons (se_non) (sa_cons (se_tup (sa_nil)) (sa_cons (se_int) (sa_cons (se_bl) (sa_cons (se_str) (sa_cons (se_str) (sa_cons (se_str) (sa_cons (se_lst (sa_nil)) (sa_cons (se_tup (sa_cons (se_tup (sa_cons (se_int) (sa_cons (se_int) (sa_nil) rfl) rfl)) (sa_nil) rfl)) (sa_cons (sv 1) (sa_nil) rfl) rfl) rfl) rfl) rfl) rfl) rfl) rfl) rfl) rfl)) (pg_nameD (i := 2) nd rfl (by first | exact .inl rfl | exact .inr rfl)))
    (ss_cons (ps_ifD (st_of (se_isTy .tup rfl T.b_isinstance (sv 1) (pe_bltn rfl T.b_tuple rfl rfl)) (fun _ => rfl)) (ss_one (ps_asgD (vs := [2]) (se_bin ops_add (sv 2) (se_lst (sa_cons (se_callTy calls_list rfl T.b_list rfl (sa_cons (sv 1) (sa_nil) rfl)) (sa_cons (se_slice (sv 1) (so_none) (so_some (se_un ops_neg (se_int)))) (sa_cons (se_slice (sv 1) (so_some (se_int)) (so_none)) (sa_cons (se_bin ops_add (sv 1) (se_slice (sv 1) (so_none) (so_some (se_int)))) (sa_cons (se_rev (sv 1)) (sa_nil) rfl) rfl) rfl) rfl) rfl))) (pg_nameD (i := 2) nd rfl (by first | exact .inl rfl | exact .inr rfl)))) (ss_nil))
    (ss_cons (ps_ifD (st_of (se_isTy .int rfl T.b_isinstance (sv 1) (pe_bltn rfl T.b_int rfl rfl)) (fun _ => rfl)) (ss_one (ps_asgD (vs := [2]) (se_bin ops_add (sv 2) (se_lst (sa_cons (se_bin ops_add (sv 1) (se_int)) (sa_cons (se_callTy calls_str rfl T.b_str rfl (sa_cons (sv 1) (sa_nil) rfl)) (sa_cons (se_cmp (ops_eq (room_hu hr)) (sv 1) (se_int) (nomark _)) (sa_cons (se_un ops_neg (sv 1)) (sa_nil) rfl) rfl) rfl) rfl))) (pg_nameD (i := 2) nd rfl (by first | exact .inl rfl | exact .inr rfl)))) (ss_nil))
    (ss_one (ps_retD (se_item (room_hu hr) (sv 2) (se_call c__law_draw hG hr rfl tk (sa_cons (sv 0) (sa_cons (se_callB calls_len rfl T.b_len rfl (sa_cons (sv 2) (sa_nil) rfl)) (sa_nil) rfl) rfl) (fun _ _ _ _ _ _ us hl => match us, hl with | [_, _], _ => rfl) (al_cons (al_cons al_nil)) rfl))))))) (ss_nil))
    (ss_cons (ps_asgD (vs := [3]) (se_call c__law_draw hG hr rfl tk (sa_cons (sv 0) (sa_cons (se_callB calls_len rfl T.b_len rfl (sa_cons (sv 1) (sa_nil) rfl)) (sa_nil) rfl) rfl) (fun _ _ _ _ _ _ us hl => match us, hl with | [_, _], _ => rfl) (al_cons (al_cons al_nil)) rfl) (pg_nameD (i := 3) nd rfl (by first | exact .inl rfl | exact .inr rfl)))
    (ss_one (ps_retD (se_bin ops_add (se_bin ops_add (se_slice (sv 1) (so_none) (so_some (sv 3))) (se_tup (sa_cons (se_call c__law_bent hG hr rfl tk (sa_cons (sv 0) (sa_cons (se_item (room_hu hr) (sv 1) (sv 3)) (sa_nil) rfl) rfl) (fun _ _ _ _ _ _ us hl => match us, hl with | [_, _], _ => rfl) (al_cons (al_cons al_nil)) rfl) (sa_nil) rfl))) (se_slice (sv 1) (so_some (se_bin ops_add (sv 3) (se_int))) (so_none)))))))
theorem sc__law_same : FnScope ["one", "other", "a", "b"] ["one", "other"] (defScope (topS 45)) := ⟨rfl, rfl, rfl, by decide +kernel, rfl, by decide +kernel, by decide +kernel⟩
theorem ok__law_same (T : Facts K mg) (c__law_same : Cal P w K mg base k "_law_same" (topS 45) ["one", "other"] (call k ._law_same)) {yy : Str} {f : Addr} {fd : FuncData} (F : Fun K yy yy (topS 45) f fd) :
    FnG P w K mg base (L2.CX P w) (k + 1) f fd ["one", "other"] (spOf K 2 (call (k + 1) ._law_same)) :=
  fnP false (fnD F sc__law_same (B__law_same (call k)) fun cdv A outer s H E hG hr tk =>
    have nd := sc__law_same.nd
    ss_cons (ps_ifD (st_bool (sw_and (st_of (se_isTy .tup rfl T.b_isinstance (sv 0) (pe_bltn rfl T.b_tuple rfl rfl)) (fun _ => rfl)) (sw_one (st_of (se_isTy .tup rfl T.b_isinstance (sv 1) (pe_bltn rfl T.b_tuple rfl rfl)) (fun _ => rfl))))) (ss_one (ps_retD (se_and (se_cmp (ops_eq (room_hu hr)) (se_callB calls_len rfl T.b_len rfl (sa_cons (sv 0) (sa_nil) rfl)) (se_callB calls_len rfl T.b_len rfl (sa_cons (sv 1) (sa_nil) rfl)) (nomark _)) (se_one (se_callB (calls_all rfl) rfl T.b_all rfl (sa_cons (se_lc (own := [("a", 2), ("b", 3)]) rfl nd (pi_zipF rfl T.b_zip (sa_cons (sv 0) (sa_cons (sv 1) (sa_nil) rfl) rfl)) (blkOk_by (by kernel_rfl)) (fun _ _ _ _ _ => pg_tupD rfl (pgs_consD (pg_nameD (i := 2) nd rfl (by first | exact .inl rfl | exact .inr rfl)) (pgs_consD (pg_nameD (i := 3) nd rfl (by first | exact .inl rfl | exact .inr rfl)) (pgs_nilD))) (gs_cons_len (gs_cons_len gs_nil_len))) (fun _ _ _ _ _ => sts_nil) (fun _ _ _ _ _ => se_call c__law_same hG hr rfl takes0 (sa_cons (sv 2) (sa_cons (sv 3) (sa_nil) rfl) rfl) (fun _ _ _ _ _ _ us hl => match us, hl with | [_, _], _ => rfl) (al_cons (al_cons al_nil)) rfl)) (sa_nil) rfl)))))) (ss_nil))
    (ss_cons (ps_ifD (st_bool (sw_or (st_cmp (ops_ne (room_hu hr)) (se_isTy .bool rfl T.b_isinstance (sv 0) (pe_bltn rfl T.b_bool rfl rfl)) (se_isTy .bool rfl T.b_isinstance (sv 1) (pe_bltn rfl T.b_bool rfl rfl)) (nomark _)) (sw_one (st_cmp (ops_ne (room_hu hr)) (se_isTy .str rfl T.b_isinstance (sv 0) (pe_bltn rfl T.b_str rfl rfl)) (se_isTy .str rfl T.b_isinstance (sv 1) (pe_bltn rfl T.b_str rfl rfl)) (nomark _))))) (ss_one (ps_retD (se_bl))) (ss_nil))
    (ss_one (ps_retD (se_and (se_isTy2 .int .str rfl T.b_isinstance (sv 0) (pe_bltn rfl T.b_int rfl rfl) (pe_bltn rfl T.b_str rfl rfl)) (se_and (se_isTy2 .int .str rfl T.b_isinstance (sv 1) (pe_bltn rfl T.b_int rfl rfl) (pe_bltn rfl T.b_str rfl rfl)) (se_one (se_cmp (ops_eq (room_hu hr)) (sv 0) (sv 1) (nomark _)))))))))
theorem sc_is_like : FnScope ["value", "due", "part", "other"] ["value", "due"] (defScope (topS 32)) := ⟨rfl, rfl, rfl, by decide +kernel, rfl, by decide +kernel, by decide +kernel⟩
theorem ok_is_like (T : Facts K mg) (c_is_like : Cal P w K mg base k "is_like" (topS 32) ["value", "due"] (call k .is_like)) {yy : Str} {f : Addr} {fd : FuncData} (F : Fun K yy yy (topS 32) f fd) :
    FnG P w K mg base (L2.CX P w) (k + 1) f fd ["value", "due"] (spOf K 2 (call (k + 1) .is_like)) :=
  fnP false (fnD F sc_is_like (B_is_like (call k)) fun cdv A outer s H E hG hr tk =>
    have nd := sc_is_like.nd
    ss_cons (ps_ifD (st_of (se_isTy .tup rfl T.b_isinstance (sv 1) (pe_bltn rfl T.b_tuple rfl rfl)) (fun _ => rfl)) (ss_cons (ps_ifD (st_bool (sw_or (st_not (st_of (se_isTy .tup rfl T.b_isinstance (sv 0) (pe_bltn rfl T.b_tuple rfl rfl)) (fun _ => rfl))) (sw_one (st_cmp (ops_ne (room_hu hr)) (se_callB calls_len rfl T.b_len rfl (sa_cons (sv 0) (sa_nil) rfl)) (se_callB calls_len rfl T.b_len rfl (sa_cons (sv 1) (sa_nil) rfl)) (nomark _))))) (ss_one (ps_retD (se_bl))) (ss_nil))
    (ss_one (ps_retD (se_callB (calls_all rfl) rfl T.b_all rfl (sa_cons (se_lc (own := [("part", 2), ("other", 3)]) rfl nd (pi_zipF rfl T.b_zip (sa_cons (sv 0) (sa_cons (sv 1) (sa_nil) rfl) rfl)) (blkOk_by (by kernel_rfl)) (fun _ _ _ _ _ => pg_tupD rfl (pgs_consD (pg_nameD (i := 2) nd rfl (by first | exact .inl rfl | exact .inr rfl)) (pgs_consD (pg_nameD (i := 3) nd rfl (by first | exact .inl rfl | exact .inr rfl)) (pgs_nilD))) (gs_cons_len (gs_cons_len gs_nil_len))) (fun _ _ _ _ _ => sts_nil) (fun _ _ _ _ _ => se_call c_is_like hG hr rfl takes0 (sa_cons (sv 2) (sa_cons (sv 3) (sa_nil) rfl) rfl) (fun _ _ _ _ _ _ us hl => match us, hl with | [_, _], _ => rfl) (al_cons (al_cons al_nil)) rfl)) (sa_nil) rfl))))) (ss_nil))
    (ss_cons (ps_ifD (st_bool (sw_or (st_of (se_isTy .bool rfl T.b_isinstance (sv 0) (pe_bltn rfl T.b_bool rfl rfl)) (fun _ => rfl)) (sw_one (st_cmp (ops_ne (room_hu hr)) (se_isTy .str rfl T.b_isinstance (sv 0) (pe_bltn rfl T.b_str rfl rfl)) (se_isTy .str rfl T.b_isinstance (sv 1) (pe_bltn rfl T.b_str rfl rfl)) (nomark _))))) (ss_one (ps_retD (se_bl))) (ss_nil))
    (ss_one (ps_retD (se_and (se_isTy2 .int .str rfl T.b_isinstance (sv 0) (pe_bltn rfl T.b_int rfl rfl) (pe_bltn rfl T.b_str rfl rfl)) (se_one (se_cmp (ops_eq (room_hu hr)) (sv 0) (sv 1) (nomark _))))))))
theorem sc_are_rising : FnScope ["pairs", "keys", "key", "value", "at"] ["pairs"] (defScope (topS 17)) := ⟨rfl, rfl, rfl, by decide +kernel, rfl, by decide +kernel, by decide +kernel⟩
theorem ok_are_rising (T : Facts K mg)  {yy : Str} {f : Addr} {fd : FuncData} (F : Fun K yy yy (topS 17) f fd) :
    FnG P w K mg base (L2.CX P w) (k + 1) f fd ["pairs"] (spOf K 1 (call (k + 1) .are_rising)) :=
  fnP false (fnD F sc_are_rising (B_are_rising (call k)) fun cdv A outer s H E hG hr tk =>
    have nd := sc_are_rising.nd
    ss_cons (ps_asgD (vs := [1]) (se_lc (own := [("key", 2), ("value", 3)]) rfl nd (pi_any (sv 0)) (blkOk_by (by kernel_rfl)) (fun _ _ _ _ _ => pg_tupD rfl (pgs_consD (pg_nameD (i := 2) nd rfl (by first | exact .inl rfl | exact .inr rfl)) (pgs_consD (pg_nameD (i := 3) nd rfl (by first | exact .inl rfl | exact .inr rfl)) (pgs_nilD))) (gs_cons_len (gs_cons_len gs_nil_len))) (fun _ _ _ _ _ => sts_nil) (fun _ _ _ _ _ => sv 2)) (pg_nameD (i := 1) nd rfl (by first | exact .inl rfl | exact .inr rfl)))
    (ss_one (ps_retD (se_and (se_cmp (ops_le (room_hu hr)) (se_callB calls_len rfl T.b_len rfl (sa_cons (sv 1) (sa_nil) rfl)) (se_gint T.c_MOST_PAIRS) (nomark _)) (se_one (se_callB (calls_all rfl) rfl T.b_all rfl (sa_cons (se_lc (own := [("at", 4)]) rfl nd (pi_range1D rfl T.b_range (sa_cons (se_bin ops_sub (se_callB calls_len rfl T.b_len rfl (sa_cons (sv 1) (sa_nil) rfl)) (se_int)) (sa_nil) rfl)) (blkOk_by (by kernel_rfl)) (fun _ _ _ _ _ => pg_nameD (i := 4) nd rfl (by first | exact .inl rfl | exact .inr rfl)) (fun _ _ _ _ _ => sts_nil) (fun _ _ _ _ _ => se_cmp (ops_lt (room_hu hr)) (se_item (room_hu hr) (sv 1) (sv 4)) (se_item (room_hu hr) (sv 1) (se_bin ops_add (sv 4) (se_int))) (nomark _))) (sa_nil) rfl)))))))
theorem sc_is_tuple_of : FnScope ["many", "value"] ["many", "value"] (defScope (topS 7)) := ⟨rfl, rfl, rfl, by decide +kernel, rfl, by decide +kernel, by decide +kernel⟩
theorem ok_is_tuple_of (T : Facts K mg)  {yy : Str} {f : Addr} {fd : FuncData} (F : Fun K yy yy (topS 7) f fd) :
    FnG P w K mg base (L2.CX P w) (k + 1) f fd ["many", "value"] (spOf K 2 (call (k + 1) .is_tuple_of)) :=
  fnP false (fnD F sc_is_tuple_of (B_is_tuple_of (call k)) fun cdv A outer s H E hG hr tk =>
    have nd := sc_is_tuple_of.nd
    ss_one (ps_retD (se_and (se_isTy .tup rfl T.b_isinstance (sv 1) (pe_bltn rfl T.b_tuple rfl rfl)) (se_one (se_cmp (ops_eq (room_hu hr)) (se_callB calls_len rfl T.b_len rfl (sa_cons (sv 1) (sa_nil) rfl)) (sv 0) (nomark _))))))
theorem sc_is_integer : FnScope ["value"] ["value"] (defScope (topS 5)) := ⟨rfl, rfl, rfl, by decide +kernel, rfl, by decide +kernel, by decide +kernel⟩
theorem ok_is_integer (T : Facts K mg)  {yy : Str} {f : Addr} {fd : FuncData} (F : Fun K yy yy (topS 5) f fd) :
    FnG P w K mg base (L2.CX P w) (k + 1) f fd ["value"] (spOf K 1 (call (k + 1) .is_integer)) :=
  fnP false (fnD F sc_is_integer (B_is_integer (call k)) fun cdv A outer s H E hG hr tk =>
    have nd := sc_is_integer.nd
    ss_one (ps_retD (se_and (se_isTy .int rfl T.b_isinstance (sv 0) (pe_bltn rfl T.b_int rfl rfl)) (se_one (se_notE (se_isTy .bool rfl T.b_isinstance (sv 0) (pe_bltn rfl T.b_bool rfl rfl)))))))
theorem sc_is_between : FnScope ["low", "value", "high"] ["low", "value", "high"] (defScope (topS 6)) := ⟨rfl, rfl, rfl, by decide +kernel, rfl, by decide +kernel, by decide +kernel⟩
theorem ok_is_between (T : Facts K mg) (c_is_integer : Cal P w K mg base k "is_integer" (topS 5) ["value"] (call k .is_integer)) {yy : Str} {f : Addr} {fd : FuncData} (F : Fun K yy yy (topS 6) f fd) :
    FnG P w K mg base (L2.CX P w) (k + 1) f fd ["low", "value", "high"] (spOf K 3 (call (k + 1) .is_between)) :=
  fnP false (fnD F sc_is_between (B_is_between (call k)) fun cdv A outer s H E hG hr tk =>
    have nd := sc_is_between.nd
    ss_one (ps_retD (se_and (se_call c_is_integer hG hr rfl tk (sa_cons (sv 1) (sa_nil) rfl) (fun _ _ _ _ _ _ us hl => match us, hl with | [_], _ => rfl) (al_cons al_nil) rfl) (se_one (se_chain (ops_le (room_hu hr)) (ops_le (room_hu hr)) (sv 0) (sv 1) (sv 2))))))
theorem sc_is_key : FnScope ["value"] ["value"] (defScope (topS 13)) := ⟨rfl, rfl, rfl, by decide +kernel, rfl, by decide +kernel, by decide +kernel⟩
theorem ok_is_key (T : Facts K mg) (c_is_between : Cal P w K mg base k "is_between" (topS 6) ["low", "value", "high"] (call k .is_between)) {yy : Str} {f : Addr} {fd : FuncData} (F : Fun K yy yy (topS 13) f fd) :
    FnG P w K mg base (L2.CX P w) (k + 1) f fd ["value"] (spOf K 1 (call (k + 1) .is_key)) :=
  fnP false (fnD F sc_is_key (B_is_key (call k)) fun cdv A outer s H E hG hr tk =>
    have nd := sc_is_key.nd
    ss_one (ps_retD (se_call c_is_between hG hr rfl tk (sa_cons (se_int) (sa_cons (sv 0) (sa_cons (se_gint T.c_MOST_KEY) (sa_nil) rfl) rfl) rfl) (fun _ _ _ _ _ _ us hl => match us, hl with | [_, _, _], _ => rfl) (al_cons (al_cons (al_cons al_nil))) rfl)))
theorem sc_is_short_text : FnScope ["value", "sign"] ["value"] (defScope (topS 14)) := ⟨rfl, rfl, rfl, by decide +kernel, rfl, by decide +kernel, by decide +kernel⟩
theorem ok_is_short_text (T : Facts K mg)  {yy : Str} {f : Addr} {fd : FuncData} (F : Fun K yy yy (topS 14) f fd) :
    FnG P w K mg base (L2.CX P w) (k + 1) f fd ["value"] (spOf K 1 (call (k + 1) .is_short_text)) :=
  fnP false (fnD F sc_is_short_text (B_is_short_text (call k)) fun cdv A outer s H E hG hr tk =>
    have nd := sc_is_short_text.nd
    ss_one (ps_retD (se_and (se_isTy .str rfl T.b_isinstance (sv 0) (pe_bltn rfl T.b_str rfl rfl)) (se_and (se_cmp (ops_le (room_hu hr)) (se_callB calls_len rfl T.b_len rfl (sa_cons (sv 0) (sa_nil) rfl)) (se_gint T.c_MOST_SIGNS) (nomark _)) (se_one (se_callB (calls_all rfl) rfl T.b_all rfl (sa_cons (se_lc (own := [("sign", 1)]) rfl nd (pi_any (sv 0)) (blkOk_by (by kernel_rfl)) (fun _ _ _ _ _ => pg_nameD (i := 1) nd rfl (by first | exact .inl rfl | exact .inr rfl)) (fun _ _ _ _ _ => sts_nil) (fun _ _ _ _ _ => se_chain (ops_le (room_hu hr)) (ops_le (room_hu hr)) (se_str) (sv 1) (se_str))) (sa_nil) rfl)))))))
theorem sc_is_value : FnScope ["value"] ["value"] (defScope (topS 15)) := ⟨rfl, rfl, rfl, by decide +kernel, rfl, by decide +kernel, by decide +kernel⟩
theorem ok_is_value (T : Facts K mg) (c_is_between : Cal P w K mg base k "is_between" (topS 6) ["low", "value", "high"] (call k .is_between)) (c_is_short_text : Cal P w K mg base k "is_short_text" (topS 14) ["value"] (call k .is_short_text)) {yy : Str} {f : Addr} {fd : FuncData} (F : Fun K yy yy (topS 15) f fd) :
    FnG P w K mg base (L2.CX P w) (k + 1) f fd ["value"] (spOf K 1 (call (k + 1) .is_value)) :=
  fnP false (fnD F sc_is_value (B_is_value (call k)) fun cdv A outer s H E hG hr tk =>
    have nd := sc_is_value.nd
    ss_one (ps_retD (se_or (se_call c_is_between hG hr rfl tk (sa_cons (se_un ops_neg (se_gint T.c_MOST_VALUE)) (sa_cons (sv 0) (sa_cons (se_gint T.c_MOST_VALUE) (sa_nil) rfl) rfl) rfl) (fun _ _ _ _ _ _ us hl => match us, hl with | [_, _, _], _ => rfl) (al_cons (al_cons (al_cons al_nil))) rfl) (se_one (se_call c_is_short_text hG hr rfl tk (sa_cons (sv 0) (sa_nil) rfl) (fun _ _ _ _ _ _ us hl => match us, hl with | [_], _ => rfl) (al_cons al_nil) rfl)))))
theorem sc_is_a_pair : FnScope ["value"] ["value"] (defScope (topS 16)) := ⟨rfl, rfl, rfl, by decide +kernel, rfl, by decide +kernel, by decide +kernel⟩
theorem ok_is_a_pair (T : Facts K mg) (c_is_tuple_of : Cal P w K mg base k "is_tuple_of" (topS 7) ["many", "value"] (call k .is_tuple_of)) (c_is_key : Cal P w K mg base k "is_key" (topS 13) ["value"] (call k .is_key)) (c_is_value : Cal P w K mg base k "is_value" (topS 15) ["value"] (call k .is_value)) {yy : Str} {f : Addr} {fd : FuncData} (F : Fun K yy yy (topS 16) f fd) :
    FnG P w K mg base (L2.CX P w) (k + 1) f fd ["value"] (spOf K 1 (call (k + 1) .is_a_pair)) :=
  fnP false (fnD F sc_is_a_pair (B_is_a_pair (call k)) fun cdv A outer s H E hG hr tk =>
    have nd := sc_is_a_pair.nd
    ss_one (ps_retD (se_and (se_call c_is_tuple_of hG hr rfl tk (sa_cons (se_int) (sa_cons (sv 0) (sa_nil) rfl) rfl) (fun _ _ _ _ _ _ us hl => match us, hl with | [_, _], _ => rfl) (al_cons (al_cons al_nil)) rfl) (se_and (se_call c_is_key hG hr rfl tk (sa_cons (se_item (room_hu hr) (sv 0) (se_int)) (sa_nil) rfl) (fun _ _ _ _ _ _ us hl => match us, hl with | [_], _ => rfl) (al_cons al_nil) rfl) (se_one (se_call c_is_value hG hr rfl tk (sa_cons (se_item (room_hu hr) (sv 0) (se_int)) (sa_nil) rfl) (fun _ _ _ _ _ _ us hl => match us, hl with | [_], _ => rfl) (al_cons al_nil) rfl))))))
theorem sc_is_a_pairs : FnScope ["value", "pair"] ["value"] (defScope (topS 18)) := ⟨rfl, rfl, rfl, by decide +kernel, rfl, by decide +kernel, by decide +kernel⟩
theorem ok_is_a_pairs (T : Facts K mg) (c_is_a_pair : Cal P w K mg base k "is_a_pair" (topS 16) ["value"] (call k .is_a_pair)) (c_are_rising : Cal P w K mg base k "are_rising" (topS 17) ["pairs"] (call k .are_rising)) {yy : Str} {f : Addr} {fd : FuncData} (F : Fun K yy yy (topS 18) f fd) :
    FnG P w K mg base (L2.CX P w) (k + 1) f fd ["value"] (spOf K 1 (call (k + 1) .is_a_pairs)) :=
  fnP false (fnD F sc_is_a_pairs (B_is_a_pairs (call k)) fun cdv A outer s H E hG hr tk =>
    have nd := sc_is_a_pairs.nd
    ss_one (ps_retD (se_and (se_isTy .tup rfl T.b_isinstance (sv 0) (pe_bltn rfl T.b_tuple rfl rfl)) (se_and (se_callB (calls_all rfl) rfl T.b_all rfl (sa_cons (se_lc (own := [("pair", 1)]) rfl nd (pi_any (sv 0)) (blkOk_by (by kernel_rfl)) (fun _ _ _ _ _ => pg_nameD (i := 1) nd rfl (by first | exact .inl rfl | exact .inr rfl)) (fun _ _ _ _ _ => sts_nil) (fun _ _ _ _ _ => se_call c_is_a_pair hG hr rfl takes0 (sa_cons (sv 1) (sa_nil) rfl) (fun _ _ _ _ _ _ us hl => match us, hl with | [_], _ => rfl) (al_cons al_nil) rfl)) (sa_nil) rfl)) (se_one (se_call c_are_rising hG hr rfl tk (sa_cons (sv 0) (sa_nil) rfl) (fun _ _ _ _ _ _ us hl => match us, hl with | [_], _ => rfl) (al_cons al_nil) rfl))))))
theorem sc_need_pairs : FnScope ["value"] ["value"] (defScope (topS 19)) := ⟨rfl, rfl, rfl, by decide +kernel, rfl, by decide +kernel, by decide +kernel⟩
theorem ok_need_pairs (T : Facts K mg) (c_is_a_pairs : Cal P w K mg base k "is_a_pairs" (topS 18) ["value"] (call k .is_a_pairs)) {yy : Str} {f : Addr} {fd : FuncData} (F : Fun K yy yy (topS 19) f fd) :
    FnG P w K mg base (L2.CX P w) (k + 1) f fd ["value"] (spOf K 1 (call (k + 1) .need_pairs)) :=
  fnP false (fnD F sc_need_pairs (B_need_pairs (call k)) fun cdv A outer s H E hG hr tk =>
    have nd := sc_need_pairs.nd
    ss_one (ps_ifD (st_not (st_of (se_call c_is_a_pairs hG hr rfl tk (sa_cons (sv 0) (sa_nil) rfl) (fun _ _ _ _ _ _ us hl => match us, hl with | [_], _ => rfl) (al_cons al_nil) rfl) (fun _ => rfl))) (ss_one (ps_neverD)) (ss_nil)))
theorem sc_need_three : FnScope ["base", "one", "other"] ["base", "one", "other"] (defScope (topS 26)) := ⟨rfl, rfl, rfl, by decide +kernel, rfl, by decide +kernel, by decide +kernel⟩
theorem ok_need_three (T : Facts K mg) (c_need_pairs : Cal P w K mg base k "need_pairs" (topS 19) ["value"] (call k .need_pairs)) {yy : Str} {f : Addr} {fd : FuncData} (F : Fun K yy yy (topS 26) f fd) :
    FnG P w K mg base (L2.CX P w) (k + 1) f fd ["base", "one", "other"] (spOf K 3 (call (k + 1) .need_three)) :=
  fnP false (fnD F sc_need_three (B_need_three (call k)) fun cdv A outer s H E hG hr tk =>
    have nd := sc_need_three.nd
    ss_cons (ps_exprD (se_call c_need_pairs hG hr rfl tk (sa_cons (sv 0) (sa_nil) rfl) (fun _ _ _ _ _ _ us hl => match us, hl with | [_], _ => rfl) (al_cons al_nil) rfl))
    (ss_cons (ps_exprD (se_call c_need_pairs hG hr rfl tk (sa_cons (sv 1) (sa_nil) rfl) (fun _ _ _ _ _ _ us hl => match us, hl with | [_], _ => rfl) (al_cons al_nil) rfl))
    (ss_one (ps_exprD (se_call c_need_pairs hG hr rfl tk (sa_cons (sv 2) (sa_nil) rfl) (fun _ _ _ _ _ _ us hl => match us, hl with | [_], _ => rfl) (al_cons al_nil) rfl)))))
theorem sc_need_rule : FnScope ["rule"] ["rule"] (defScope (topS 25)) := ⟨rfl, rfl, rfl, by decide +kernel, rfl, by decide +kernel, by decide +kernel⟩
theorem ok_need_rule (T : Facts K mg)  {yy : Str} {f : Addr} {fd : FuncData} (F : Fun K yy yy (topS 25) f fd) :
    FnG P w K mg base (L2.CX P w) (k + 1) f fd ["rule"] (spOf K 1 (call (k + 1) .need_rule)) :=
  fnP false (fnD F sc_need_rule (B_need_rule (call k)) fun cdv A outer s H E hG hr tk =>
    have nd := sc_need_rule.nd
    ss_one (ps_ifD (st_bool (sw_or (st_not (st_of (se_isTy .str rfl T.b_isinstance (sv 0) (pe_bltn rfl T.b_str rfl rfl)) (fun _ => rfl))) (sw_one (st_cmp (ops_notin (room_hu hr)) (sv 0) (se_tup (sa_cons (se_gstr T.c_ONE) (sa_cons (se_gstr T.c_OTHER) (sa_cons (se_gstr T.c_CLASH) (sa_nil) rfl) rfl) rfl)) rfl)))) (ss_one (ps_neverD)) (ss_nil)))
theorem sc_three_ways : FnScope ["base", "one", "other", "lots", "keys", "pairs", "key", "value"] ["base", "one", "other"] (defScope (topS 27)) := ⟨rfl, rfl, rfl, by decide +kernel, rfl, by decide +kernel, by decide +kernel⟩
theorem ok_three_ways (T : Facts K mg)  {yy : Str} {f : Addr} {fd : FuncData} (F : Fun K yy yy (topS 27) f fd) :
    FnG P w K mg base (L2.CX P w) (k + 1) f fd ["base", "one", "other"] (spOf K 3 (call (k + 1) .three_ways)) :=
  fnP false (fnD F sc_three_ways (B_three_ways (call k)) fun cdv A outer s H E hG hr tk =>
    have nd := sc_three_ways.nd
    ss_cons (ps_asgD (vs := [3]) (se_lc (own := [("pairs", 5)]) rfl nd (pi_any (se_tup (sa_cons (sv 0) (sa_cons (sv 1) (sa_cons (sv 2) (sa_nil) rfl) rfl) rfl))) (blkOk_by (by kernel_rfl)) (fun _ _ _ _ _ => pg_nameD (i := 5) nd rfl (by first | exact .inl rfl | exact .inr rfl)) (fun _ _ _ _ _ => sts_nil) (fun _ _ _ _ _ => se_dc (own := [("key", 6), ("value", 7)]) rfl nd (pi_any (sv 5)) (blkOk_by (by kernel_rfl)) (fun _ _ _ _ _ => pg_tupD rfl (pgs_consD (pg_nameD (i := 6) nd rfl (by first | exact .inl rfl | exact .inr rfl)) (pgs_consD (pg_nameD (i := 7) nd rfl (by first | exact .inl rfl | exact .inr rfl)) (pgs_nilD))) (gs_cons_len (gs_cons_len gs_nil_len))) (fun _ _ _ _ _ => sts_nil) (fun _ _ _ _ _ => sv 6) (fun _ _ _ _ _ => se_tup (sa_cons (sv 7) (sa_nil) rfl)))) (pg_nameD (i := 3) nd rfl (by first | exact .inl rfl | exact .inr rfl)))
    (ss_cons (ps_asgD (vs := [4]) (se_sst rfl rfl T.b_sorted (pst_or (pst_or (pst_ofD rfl rfl T.b_set (se_item (room_hu hr) (sv 3) (se_int))) (pst_ofD rfl rfl T.b_set (se_item (room_hu hr) (sv 3) (se_int)))) (pst_ofD rfl rfl T.b_set (se_item (room_hu hr) (sv 3) (se_int))))) (pg_nameD (i := 4) nd rfl (by first | exact .inl rfl | exact .inr rfl)))
    (ss_one (ps_retD (se_lc (own := [("key", 6)]) rfl nd (pi_any (sv 4)) (blkOk_by (by kernel_rfl)) (fun _ _ _ _ _ => pg_nameD (i := 6) nd rfl (by first | exact .inl rfl | exact .inr rfl)) (fun _ _ _ _ _ => sts_nil) (fun _ _ _ _ _ => se_tup (sa_cons (sv 6) (sa_cons (se_meth .dict PySem.F.plainAttrs_dict PySem.F.slot_dict_get PySem.F.type_dict_get (meth_dget2 (room_hu hr)) (se_item (room_hu hr) (sv 3) (se_int)) (sa_cons (sv 6) (sa_cons (se_tup (sa_nil)) (sa_nil) rfl) rfl)) (sa_cons (se_meth .dict PySem.F.plainAttrs_dict PySem.F.slot_dict_get PySem.F.type_dict_get (meth_dget2 (room_hu hr)) (se_item (room_hu hr) (sv 3) (se_int)) (sa_cons (sv 6) (sa_cons (se_tup (sa_nil)) (sa_nil) rfl) rfl)) (sa_cons (se_meth .dict PySem.F.plainAttrs_dict PySem.F.slot_dict_get PySem.F.type_dict_get (meth_dget2 (room_hu hr)) (se_item (room_hu hr) (sv 3) (se_int)) (sa_cons (sv 6) (sa_cons (se_tup (sa_nil)) (sa_nil) rfl) rfl)) (sa_nil) rfl) rfl) rfl) rfl)))))))
theorem sc_chosen : FnScope ["was", "mine", "theirs"] ["was", "mine", "theirs"] (defScope (topS 28)) := ⟨rfl, rfl, rfl, by decide +kernel, rfl, by decide +kernel, by decide +kernel⟩
theorem ok_chosen (T : Facts K mg)  {yy : Str} {f : Addr} {fd : FuncData} (F : Fun K yy yy (topS 28) f fd) :
    FnG P w K mg base (L2.CX P w) (k + 1) f fd ["was", "mine", "theirs"] (spOf K 3 (call (k + 1) .chosen)) :=
  fnP false (fnD F sc_chosen (B_chosen (call k)) fun cdv A outer s H E hG hr tk =>
    have nd := sc_chosen.nd
    ss_cons (ps_ifD (st_bool (sw_or (st_cmp (ops_eq (room_hu hr)) (sv 1) (sv 2) (nomark _)) (sw_one (st_cmp (ops_eq (room_hu hr)) (sv 2) (sv 0) (nomark _))))) (ss_one (ps_retD (sv 1))) (ss_nil))
    (ss_one (ps_retD (se_ite (st_cmp (ops_eq (room_hu hr)) (sv 1) (sv 0) (nomark _)) (sv 2) (se_non)))))
theorem sc_clashes_of : FnScope ["base", "one", "other", "key", "was", "mine", "theirs"] ["base", "one", "other"] (defScope (topS 29)) := ⟨rfl, rfl, rfl, by decide +kernel, rfl, by decide +kernel, by decide +kernel⟩
theorem ok_clashes_of (T : Facts K mg) (c_three_ways : Cal P w K mg base k "three_ways" (topS 27) ["base", "one", "other"] (call k .three_ways)) (c_chosen : Cal P w K mg base k "chosen" (topS 28) ["was", "mine", "theirs"] (call k .chosen)) {yy : Str} {f : Addr} {fd : FuncData} (F : Fun K yy yy (topS 29) f fd) :
    FnG P w K mg base (L2.CX P w) (k + 1) f fd ["base", "one", "other"] (spOf K 3 (call (k + 1) .clashes_of)) :=
  fnP false (fnD F sc_clashes_of (B_clashes_of (call k)) fun cdv A outer s H E hG hr tk =>
    have nd := sc_clashes_of.nd
    ss_one (ps_retD (se_callTy calls_tuple rfl T.b_tuple rfl (sa_cons (se_lc (own := [("key", 3), ("was", 4), ("mine", 5), ("theirs", 6)]) rfl nd (pi_any (se_call c_three_ways hG hr rfl tk (sa_cons (sv 0) (sa_cons (sv 1) (sa_cons (sv 2) (sa_nil) rfl) rfl) rfl) (fun _ _ _ _ _ _ us hl => match us, hl with | [_, _, _], _ => rfl) (al_cons (al_cons (al_cons al_nil))) rfl)) (blkOk_by (by kernel_rfl)) (fun _ _ _ _ _ => pg_tupD rfl (pgs_consD (pg_nameD (i := 3) nd rfl (by first | exact .inl rfl | exact .inr rfl)) (pgs_consD (pg_nameD (i := 4) nd rfl (by first | exact .inl rfl | exact .inr rfl)) (pgs_consD (pg_nameD (i := 5) nd rfl (by first | exact .inl rfl | exact .inr rfl)) (pgs_consD (pg_nameD (i := 6) nd rfl (by first | exact .inl rfl | exact .inr rfl)) (pgs_nilD))))) (gs_cons_len (gs_cons_len (gs_cons_len (gs_cons_len gs_nil_len))))) (fun _ _ _ _ _ => sts_one (st_cmp ops_is (se_call c_chosen hG hr rfl takes0 (sa_cons (sv 4) (sa_cons (sv 5) (sa_cons (sv 6) (sa_nil) rfl) rfl) rfl) (fun _ _ _ _ _ _ us hl => match us, hl with | [_, _, _], _ => rfl) (al_cons (al_cons (al_cons al_nil))) rfl) (se_non) (nomark _))) (fun _ _ _ _ _ => sv 3)) (sa_nil) rfl))))
theorem sc_merge : FnScope ["base", "one", "other", "rule", "clashing", "found", "key", "was", "mine", "theirs", "got", "value"] ["base", "one", "other", "rule"] (defScope (topS 30)) := ⟨rfl, rfl, rfl, by decide +kernel, rfl, by decide +kernel, by decide +kernel⟩
theorem ok_merge (T : Facts K mg) (c_clashes_of : Cal P w K mg base k "clashes_of" (topS 29) ["base", "one", "other"] (call k .clashes_of)) (c_three_ways : Cal P w K mg base k "three_ways" (topS 27) ["base", "one", "other"] (call k .three_ways)) (c_chosen : Cal P w K mg base k "chosen" (topS 28) ["was", "mine", "theirs"] (call k .chosen)) {yy : Str} {f : Addr} {fd : FuncData} (F : Fun K yy yy (topS 30) f fd) :
    FnG P w K mg base (L2.CX P w) (k + 1) f fd ["base", "one", "other", "rule"] (spOf K 4 (call (k + 1) .merge)) :=
  fnP false (fnD F sc_merge (B_merge (call k)) fun cdv A outer s H E hG hr tk =>
    have nd := sc_merge.nd
    ss_cons (ps_asgD (vs := [4]) (se_call c_clashes_of hG hr rfl tk (sa_cons (sv 0) (sa_cons (sv 1) (sa_cons (sv 2) (sa_nil) rfl) rfl) rfl) (fun _ _ _ _ _ _ us hl => match us, hl with | [_, _, _], _ => rfl) (al_cons (al_cons (al_cons al_nil))) rfl) (pg_nameD (i := 4) nd rfl (by first | exact .inl rfl | exact .inr rfl)))
    (ss_cons (ps_ifD (st_bool (sw_and (st_cmp (ops_eq (room_hu hr)) (sv 3) (se_gstr T.c_CLASH) (nomark _)) (sw_one (st_cmp (ops_ne (room_hu hr)) (sv 4) (se_tup (sa_nil)) (nomark _))))) (ss_one (ps_retD (se_tup (sa_cons (se_gstr T.c_CLASH) (sa_cons (sv 4) (sa_nil) rfl) rfl)))) (ss_nil))
    (ss_cons (ps_asgD (vs := [5]) (se_mlst (sa_nil)) (pg_nameD (i := 5) nd rfl (by first | exact .inl rfl | exact .inr rfl)))
    (ss_cons (ps_forD (vs := [6, 7, 8, 9]) (passes_of rfl) rfl (pi_any (se_call c_three_ways hG hr rfl tk (sa_cons (sv 0) (sa_cons (sv 1) (sa_cons (sv 2) (sa_nil) rfl) rfl) rfl) (fun _ _ _ _ _ _ us hl => match us, hl with | [_, _, _], _ => rfl) (al_cons (al_cons (al_cons al_nil))) rfl)) (pg_tupD rfl (pgs_consD (pg_nameD (i := 6) nd rfl (by first | exact .inl rfl | exact .inr rfl)) (pgs_consD (pg_nameD (i := 7) nd rfl (by first | exact .inl rfl | exact .inr rfl)) (pgs_consD (pg_nameD (i := 8) nd rfl (by first | exact .inl rfl | exact .inr rfl)) (pgs_consD (pg_nameD (i := 9) nd rfl (by first | exact .inl rfl | exact .inr rfl)) (pgs_nilD))))) (gs_cons_len (gs_cons_len (gs_cons_len (gs_cons_len gs_nil_len))))) (ss_cons (ps_asgD (vs := [10]) (se_call c_chosen hG hr rfl tk (sa_cons (sv 7) (sa_cons (sv 8) (sa_cons (sv 9) (sa_nil) rfl) rfl) rfl) (fun _ _ _ _ _ _ us hl => match us, hl with | [_, _, _], _ => rfl) (al_cons (al_cons (al_cons al_nil))) rfl) (pg_nameD (i := 10) nd rfl (by first | exact .inl rfl | exact .inr rfl)))
    (ss_cons (ps_ifD (st_cmp ops_is (sv 10) (se_non) (nomark _)) (ss_one (ps_asgD (vs := [10]) (se_ite (st_cmp (ops_eq (room_hu hr)) (sv 3) (se_gstr T.c_ONE) (nomark _)) (sv 8) (sv 9)) (pg_nameD (i := 10) nd rfl (by first | exact .inl rfl | exact .inr rfl)))) (ss_nil))
    (ss_one (ps_exprD (se_meth .list PySem.F.plainAttrs_list PySem.F.slot_list_extend PySem.F.type_list_extend meth_extend (sv 5) (sa_cons (se_lc (own := [("value", 11)]) rfl nd (pi_any (sv 10)) (blkOk_by (by kernel_rfl)) (fun _ _ _ _ _ => pg_nameD (i := 11) nd rfl (by first | exact .inl rfl | exact .inr rfl)) (fun _ _ _ _ _ => sts_nil) (fun _ _ _ _ _ => se_tup (sa_cons (sv 6) (sa_cons (sv 11) (sa_nil) rfl) rfl))) (sa_nil) rfl)))))))
    (ss_one (ps_retD (se_tup (sa_cons (se_gstr T.c_MERGED) (sa_cons (se_callTy calls_tuple rfl T.b_tuple rfl (sa_cons (sv 5) (sa_nil) rfl)) (sa_nil) rfl) rfl))))))))
theorem sc_merged : FnScope ["base", "one", "other", "rule"] ["base", "one", "other", "rule"] (defScope (topS 31)) := ⟨rfl, rfl, rfl, by decide +kernel, rfl, by decide +kernel, by decide +kernel⟩
theorem ok_merged (T : Facts K mg) (c_need_three : Cal P w K mg base k "need_three" (topS 26) ["base", "one", "other"] (call k .need_three)) (c_need_rule : Cal P w K mg base k "need_rule" (topS 25) ["rule"] (call k .need_rule)) (c_merge : Cal P w K mg base k "merge" (topS 30) ["base", "one", "other", "rule"] (call k .merge)) {yy : Str} {f : Addr} {fd : FuncData} (F : Fun K yy yy (topS 31) f fd) :
    FnG P w K mg base (L2.CX P w) (k + 1) f fd ["base", "one", "other", "rule"] (spOf K 4 (call (k + 1) .merged)) :=
  fnP false (fnD F sc_merged (B_merged (call k)) fun cdv A outer s H E hG hr tk =>
    have nd := sc_merged.nd
    ss_cons (ps_exprD (se_call c_need_three hG hr rfl tk (sa_cons (sv 0) (sa_cons (sv 1) (sa_cons (sv 2) (sa_nil) rfl) rfl) rfl) (fun _ _ _ _ _ _ us hl => match us, hl with | [_, _, _], _ => rfl) (al_cons (al_cons (al_cons al_nil))) rfl))
    (ss_cons (ps_exprD (se_call c_need_rule hG hr rfl tk (sa_cons (sv 3) (sa_nil) rfl) (fun _ _ _ _ _ _ us hl => match us, hl with | [_], _ => rfl) (al_cons al_nil) rfl))
    (ss_one (ps_retD (se_call c_merge hG hr rfl tk (sa_cons (sv 0) (sa_cons (sv 1) (sa_cons (sv 2) (sa_cons (sv 3) (sa_nil) rfl) rfl) rfl) rfl) (fun _ _ _ _ _ _ us hl => match us, hl with | [_, _, _, _], _ => rfl) (al_cons (al_cons (al_cons (al_cons al_nil)))) rfl)))))
theorem sc_merge_holds : FnScope ["base", "one", "other", "rule", "value"] ["base", "one", "other", "rule", "value"] (defScope (topS 33)) := ⟨rfl, rfl, rfl, by decide +kernel, rfl, by decide +kernel, by decide +kernel⟩
theorem ok_merge_holds (T : Facts K mg) (c_is_like : Cal P w K mg base k "is_like" (topS 32) ["value", "due"] (call k .is_like)) (c_merged : Cal P w K mg base k "merged" (topS 31) ["base", "one", "other", "rule"] (call k .merged)) {yy : Str} {f : Addr} {fd : FuncData} (F : Fun K yy yy (topS 33) f fd) :
    FnG P w K mg base (L2.CX P w) (k + 1) f fd ["base", "one", "other", "rule", "value"] (spOf K 5 (call (k + 1) .merge_holds)) :=
  fnP false (fnD F sc_merge_holds (B_merge_holds (call k)) fun cdv A outer s H E hG hr tk =>
    have nd := sc_merge_holds.nd
    ss_one (ps_retD (se_call c_is_like hG hr rfl tk (sa_cons (sv 4) (sa_cons (se_call c_merged hG hr rfl tk (sa_cons (sv 0) (sa_cons (sv 1) (sa_cons (sv 2) (sa_cons (sv 3) (sa_nil) rfl) rfl) rfl) rfl) (fun _ _ _ _ _ _ us hl => match us, hl with | [_, _, _, _], _ => rfl) (al_cons (al_cons (al_cons (al_cons al_nil)))) rfl) (sa_nil) rfl) rfl) (fun _ _ _ _ _ _ us hl => match us, hl with | [_, _], _ => rfl) (al_cons (al_cons al_nil)) rfl)))
theorem sc__law_right : FnScope ["pot", "base", "one", "other", "rule", "due", "values", "turn", "value", "told", "right", "text"] ["pot"] (defScope (topS 47)) := ⟨rfl, rfl, rfl, by decide +kernel, rfl, by decide +kernel, by decide +kernel⟩
theorem ok__law_right (T : Facts K mg) (c__law_hands : Cal P w K mg base k "_law_hands" (topS 44) ["pot", "most"] (call k ._law_hands)) (c__law_draw : Cal P w K mg base k "_law_draw" (topS 36) ["pot", "many"] (call k ._law_draw)) (c__law_merged : Cal P w K mg base k "_law_merged" (topS 43) ["base", "one", "other", "rule"] (call k ._law_merged)) (c__law_bent : Cal P w K mg base k "_law_bent" (topS 46) ["pot", "value"] (call k ._law_bent)) (c__law_same : Cal P w K mg base k "_law_same" (topS 45) ["one", "other"] (call k ._law_same)) (c_merge_holds : Cal P w K mg base k "merge_holds" (topS 33) ["base", "one", "other", "rule", "value"] (call k .merge_holds)) {yy : Str} {f : Addr} {fd : FuncData} (F : Fun K yy yy (topS 47) f fd) :
    FnG P w K mg base (L2.CX P w) (k + 1) f fd ["pot"] (spOf K 1 (call (k + 1) ._law_right)) :=
  fnP false (fnD F sc__law_right (B__law_right (call k)) fun cdv A outer s H E hG hr tk =>
    have nd := sc__law_right.nd
    ss_cons (ps_asgD (vs := [1, 2, 3]) (se_call c__law_hands hG hr rfl tk (sa_cons (sv 0) (sa_cons (se_int) (sa_nil) rfl) rfl) (fun _ _ _ _ _ _ us hl => match us, hl with | [_, _], _ => rfl) (al_cons (al_cons al_nil)) rfl) (pg_tupD rfl (pgs_consD (pg_nameD (i := 1) nd rfl (by first | exact .inl rfl | exact .inr rfl)) (pgs_consD (pg_nameD (i := 2) nd rfl (by first | exact .inl rfl | exact .inr rfl)) (pgs_consD (pg_nameD (i := 3) nd rfl (by first | exact .inl rfl | exact .inr rfl)) (pgs_nilD)))) (gs_cons_len (gs_cons_len (gs_cons_len gs_nil_len)))))
    (ss_cons (ps_asgD (vs := [4]) (se_item (room_hu hr) (se_lst (sa_cons (se_str) (sa_cons (se_str) (sa_cons (se_str) (sa_cons (se_str) (sa_nil) rfl) rfl) rfl) rfl)) (se_call c__law_draw hG hr rfl tk (sa_cons (sv 0) (sa_cons (se_int) (sa_nil) rfl) rfl) (fun _ _ _ _ _ _ us hl => match us, hl with | [_, _], _ => rfl) (al_cons (al_cons al_nil)) rfl)) (pg_nameD (i := 4) nd rfl (by first | exact .inl rfl | exact .inr rfl)))
    (ss_cons (ps_asgD (vs := [5]) (se_call c__law_merged hG hr rfl tk (sa_cons (sv 1) (sa_cons (sv 2) (sa_cons (sv 3) (sa_cons (sv 4) (sa_nil) rfl) rfl) rfl) rfl) (fun _ _ _ _ _ _ us hl => match us, hl with | [_, _, _, _], _ => rfl) (al_cons (al_cons (al_cons (al_cons al_nil)))) rfl) (pg_nameD (i := 5) nd rfl (by first | exact .inl rfl | exact .inr rfl)))
    (ss_cons (ps_asgD (vs := [6]) (se_mlst (sa_cons (sv 5) (sa_cons (se_call c__law_merged hG hr rfl tk (sa_cons (sv 1) (sa_cons (sv 2) (sa_cons (sv 3) (sa_cons (se_str) (sa_nil) rfl) rfl) rfl) rfl) (fun _ _ _ _ _ _ us hl => match us, hl with | [_, _, _, _], _ => rfl) (al_cons (al_cons (al_cons (al_cons al_nil)))) rfl) (sa_cons (se_call c__law_merged hG hr rfl tk (sa_cons (sv 1) (sa_cons (sv 2) (sa_cons (sv 3) (sa_cons (se_str) (sa_nil) rfl) rfl) rfl) rfl) (fun _ _ _ _ _ _ us hl => match us, hl with | [_, _, _, _], _ => rfl) (al_cons (al_cons (al_cons (al_cons al_nil)))) rfl) (sa_cons (se_non) (sa_nil) rfl) rfl) rfl) rfl)) (pg_nameD (i := 6) nd rfl (by first | exact .inl rfl | exact .inr rfl)))
    (ss_cons (ps_asgD (vs := [6]) (se_bin ops_madd (sv 6) (se_lst (sa_cons (se_tup (sa_cons (se_str) (sa_nil) rfl)) (sa_cons (se_tup (sa_cons (se_str) (sa_cons (se_tup (sa_nil)) (sa_nil) rfl) rfl)) (sa_nil) rfl) rfl))) (pg_nameD (i := 6) nd rfl (by first | exact .inl rfl | exact .inr rfl)))
    (ss_cons (ps_forD (vs := [7]) (passes_of rfl) rfl (pi_range1D rfl T.b_range (sa_cons (se_int) (sa_nil) rfl)) (pg_nameD (i := 7) nd rfl (by first | exact .inl rfl | exact .inr rfl)) (ss_one (ps_exprD (se_meth .list PySem.F.plainAttrs_list PySem.F.slot_list_append PySem.F.type_list_append meth_append (sv 6) (sa_cons (se_call c__law_bent hG hr rfl tk (sa_cons (sv 0) (sa_cons (sv 5) (sa_nil) rfl) rfl) (fun _ _ _ _ _ _ us hl => match us, hl with | [_, _], _ => rfl) (al_cons (al_cons al_nil)) rfl) (sa_nil) rfl)))))
    (ss_cons (ps_forD (vs := [8]) (passes_of rfl) rfl (pi_any (sv 6)) (pg_nameD (i := 8) nd rfl (by first | exact .inl rfl | exact .inr rfl)) (ss_cons (ps_par2D (i := 10) (j := 11) rfl nd rfl rfl (by decide) rfl rfl (sa_cons (se_call c__law_same hG hr rfl tk (sa_cons (sv 8) (sa_cons (sv 5) (sa_nil) rfl) rfl) (fun _ _ _ _ _ _ us hl => match us, hl with | [_, _], _ => rfl) (al_cons (al_cons al_nil)) rfl) (sa_cons (se_callB (calls_repr hG (room_hu hr)) rfl T.b_repr rfl (sa_cons (sv 8) (sa_nil) rfl)) (sa_nil) rfl) rfl))
    (ss_cons (ps_asgD (vs := [9]) (se_mlst (sa_cons (se_call c_merge_holds hG hr rfl tk (sa_cons (sv 1) (sa_cons (sv 2) (sa_cons (sv 3) (sa_cons (sv 4) (sa_cons (sv 8) (sa_nil) rfl) rfl) rfl) rfl) rfl) (fun _ _ _ _ _ _ us hl => match us, hl with | [_, _, _, _, _], _ => rfl) (al_cons (al_cons (al_cons (al_cons (al_cons al_nil))))) rfl) (sa_nil) rfl)) (pg_nameD (i := 9) nd rfl (by first | exact .inl rfl | exact .inr rfl)))
    (ss_cons (ps_exprD (se_meth .list PySem.F.plainAttrs_list PySem.F.slot_list_append PySem.F.type_list_append meth_append (sv 9) (sa_cons (se_callK0 c_merge_holds hG hr rfl tk (sk_cons (sv 8) (sk_cons (sv 4) (sk_cons (sv 3) (sk_cons (sv 2) (sk_cons (sv 1) (sk_nil)))))) (al_cons (al_cons (al_cons (al_cons (al_cons al_nil))))) (fun _ _ _ _ _ _ ws hw => match ws, hw with | [_, _, _, _, _], _ => rfl) rfl rfl) (sa_nil) rfl)))
    (ss_one (ps_ifD (st_bool (sw_or (st_cmp (ops_ne (room_hu hr)) (se_callB (calls_repr hG (room_hu hr)) rfl T.b_repr rfl (sa_cons (sv 9) (sa_nil) rfl)) (se_callB (calls_repr hG (room_hu hr)) rfl T.b_repr rfl (sa_cons (se_lst (sa_cons (sv 10) (sa_cons (sv 10) (sa_nil) rfl) rfl)) (sa_nil) rfl)) (nomark _)) (sw_one (st_cmp (ops_ne (room_hu hr)) (se_callB (calls_repr hG (room_hu hr)) rfl T.b_repr rfl (sa_cons (sv 8) (sa_nil) rfl)) (sv 11) (nomark _))))) (ss_one (ps_retD (se_bl))) (ss_nil)))))))
    (ss_one (ps_retD (se_bl))))))))))
theorem sc__law_pot : FnScope ["script", "k", "total", "number", "cell"] ["script", "k"] (defScope (topS 35)) := ⟨rfl, rfl, rfl, by decide +kernel, rfl, by decide +kernel, by decide +kernel⟩
theorem ok__law_pot (T : Facts K mg)  {yy : Str} {f : Addr} {fd : FuncData} (F : Fun K yy yy (topS 35) f fd) :
    FnG P w K mg base (L2.CX P w) (k + 1) f fd ["script", "k"] (spOf K 2 (call (k + 1) ._law_pot)) :=
  fnP true (fnD F sc__law_pot (B__law_pot (call k)) fun cdv A outer s H E hG hr tk =>
    have nd := sc__law_pot.nd
    ss_cons (ps_asgD (vs := [2]) (se_bin ops_add (se_bin ops_mul (se_int) (sv 1)) (se_int)) (pg_nameD (i := 2) nd rfl (by first | exact .inl rfl | exact .inr rfl)))
    (ss_cons (ps_forD (vs := [3]) (passes_of rfl) rfl (pi_any (sv 0)) (pg_nameD (i := 3) nd rfl (by first | exact .inl rfl | exact .inr rfl)) (ss_one (ps_asgD (vs := [2]) (se_bin ops_mod (se_callTy calls_int rfl T.b_int rfl (sa_cons (se_bin ops_add (se_bin ops_add (se_bin ops_mul (sv 2) (se_int)) (se_bin ops_mul (sv 3) (se_int))) (se_int)) (sa_nil) rfl)) (se_bin ops_add (se_bin ops_pow (se_int) (se_int)) (se_int))) (pg_nameD (i := 2) nd rfl (by first | exact .inl rfl | exact .inr rfl)))))
    (ss_cons (ps_asgD (vs := [4]) (se_ite (st_cmp (ops_lt (room_hu hr)) (sv 1) (se_callB calls_len rfl T.b_len rfl (sa_cons (sv 0) (sa_nil) rfl)) (nomark _)) (se_item (room_hu hr) (sv 0) (sv 1)) (sv 2)) (pg_nameD (i := 4) nd rfl (by first | exact .inl rfl | exact .inr rfl)))
    (ss_one (ps_retD (se_mlst (sa_cons (se_callB (calls_max rfl (room_hu hr)) rfl T.b_max rfl (sa_cons (se_int) (sa_cons (se_bin ops_sub (sv 4) (se_bin ops_pow (se_int) (se_int))) (sa_nil) rfl) rfl)) (sa_cons (se_bin ops_mod (se_callTy calls_int rfl T.b_int rfl (sa_cons (se_bin ops_add (se_bin ops_mul (sv 2) (se_int)) (se_bin ops_mul (sv 4) (se_int))) (sa_nil) rfl)) (se_bin ops_add (se_bin ops_pow (se_int) (se_int)) (se_int))) (sa_cons (se_int) (sa_nil) rfl) rfl) rfl)))))))
theorem sc_law : FnScope ["script", "k"] ["script"] (defScope (topS 48)) := ⟨rfl, rfl, rfl, by decide +kernel, rfl, by decide +kernel, by decide +kernel⟩
theorem ok_law (T : Facts K mg) (c__law_right : Cal P w K mg base k "_law_right" (topS 47) ["pot"] (call k ._law_right)) (c__law_pot : Cal P w K mg base k "_law_pot" (topS 35) ["script", "k"] (call k ._law_pot)) {yy : Str} {f : Addr} {fd : FuncData} (F : Fun K yy yy (topS 48) f fd) :
    FnG P w K mg base (L2.CX P w) (k + 1) f fd ["script"] (spOf K 1 (call (k + 1) .law)) :=
  fnP false (fnD F sc_law (B_law (call k)) fun cdv A outer s H E hG hr tk =>
    have nd := sc_law.nd
    ss_cons (ps_forD (vs := [1]) (passes_of rfl) rfl (pi_range1D rfl T.b_range (sa_cons (se_callB (calls_max rfl (room_hu hr)) rfl T.b_max rfl (sa_cons (se_int) (sa_cons (se_callB (calls_min rfl (room_hu hr)) rfl T.b_min rfl (sa_cons (se_int) (sa_cons (se_callB calls_len rfl T.b_len rfl (sa_cons (sv 0) (sa_nil) rfl)) (sa_nil) rfl) rfl)) (sa_nil) rfl) rfl)) (sa_nil) rfl)) (pg_nameD (i := 1) nd rfl (by first | exact .inl rfl | exact .inr rfl)) (ss_one (ps_ifD (st_not (st_of (se_call c__law_right hG hr rfl tk (sa_cons (se_call c__law_pot hG hr rfl tk (sa_cons (sv 0) (sa_cons (sv 1) (sa_nil) rfl) rfl) (fun _ _ _ _ _ _ us hl => match us, hl with | [_, _], _ => rfl) (al_cons (al_cons al_nil)) rfl) (sa_nil) rfl) (fun _ _ _ _ _ _ us hl => match us, hl with | [_], _ => rfl) (al_cons al_nil) rfl) (fun _ => rfl))) (ss_one (ps_retD (se_bl))) (ss_nil))))
    (ss_one (ps_retD (se_bl))))
end
section
variable {P : Program} {w : World} {K : PySem.W.Frag} {mg : Str → Option Value} {base h : Heap}
structure All (P : Program) (w : World) (K : PySem.W.Frag) (mg : Str → Option Value) (base : Heap) (k : Nat) : Prop where
  _law_draw : Cal P w K mg base k "_law_draw" (topS 36) ["pot", "many"] (call k ._law_draw)
  _law_value : Cal P w K mg base k "_law_value" (topS 38) ["pot"] (call k ._law_value)
  _law_key : Cal P w K mg base k "_law_key" (topS 37) ["pot"] (call k ._law_key)
  _law_pairs : Cal P w K mg base k "_law_pairs" (topS 39) ["pot", "most"] (call k ._law_pairs)
  _law_changed : Cal P w K mg base k "_law_changed" (topS 40) ["pot", "pairs", "most"] (call k ._law_changed)
  _law_hands : Cal P w K mg base k "_law_hands" (topS 44) ["pot", "most"] (call k ._law_hands)
  _law_three : Cal P w K mg base k "_law_three" (topS 42) ["base", "one", "other"] (call k ._law_three)
  _law_chosen : Cal P w K mg base k "_law_chosen" (topS 41) ["was", "mine", "theirs"] (call k ._law_chosen)
  _law_merged : Cal P w K mg base k "_law_merged" (topS 43) ["base", "one", "other", "rule"] (call k ._law_merged)
  _law_bent : Cal P w K mg base k "_law_bent" (topS 46) ["pot", "value"] (call k ._law_bent)
  _law_same : Cal P w K mg base k "_law_same" (topS 45) ["one", "other"] (call k ._law_same)
  is_like : Cal P w K mg base k "is_like" (topS 32) ["value", "due"] (call k .is_like)
  are_rising : Cal P w K mg base k "are_rising" (topS 17) ["pairs"] (call k .are_rising)
  is_tuple_of : Cal P w K mg base k "is_tuple_of" (topS 7) ["many", "value"] (call k .is_tuple_of)
  is_integer : Cal P w K mg base k "is_integer" (topS 5) ["value"] (call k .is_integer)
  is_between : Cal P w K mg base k "is_between" (topS 6) ["low", "value", "high"] (call k .is_between)
  is_key : Cal P w K mg base k "is_key" (topS 13) ["value"] (call k .is_key)
  is_short_text : Cal P w K mg base k "is_short_text" (topS 14) ["value"] (call k .is_short_text)
  is_value : Cal P w K mg base k "is_value" (topS 15) ["value"] (call k .is_value)
  is_a_pair : Cal P w K mg base k "is_a_pair" (topS 16) ["value"] (call k .is_a_pair)
  is_a_pairs : Cal P w K mg base k "is_a_pairs" (topS 18) ["value"] (call k .is_a_pairs)
  need_pairs : Cal P w K mg base k "need_pairs" (topS 19) ["value"] (call k .need_pairs)
  need_three : Cal P w K mg base k "need_three" (topS 26) ["base", "one", "other"] (call k .need_three)
  need_rule : Cal P w K mg base k "need_rule" (topS 25) ["rule"] (call k .need_rule)
  three_ways : Cal P w K mg base k "three_ways" (topS 27) ["base", "one", "other"] (call k .three_ways)
  chosen : Cal P w K mg base k "chosen" (topS 28) ["was", "mine", "theirs"] (call k .chosen)
  clashes_of : Cal P w K mg base k "clashes_of" (topS 29) ["base", "one", "other"] (call k .clashes_of)
  merge : Cal P w K mg base k "merge" (topS 30) ["base", "one", "other", "rule"] (call k .merge)
  merged : Cal P w K mg base k "merged" (topS 31) ["base", "one", "other", "rule"] (call k .merged)
  merge_holds : Cal P w K mg base k "merge_holds" (topS 33) ["base", "one", "other", "rule", "value"] (call k .merge_holds)
  _law_right : Cal P w K mg base k "_law_right" (topS 47) ["pot"] (call k ._law_right)
  _law_pot : Cal P w K mg base k "_law_pot" (topS 35) ["script", "k"] (call k ._law_pot)
  law : Cal P w K mg base k "law" (topS 48) ["script"] (call k .law)
theorem all_ok (X : K.In h) (G : h.Ns mainGlobals mg) (T : Facts K mg) (D__law_draw : DefIn K "_law_draw" (topS 36)) (D__law_value : DefIn K "_law_value" (topS 38)) (D__law_key : DefIn K "_law_key" (topS 37)) (D__law_pairs : DefIn K "_law_pairs" (topS 39)) (D__law_changed : DefIn K "_law_changed" (topS 40)) (D__law_hands : DefIn K "_law_hands" (topS 44)) (D__law_three : DefIn K "_law_three" (topS 42)) (D__law_chosen : DefIn K "_law_chosen" (topS 41)) (D__law_merged : DefIn K "_law_merged" (topS 43)) (D__law_bent : DefIn K "_law_bent" (topS 46)) (D__law_same : DefIn K "_law_same" (topS 45)) (D_is_like : DefIn K "is_like" (topS 32)) (D_are_rising : DefIn K "are_rising" (topS 17)) (D_is_tuple_of : DefIn K "is_tuple_of" (topS 7)) (D_is_integer : DefIn K "is_integer" (topS 5)) (D_is_between : DefIn K "is_between" (topS 6)) (D_is_key : DefIn K "is_key" (topS 13)) (D_is_short_text : DefIn K "is_short_text" (topS 14)) (D_is_value : DefIn K "is_value" (topS 15)) (D_is_a_pair : DefIn K "is_a_pair" (topS 16)) (D_is_a_pairs : DefIn K "is_a_pairs" (topS 18)) (D_need_pairs : DefIn K "need_pairs" (topS 19)) (D_need_three : DefIn K "need_three" (topS 26)) (D_need_rule : DefIn K "need_rule" (topS 25)) (D_three_ways : DefIn K "three_ways" (topS 27)) (D_chosen : DefIn K "chosen" (topS 28)) (D_clashes_of : DefIn K "clashes_of" (topS 29)) (D_merge : DefIn K "merge" (topS 30)) (D_merged : DefIn K "merged" (topS 31)) (D_merge_holds : DefIn K "merge_holds" (topS 33)) (D__law_right : DefIn K "_law_right" (topS 47)) (D__law_pot : DefIn K "_law_pot" (topS 35)) (D_law : DefIn K "law" (topS 48)) : ∀ k, All P w K mg base k
  | 0 => ⟨D__law_draw.cal (np := 2) X G fun _ _ _ => fn0, D__law_value.cal (np := 1) X G fun _ _ _ => fn0, D__law_key.cal (np := 1) X G fun _ _ _ => fn0, D__law_pairs.cal (np := 2) X G fun _ _ _ => fn0, D__law_changed.cal (np := 3) X G fun _ _ _ => fn0, D__law_hands.cal (np := 2) X G fun _ _ _ => fn0, D__law_three.cal (np := 3) X G fun _ _ _ => fn0, D__law_chosen.cal (np := 3) X G fun _ _ _ => fn0, D__law_merged.cal (np := 4) X G fun _ _ _ => fn0, D__law_bent.cal (np := 2) X G fun _ _ _ => fn0, D__law_same.cal (np := 2) X G fun _ _ _ => fn0, D_is_like.cal (np := 2) X G fun _ _ _ => fn0, D_are_rising.cal (np := 1) X G fun _ _ _ => fn0, D_is_tuple_of.cal (np := 2) X G fun _ _ _ => fn0, D_is_integer.cal (np := 1) X G fun _ _ _ => fn0, D_is_between.cal (np := 3) X G fun _ _ _ => fn0, D_is_key.cal (np := 1) X G fun _ _ _ => fn0, D_is_short_text.cal (np := 1) X G fun _ _ _ => fn0, D_is_value.cal (np := 1) X G fun _ _ _ => fn0, D_is_a_pair.cal (np := 1) X G fun _ _ _ => fn0, D_is_a_pairs.cal (np := 1) X G fun _ _ _ => fn0, D_need_pairs.cal (np := 1) X G fun _ _ _ => fn0, D_need_three.cal (np := 3) X G fun _ _ _ => fn0, D_need_rule.cal (np := 1) X G fun _ _ _ => fn0, D_three_ways.cal (np := 3) X G fun _ _ _ => fn0, D_chosen.cal (np := 3) X G fun _ _ _ => fn0, D_clashes_of.cal (np := 3) X G fun _ _ _ => fn0, D_merge.cal (np := 4) X G fun _ _ _ => fn0, D_merged.cal (np := 4) X G fun _ _ _ => fn0, D_merge_holds.cal (np := 5) X G fun _ _ _ => fn0, D__law_right.cal (np := 1) X G fun _ _ _ => fn0, D__law_pot.cal (np := 2) X G fun _ _ _ => fn0, D_law.cal (np := 1) X G fun _ _ _ => fn0⟩
  | k + 1 => have ih := all_ok X G T D__law_draw D__law_value D__law_key D__law_pairs D__law_changed D__law_hands D__law_three D__law_chosen D__law_merged D__law_bent D__law_same D_is_like D_are_rising D_is_tuple_of D_is_integer D_is_between D_is_key D_is_short_text D_is_value D_is_a_pair D_is_a_pairs D_need_pairs D_need_three D_need_rule D_three_ways D_chosen D_clashes_of D_merge D_merged D_merge_holds D__law_right D__law_pot D_law k
    ⟨D__law_draw.cal (np := 2) X G fun _ _ F => ok__law_draw T  F,
    D__law_value.cal (np := 1) X G fun _ _ F => ok__law_value T ih._law_draw F,
    D__law_key.cal (np := 1) X G fun _ _ F => ok__law_key T ih._law_draw F,
    D__law_pairs.cal (np := 2) X G fun _ _ F => ok__law_pairs T ih._law_draw ih._law_value ih._law_key F,
    D__law_changed.cal (np := 3) X G fun _ _ F => ok__law_changed T ih._law_draw ih._law_value ih._law_key F,
    D__law_hands.cal (np := 2) X G fun _ _ F => ok__law_hands T ih._law_pairs ih._law_changed ih._law_draw F,
    D__law_three.cal (np := 3) X G fun _ _ F => ok__law_three T  F,
    D__law_chosen.cal (np := 3) X G fun _ _ F => ok__law_chosen T  F,
    D__law_merged.cal (np := 4) X G fun _ _ F => ok__law_merged T ih._law_three ih._law_chosen F,
    D__law_bent.cal (np := 2) X G fun _ _ F => ok__law_bent T ih._law_draw ih._law_bent F,
    D__law_same.cal (np := 2) X G fun _ _ F => ok__law_same T ih._law_same F,
    D_is_like.cal (np := 2) X G fun _ _ F => ok_is_like T ih.is_like F,
    D_are_rising.cal (np := 1) X G fun _ _ F => ok_are_rising T  F,
    D_is_tuple_of.cal (np := 2) X G fun _ _ F => ok_is_tuple_of T  F,
    D_is_integer.cal (np := 1) X G fun _ _ F => ok_is_integer T  F,
    D_is_between.cal (np := 3) X G fun _ _ F => ok_is_between T ih.is_integer F,
    D_is_key.cal (np := 1) X G fun _ _ F => ok_is_key T ih.is_between F,
    D_is_short_text.cal (np := 1) X G fun _ _ F => ok_is_short_text T  F,
    D_is_value.cal (np := 1) X G fun _ _ F => ok_is_value T ih.is_between ih.is_short_text F,
    D_is_a_pair.cal (np := 1) X G fun _ _ F => ok_is_a_pair T ih.is_tuple_of ih.is_key ih.is_value F,
    D_is_a_pairs.cal (np := 1) X G fun _ _ F => ok_is_a_pairs T ih.is_a_pair ih.are_rising F,
    D_need_pairs.cal (np := 1) X G fun _ _ F => ok_need_pairs T ih.is_a_pairs F,
    D_need_three.cal (np := 3) X G fun _ _ F => ok_need_three T ih.need_pairs F,
    D_need_rule.cal (np := 1) X G fun _ _ F => ok_need_rule T  F,
    D_three_ways.cal (np := 3) X G fun _ _ F => ok_three_ways T  F,
    D_chosen.cal (np := 3) X G fun _ _ F => ok_chosen T  F,
    D_clashes_of.cal (np := 3) X G fun _ _ F => ok_clashes_of T ih.three_ways ih.chosen F,
    D_merge.cal (np := 4) X G fun _ _ F => ok_merge T ih.clashes_of ih.three_ways ih.chosen F,
    D_merged.cal (np := 4) X G fun _ _ F => ok_merged T ih.need_three ih.need_rule ih.merge F,
    D_merge_holds.cal (np := 5) X G fun _ _ F => ok_merge_holds T ih.is_like ih.merged F,
    D__law_right.cal (np := 1) X G fun _ _ F => ok__law_right T ih._law_hands ih._law_draw ih._law_merged ih._law_bent ih._law_same ih.merge_holds F,
    D__law_pot.cal (np := 2) X G fun _ _ F => ok__law_pot T  F,
    D_law.cal (np := 1) X G fun _ _ F => ok_law T ih._law_right ih._law_pot F⟩
end
end K56

namespace K56
open PySem PySem.Spec PyProof.Rows L2 Dp
theorem cv {k : Nat} {f : Fn} {ds : List D} {μ : Mem} {d : D} (h : ds.all D.nr = true) (hd : d.nr = true) (hl : ds.length = npOf f)
    (q : swp (bodyOf (call k) f (ds.map some ++ List.replicate (nsOf f - ds.length) none) []) fun f _ => match f with
      | .next _ => D.non = d
      | .ret a => a = d
      | _ => False) : call (k + 1) f ds μ = .ok d μ := proto_run h hd hl q
theorem isint_ok (k : Nat) (i : Int) (μ : Mem) : call (k + 1) .is_integer [.int i] μ = .ok (.bl true) μ := cv (by simp) rfl rfl (by simp [bodyOf, nsOf, B_is_integer, List.replicate_succ, Ty.has])
theorem isint_str (k : Nat) (x : Str) (μ : Mem) : call (k + 1) .is_integer [.str x] μ = .ok (.bl false) μ := cv (by simp) rfl rfl (by simp [bodyOf, nsOf, B_is_integer, List.replicate_succ, Ty.has])
theorem between_ok (k : Nat) (a b c : Int) (μ : Mem) (h1 : a ≤ b) (h2 : b ≤ c) : call (k + 2) .is_between [.int a, .int b, .int c] μ = .ok (.bl true) μ := cv (by simp) rfl rfl (by simp [bodyOf, nsOf, B_is_between, isint_ok, h1, h2])
theorem between_str (k : Nat) (a c : Int) (b : Str) (μ : Mem) : call (k + 2) .is_between [.int a, .str b, .int c] μ = .ok (.bl false) μ := cv (by simp) rfl rfl (by simp [bodyOf, nsOf, B_is_between, isint_str])
theorem key_ok (k : Nat) (i : Int) (μ : Mem) (h1 : 0 ≤ i) (h2 : i ≤ 999999999999) : call (k + 3) .is_key [.int i] μ = .ok (.bl true) μ := cv (by simp) rfl rfl (by simp [bodyOf, nsOf, B_is_key, between_ok, h1, h2])
def chrOk (c : Nat) : Bool := decide (32 ≤ c ∧ c ≤ 126)
theorem short_ok (k : Nat) (x : Str) (μ : Mem) (h : x.length ≤ 100) (hc : x.cps.toList.all chrOk = true) : call (k + 1) .is_short_text [.str x] μ = .ok (.bl true) μ := by
  have hl : x.length ≤ 16777216 := by omega
  have hs : (Q.signs x).length ≤ 16777216 := by
    show (List.map _ x.cps.toList).length ≤ _
    rw [List.length_map, Array.length_toList]; exact hl
  have hi : (x.length : Int) ≤ 100 := by omega
  refine cv (by simp) rfl rfl ?_
  simp [bodyOf, nsOf, B_is_short_text, Ty.has, hl, hs, hi]
  unfold Q.signs
  refine wp_lcm (fun c => .bl (chrOk c)) (fun c hc' => ?_) ?_
  · have h1 : chrOk c = true := by rw [List.all_eq_true] at hc; exact hc c hc'
    have h2 := of_decide_eq_true h1
    have a1 : (!decide ([c] < (Str.ofString " ").cps.toList)) = true := by
      show (!decide ([c] < [32])) = true
      simp [List.cons_lt_cons_iff]; omega
    have a2 : (!decide ((Str.ofString "~").cps.toList < [c])) = true := by
      show (!decide ([126] < [c])) = true
      simp [List.cons_lt_cons_iff]; omega
    simp [a1, a2, h1]
  · rw [all_map]
    simp [hc]
def valOk : D → Bool
  | .int i => decide (-999999999999999999999999999999 ≤ i ∧ i ≤ 999999999999999999999999999999)
  | .str x => decide (x.length ≤ 100) && x.cps.toList.all chrOk
  | _ => false
theorem valOk_pl {d : D} (h : valOk d = true) : d.pl = true := by cases d <;> first | rfl | cases h
theorem value_ok (k : Nat) (d : D) (μ : Mem) (h : valOk d = true) : call (k + 3) .is_value [d] μ = .ok (.bl true) μ := by
  refine cv (by simp [pl_nr _ (valOk_pl h)]) rfl rfl ?_
  cases d with
  | int i =>
    have := of_decide_eq_true h
    simp [bodyOf, nsOf, B_is_value, between_ok, this.1, this.2]
  | str x =>
    rw [valOk, Bool.and_eq_true, decide_eq_true_eq] at h
    simp [bodyOf, nsOf, B_is_value, between_str, short_ok, h.1, h.2]
  | _ => cases h
/-! ### pairs -/
abbrev PR := Int × D
def prD (p : PR) : D := .tup [.int p.1, p.2]
def prsD (ps : List PR) : D := .tup (ps.map prD)
def prOk (p : PR) : Bool := decide (0 ≤ p.1 ∧ p.1 ≤ 999999999999) && valOk p.2
theorem prOk_iff {p : PR} : prOk p = true ↔ 0 ≤ p.1 ∧ p.1 ≤ 999999999999 ∧ valOk p.2 = true := by
  unfold prOk; rw [Bool.and_eq_true, decide_eq_true_eq, and_assoc]
@[simp] theorem prD_0 {p : PR} {μ : Mem} : Op.item (prD p) (.int 0) μ = .ok (.int p.1) μ := item_t20
@[simp] theorem prD_1 {p : PR} {μ : Mem} : Op.item (prD p) (.int 1) μ = .ok p.2 μ := item_t21
theorem prD_pl {p : PR} (h : valOk p.2 = true) : (prD p).pl = true := by simp [prD, valOk_pl h]
theorem tuple_of (k : Nat) (xs : List D) (n : Int) (μ : Mem) (h : nrAll xs = true) : call (k + 1) .is_tuple_of [.int n, .tup xs] μ = .ok (.bl (decide ((xs.length : Int) = n))) μ :=
  cv (by simp [h]) rfl rfl (by simp [bodyOf, nsOf, B_is_tuple_of, Ty.has])
theorem pair_ok (k : Nat) (p : PR) (μ : Mem) (h : prOk p = true) : call (k + 4) .is_a_pair [prD p] μ = .ok (.bl true) μ := by
  obtain ⟨h1, h2, h3⟩ := prOk_iff.mp h
  have n := pl_nr _ (valOk_pl h3)
  refine cv (by simp [prD, n]) rfl rfl ?_
  simp [bodyOf, nsOf, B_is_a_pair, prD, tuple_of, n, item_tup, key_ok, h1, h2, value_ok, h3]
def rising (ps : List PR) : Prop := (ps.map (·.1)).Pairwise (· < ·)
theorem prs_nr {ps : List PR} (h : ∀ p ∈ ps, valOk p.2 = true) : plAll (ps.map prD) = true := by
  induction ps with
  | nil => rfl
  | cons p ps ih => rw [List.map_cons, plAll_cons, prD_pl (h p List.mem_cons_self), ih fun q hq => h q (List.mem_cons_of_mem _ hq)]; rfl
theorem rising_ok (k : Nat) (ps : List PR) (μ : Mem) (hv : ∀ p ∈ ps, valOk p.2 = true) (hl : ps.length ≤ 400) (hr : rising ps) : call (k + 1) .are_rising [prsD ps] μ = .ok (.bl true) μ := by
  have n := plAll_nr _ (prs_nr hv)
  refine cv (by simp [prsD, n]) rfl rfl ?_
  have h1 : ps.length ≤ 16777216 := by omega
  simp [bodyOf, nsOf, B_are_rising, prsD, h1]
  refine wp_lcm (fun p => .int p.1) (fun p hp => by simp [prD]) ?_
  have h2 : (ps.length : Int) ≤ 400 := by omega
  simp [h2]
  rw [r1_int (by omega) (by omega)]
  simp
  refine ⟨by simp [Q.rangeL]; omega, ?_⟩
  unfold Q.rangeL
  refine wp_lcm (fun i => .bl true) (fun i hi => ?_) (by simp)
  have hi' : i < ps.length - 1 := List.mem_range.mp hi
  have e1 : (ps.map fun p => D.int p.1)[i]? = some (.int (ps[i]'(by omega)).1) := by rw [List.getElem?_map, List.getElem?_eq_getElem (by omega)]; rfl
  have e2 : (ps.map fun p => D.int p.1)[i + 1]? = some (.int (ps[i + 1]'(by omega)).1) := by rw [List.getElem?_map, List.getElem?_eq_getElem (by omega)]; rfl
  have hlt : (ps[i]'(by omega)).1 < (ps[i + 1]'(by omega)).1 := by
    have := List.pairwise_iff_getElem.mp hr i (i + 1) (by simp; omega) (by simp; omega) (by omega)
    simpa using this
  simp
  rw [item_lst (j := (i : Int)) (by omega)]
  simp only [Int.toNat_natCast, e1, ok_some, wp_ok]
  rw [item_lst (j := (i : Int) + 1) (by omega)]
  simp [e2, show ((i : Int) + 1).toNat = i + 1 by omega, hlt]
structure PsOk (ps : List PR) : Prop where
  pr : ∀ p ∈ ps, prOk p = true
  len : ps.length ≤ 400
  up : rising ps
theorem PsOk.val {ps : List PR} (h : PsOk ps) : ∀ p ∈ ps, valOk p.2 = true := fun p hp => (prOk_iff.mp (h.pr p hp)).2.2
theorem PsOk.pl {ps : List PR} (h : PsOk ps) : plAll (ps.map prD) = true := prs_nr h.val
theorem PsOk.nr {ps : List PR} (h : PsOk ps) : nrAll (ps.map prD) = true := plAll_nr _ h.pl
theorem PsOk.take {ps : List PR} (h : PsOk ps) (n : Nat) : PsOk (ps.take n) := ⟨fun p hp => h.pr p (List.mem_of_mem_take hp), Nat.le_trans (List.length_take_le' _ _) h.len, by unfold rising; rw [List.map_take]; exact h.up.sublist (List.take_sublist _ _)⟩
theorem PsOk.drop {ps : List PR} (h : PsOk ps) (n : Nat) : PsOk (ps.drop n) := ⟨fun p hp => h.pr p (List.mem_of_mem_drop hp), by rw [List.length_drop]; have := h.len; omega, by unfold rising; rw [List.map_drop]; exact h.up.sublist (List.drop_sublist _ _)⟩
theorem pairs_ok (k : Nat) (ps : List PR) (μ : Mem) (h : PsOk ps) : call (k + 5) .is_a_pairs [prsD ps] μ = .ok (.bl true) μ := by
  refine cv (by simp [prsD, h.nr]) rfl rfl ?_
  have h1 : ps.length ≤ 16777216 := by have := h.len; omega
  simp [bodyOf, nsOf, B_is_a_pairs, prsD, h1, Ty.has]
  refine wp_lcm (fun p => .bl true) (fun p hp => by simp [pair_ok, h.pr p hp]) ?_
  have := rising_ok (k + 3) ps [] h.val h.len h.up
  simp only [prsD] at this
  simp [this]
theorem need_pairs_ok (k : Nat) (ps : List PR) (μ : Mem) (h : PsOk ps) : call (k + 6) .need_pairs [prsD ps] μ = .ok .non μ :=
  cv (by simp [prsD, h.nr]) rfl rfl (by simp [bodyOf, nsOf, B_need_pairs, pairs_ok, h])
/-! ### the map of some pairs -/
def pd : PR := (0, .non)
def mixI (i : Int) : Int := i * 618033 % 1000003
def triAt (ps : List PR) (i : Nat) : D := .tup [.int (mixI (ps.getD i pd).1), .int (ps.getD i pd).1, .int (i : Nat)]
def tri (ps : List PR) : List D := (List.range ps.length).map (triAt ps)
def topD (ps : List PR) : D := match tri ps with
  | [] => .non
  | x :: xs => F.maxL x xs
def topI (ps : List PR) : Nat := match topD ps with
  | .tup [_, _, .int i] => i.toNat
  | _ => 0
theorem top_spec {ps : List PR} (h : ps ≠ []) : topI ps < ps.length ∧ topD ps = triAt ps (topI ps) := by
  have hm : topD ps ∈ tri ps := by
    unfold topD
    cases e : tri ps with
    | nil =>
      have : (tri ps).length = ps.length := by simp [tri]
      rw [e] at this
      exact absurd (List.eq_nil_of_length_eq_zero this.symm) h
    | cons x xs => exact fold_mem _ x xs
  obtain ⟨i, hi, e⟩ := List.mem_map.mp hm
  have : topI ps = i := by unfold topI; rw [← e]; rfl
  rw [this, ← e]
  exact ⟨List.mem_range.mp hi, rfl⟩
theorem tri_max {ps : List PR} (h : ps ≠ []) (μ : Mem) : F.max [.lst (tri ps)] μ = .ok (topD ps) μ := by
  have hf : ∀ d ∈ tri ps, ∃ a b c : Int, d = .tup [.int a, .int b, .int c] := fun d hd => by
    obtain ⟨i, _, rfl⟩ := List.mem_map.mp hd
    exact ⟨_, _, _, rfl⟩
  have h1 : plAll (tri ps) = true := plAll_of fun d hd => by obtain ⟨a, b, c, rfl⟩ := hf d hd; rfl
  have h2 : F.alikeD (tri ps) = true := alikeD_of (fun d hd e he => by
    obtain ⟨a, b, c, rfl⟩ := hf d hd
    obtain ⟨a', b', c', rfl⟩ := hf e he
    simp [D.py, pyAll, PySem.W.alike, PySem.W.alikeAll]) fun d hd => by obtain ⟨a, b, c, rfl⟩ := hf d hd; rfl
  have h3 : PyData.depthAll (pyAll (tri ps)) ≤ 60 := depthAll_le fun d hd => by
    obtain ⟨a, b, c, rfl⟩ := hf d hd
    simp [D.py, pyAll, PyData.depth, PyData.depthAll]
  unfold topD
  cases e : tri ps with
  | nil =>
    have : (tri ps).length = ps.length := by simp [tri]
    rw [e] at this
    exact absurd (List.eq_nil_of_length_eq_zero this.symm) h
  | cons x xs => rw [e] at h1 h2 h3; exact max_lst h1 h2 (Nat.le_trans h3 (by decide))
inductive Tr where
  | nil | node (l : Tr) (p : PR) (r : Tr)
def trD : Tr → D
  | .nil => .tup []
  | .node l p r => .tup [trD l, .int p.1, p.2, trD r]
def mapF : Nat → List PR → Tr
  | 0, _ => .nil
  | n + 1, ps => if ps = [] then .nil else .node (mapF n (ps.take (topI ps))) (ps.getD (topI ps) pd) (mapF n (ps.drop (topI ps + 1)))
theorem mapF_nil (n : Nat) : mapF n [] = .nil := by cases n <;> rfl
def trOk : Tr → Prop
  | .nil => True
  | .node l p r => trOk l ∧ prOk p = true ∧ trOk r
theorem trD_pl : ∀ {t : Tr}, trOk t → (trD t).pl = true
  | .nil, _ => rfl
  | .node l p r, h => by
    obtain ⟨h1, h2, h3⟩ := h
    simp [trD, trD_pl h1, trD_pl h3, valOk_pl (prOk_iff.mp h2).2.2]
theorem getD_mem {ps : List PR} {i : Nat} (h : i < ps.length) : ps.getD i pd ∈ ps := by
  rw [List.getD_eq_getElem?_getD, List.getElem?_eq_getElem h]; exact List.getElem_mem h
theorem mapF_ok : ∀ (n : Nat) {ps : List PR}, PsOk ps → trOk (mapF n ps)
  | 0, _, _ => True.intro
  | n + 1, ps, h => by
    unfold mapF
    by_cases e : ps = []
    · rw [if_pos e]; exact True.intro
    · rw [if_neg e]
      exact ⟨mapF_ok n (h.take _), h.pr _ (getD_mem (top_spec e).1), mapF_ok n (h.drop _)⟩
theorem take_prs (ps : List PR) (n : Nat) : (ps.map prD).take n = (ps.take n).map prD := by rw [List.map_take]
theorem drop_prs (ps : List PR) (n : Nat) : (ps.map prD).drop n = (ps.drop n).map prD := by rw [List.map_drop]
theorem get_prs {ps : List PR} {i : Nat} (h : i < ps.length) : (ps.map prD)[i]? = some (prD (ps.getD i pd)) := by
  rw [List.getElem?_map, List.getD_eq_getElem?_getD, List.getElem?_eq_getElem h]; rfl
/-! ### the same by the law's own words -/
/-! ### back: the pairs of a map -/
def inord : Tr → List PR
  | .nil => []
  | .node l p r => inord l ++ p :: inord r
def size : Tr → Nat
  | .nil => 0
  | .node l _ r => size l + 1 + size r
def hgt : Tr → Nat
  | .nil => 0
  | .node l _ r => max (hgt l) (hgt r) + 1
theorem inord_len : ∀ t : Tr, (inord t).length = size t
  | .nil => rfl
  | .node l p r => by simp [inord, size, inord_len l, inord_len r]; omega
theorem hgt_size : ∀ t : Tr, hgt t ≤ size t
  | .nil => Nat.le_refl _
  | .node l p r => by
    have h1 := hgt_size l
    have h2 := hgt_size r
    show max (hgt l) (hgt r) + 1 ≤ size l + 1 + size r
    have : max (hgt l) (hgt r) ≤ size l + size r := Nat.max_le.mpr ⟨by omega, by omega⟩
    omega
theorem inord_map : ∀ (n : Nat) (ps : List PR), ps.length ≤ n → inord (mapF n ps) = ps
  | 0, ps, h => by rw [List.eq_nil_of_length_eq_zero (Nat.le_zero.mp h)]; rfl
  | n + 1, ps, h => by
    unfold mapF
    by_cases e : ps = []
    · rw [if_pos e, e]; rfl
    · rw [if_neg e]
      have t1 := (top_spec e).1
      unfold inord
      rw [inord_map n _ (by rw [List.length_take]; omega), inord_map n _ (by rw [List.length_drop]; omega)]
      have : ps.getD (topI ps) pd :: ps.drop (topI ps + 1) = ps.drop (topI ps) := by
        rw [List.getD_eq_getElem?_getD, List.getElem?_eq_getElem t1]
        exact (List.drop_eq_getElem_cons t1).symm
      rw [this, List.take_append_drop]
theorem trD_depth : ∀ {t : Tr}, trOk t → (trD t).py.depth ≤ hgt t + 1
  | .nil, _ => by simp [trD, hgt, D.py, pyAll, PyData.depth, PyData.depthAll]
  | .node l p r, h => by
    obtain ⟨h1, h2, h3⟩ := h
    have a := trD_depth h1
    have b := trD_depth h3
    have c : p.2.py.depth = 0 := by
      have := (prOk_iff.mp h2).2.2
      cases hp : p.2 <;> rw [hp] at this <;> first | rfl | cases this
    have e : (trD (.node l p r)).py.depth = PyData.depthAll [(trD l).py, .int p.1, p.2.py, (trD r).py] + 1 := by
      simp [trD, D.py, pyAll, PyData.depth]
    rw [e]
    simp only [PyData.depthAll, c, PyData.depth]
    show _ ≤ (max (hgt l) (hgt r) + 1) + 1
    have : max (trD l).py.depth (max 0 (max 0 (max (trD r).py.depth 0))) ≤ max (hgt l) (hgt r) + 1 := by
      have q1 := Nat.le_max_left (hgt l) (hgt r)
      have q2 := Nat.le_max_right (hgt l) (hgt r)
      refine Nat.max_le.mpr ⟨by omega, Nat.max_le.mpr ⟨by omega, Nat.max_le.mpr ⟨by omega, Nat.max_le.mpr ⟨by omega, by omega⟩⟩⟩⟩
    have q : max (trD l).py.depth (max 0 (max 0 (max (trD r).py.depth 0))) + 1 ≤ max (hgt l) (hgt r) + 1 + 1 := by omega
    exact q
/-! ### maps -/
theorem mapF_fuel : ∀ (n m : Nat) (ps : List PR), ps.length ≤ n → ps.length ≤ m → mapF n ps = mapF m ps
  | 0, m, ps, h, _ => by rw [List.eq_nil_of_length_eq_zero (Nat.le_zero.mp h), mapF_nil, mapF_nil]
  | n + 1, 0, ps, _, h => by rw [List.eq_nil_of_length_eq_zero (Nat.le_zero.mp h), mapF_nil, mapF_nil]
  | n + 1, m + 1, ps, h1, h2 => by
    unfold mapF
    by_cases e : ps = []
    · rw [if_pos e, if_pos e]
    · have t1 := (top_spec e).1
      rw [if_neg e, if_neg e, mapF_fuel n m _ (by rw [List.length_take]; omega) (by rw [List.length_take]; omega), mapF_fuel n m (ps.drop _) (by rw [List.length_drop]; omega) (by rw [List.length_drop]; omega)]
/-- a map that the law meets -/
def MOk (t : Tr) (ps : List PR) : Prop := PsOk ps ∧ ps.length ≤ 50 ∧ t = mapF 50 ps
theorem MOk.tr {t : Tr} {ps : List PR} (h : MOk t ps) : trOk t := by rw [h.2.2]; exact mapF_ok 50 h.1
theorem MOk.in_ {t : Tr} {ps : List PR} (h : MOk t ps) : inord t = ps := by rw [h.2.2]; exact inord_map 50 ps h.2.1
theorem MOk.sz {t : Tr} {ps : List PR} (h : MOk t ps) : size t ≤ 50 := by rw [← inord_len, h.in_]; exact h.2.1
theorem MOk.hg {t : Tr} {ps : List PR} (h : MOk t ps) : hgt t ≤ 50 := Nat.le_trans (hgt_size t) h.sz
def nodesT : Tr → List Tr
  | .nil => []
  | .node l p r => nodesT l ++ .node l p r :: nodesT r
theorem nodes_len : ∀ t : Tr, (nodesT t).length = size t
  | .nil => rfl
  | .node l p r => by simp [nodesT, size, nodes_len l, nodes_len r]; omega
theorem nodes_sub : ∀ (n : Nat) (ps : List PR), PsOk ps → ps.length ≤ n → n ≤ 50 → ∀ t ∈ nodesT (mapF n ps), ∃ qs, MOk t qs
  | 0, ps, h, hl, _, t, ht => by cases ht
  | n + 1, ps, h, hl, h50, t, ht => by
    by_cases e : ps = []
    · rw [e, mapF_nil] at ht; cases ht
    · have t1 := (top_spec e).1
      have hm : mapF (n + 1) ps = .node (mapF n (ps.take (topI ps))) (ps.getD (topI ps) pd) (mapF n (ps.drop (topI ps + 1))) := by
        show (if ps = [] then _ else _) = _
        rw [if_neg e]
      have hself : MOk (mapF (n + 1) ps) ps := ⟨h, by omega, mapF_fuel _ _ _ hl (by omega)⟩
      rw [hm] at ht hself
      unfold nodesT at ht
      rcases List.mem_append.mp ht with ht | ht
      · exact nodes_sub n _ (h.take _) (by rw [List.length_take]; omega) (by omega) t ht
      · rcases List.mem_cons.mp ht with ht | ht
        · subst ht; exact ⟨ps, hself⟩
        · exact nodes_sub n _ (h.drop _) (by rw [List.length_drop]; omega) (by omega) t ht
theorem nodes_trs : ∀ {t : Tr}, trOk t → plAll ((nodesT t).map trD) = true
  | .nil, _ => rfl
  | .node l p r, h => by
    have e : ∀ a b : List D, plAll (a ++ b) = (plAll a && plAll b) := fun a b => by rw [plAll_all, plAll_all, plAll_all, List.all_append]
    unfold nodesT
    rw [List.map_append, e, List.map_cons, plAll_cons, nodes_trs h.1, nodes_trs h.2.2, trD_pl (t := .node l p r) h]; rfl
/-! ### the law's own likeness -/
mutual
def sml : D → Bool
  | .non => true
  | .bl _ => true
  | .int _ => true
  | .str _ => true
  | .tup xs => decide (xs.length ≤ 1000) && smlAll xs
  | .lst xs => decide (xs.length ≤ 1000) && smlAll xs
  | .dct _ _ => false
  | .ref _ => false
  | .adr _ => false
  | .ty _ => false
  | .scr _ => false
def smlAll : List D → Bool
  | [] => true
  | x :: xs => sml x && smlAll xs
end
mutual
theorem sml_pl : ∀ d : D, sml d = true → d.pl = true
  | .non, _ => rfl
  | .bl _, _ => rfl
  | .int _, _ => rfl
  | .str _, _ => rfl
  | .tup xs, h => by rw [sml, Bool.and_eq_true] at h; rw [D.pl]; exact smlAll_pl xs h.2
  | .lst xs, h => by rw [sml, Bool.and_eq_true] at h; rw [D.pl]; exact smlAll_pl xs h.2
  | .dct _ _, h => by rw [sml] at h; cases h
  | .ref _, h => by rw [sml] at h; cases h
  | .adr _, h => by rw [sml] at h; cases h
  | .ty _, h => by rw [sml] at h; cases h
  | .scr _, h => by rw [sml] at h; cases h
theorem smlAll_pl : ∀ ds : List D, smlAll ds = true → plAll ds = true
  | [], _ => rfl
  | d :: ds, h => by
    rw [smlAll, Bool.and_eq_true] at h
    rw [plAll, sml_pl d h.1, smlAll_pl ds h.2]; rfl
end
theorem smlAll_mem : ∀ {xs : List D}, smlAll xs = true → ∀ d ∈ xs, sml d = true
  | x :: xs, h, d, hd => by
    rw [smlAll, Bool.and_eq_true] at h
    rcases List.mem_cons.mp hd with e | e
    · rw [e]; exact h.1
    · exact smlAll_mem h.2 d e
theorem smlAll_of : ∀ {xs : List D}, (∀ d ∈ xs, sml d = true) → smlAll xs = true
  | [], _ => rfl
  | x :: xs, h => by rw [smlAll, h x List.mem_cons_self, smlAll_of fun d hd => h d (List.mem_cons_of_mem _ hd)]; rfl
theorem val_sml {d : D} (h : valOk d = true) : sml d = true := by cases d <;> first | rfl | cases h
theorem prD_sml {p : PR} (h : valOk p.2 = true) : sml (prD p) = true := by simp [prD, sml, smlAll, val_sml h]
theorem prs_sml {ps : List PR} (h : PsOk ps) : sml (prsD ps) = true := by
  unfold prsD
  rw [sml, Bool.and_eq_true, decide_eq_true_eq, List.length_map]
  exact ⟨by have := h.len; omega, smlAll_of fun d hd => by obtain ⟨p, hp, rfl⟩ := List.mem_map.mp hd; exact prD_sml (h.val p hp)⟩
theorem trD_sml : ∀ {t : Tr}, trOk t → sml (trD t) = true
  | .nil, _ => rfl
  | .node l p r, h => by simp [trD, sml, smlAll, trD_sml h.1, trD_sml h.2.2, val_sml (prOk_iff.mp h.2.1).2.2]
theorem val_depth {d : D} (h : valOk d = true) : d.py.depth = 0 := by cases d <;> first | rfl | cases h
theorem prD_depth {p : PR} (h : valOk p.2 = true) : (prD p).py.depth ≤ 1 := by simp [prD, D.py, pyAll, PyData.depth, PyData.depthAll, val_depth h]
theorem prs_depth {ps : List PR} (h : ∀ p ∈ ps, valOk p.2 = true) : (prsD ps).py.depth ≤ 2 := by
  unfold prsD
  rw [D.py, PyData.depth]
  have := depthAll_le (n := 1) (xs := ps.map prD) fun d hd => by obtain ⟨p, hp, rfl⟩ := List.mem_map.mp hd; exact prD_depth (h p hp)
  omega
/-! ### repr -/
theorem int_short {i : Int} (h1 : -1000000000000000000000000000000 ≤ i) (h2 : i ≤ 1000000000000000000000000000000) : (PyData.int i).leavesShort 60 = true ∧ (PyData.int i).showable = true := by
  have hb : i.natAbs < 10 ^ 31 := by omega
  have l1 := PySem.int_text_length_le10 (a := i) (k := 31) (by decide) hb
  have l2 : i.natAbs.log2 ≤ 250 := log2_le (by have e : (2:Nat) ^ 250 = 1809251394333065553493296640760748560207343510400633813116524750123642650624 := by decide
                                               omega)
  refine ⟨?_, ?_⟩
  · rw [PyData.leavesShort]
    refine decide_eq_true ?_
    show (Str.ofString (toString i)).length ≤ 60
    rw [PySem.ofString_length]; omega
  · rw [PyData.showable]; exact decide_eq_true (by omega)
theorem val_short {d : D} (h : valOk d = true) : d.py.leavesShort 60 = true ∧ d.py.showable = true ∧ d.py.bulk ≤ 100 := by
  cases d with
  | int i =>
    have := of_decide_eq_true h
    obtain ⟨a, b⟩ := int_short (i := i) (by omega) (by omega)
    exact ⟨a, b, Nat.zero_le _⟩
  | str x =>
    rw [valOk, Bool.and_eq_true, decide_eq_true_eq] at h
    refine ⟨?_, rfl, h.1⟩
    show (x.cps.toList.all fun c => decide (c < 16 ^ 8)) = true
    rw [List.all_eq_true]
    intro c hc
    have h2 := of_decide_eq_true (List.all_eq_true.mp h.2 c hc)
    exact decide_eq_true (by omega)
  | _ => cases h
theorem prD_short {p : PR} (h : prOk p = true) : (prD p).py.leavesShort 60 = true ∧ (prD p).py.showable = true ∧ (prD p).py.bulk ≤ 102 := by
  obtain ⟨h1, h2, h3⟩ := prOk_iff.mp h
  obtain ⟨a, b, c⟩ := val_short h3
  obtain ⟨d, e⟩ := int_short (i := p.1) (by omega) (by omega)
  refine ⟨?_, ?_, ?_⟩
  · simp [prD, D.py, pyAll, PyData.leavesShort, PyData.leavesShortAll, a] at d ⊢; exact d
  · simp [prD, D.py, pyAll, PyData.showable, PyData.showableAll, b] at e ⊢; exact e
  · simp [prD, D.py, pyAll, PyData.bulk, PyData.bulkAll]; omega
theorem prs_short : ∀ {ps : List PR}, (∀ p ∈ ps, prOk p = true) → PyData.leavesShortAll 60 (pyAll (ps.map prD)) = true ∧ PyData.showableAll (pyAll (ps.map prD)) = true ∧ PyData.bulkAll (pyAll (ps.map prD)) ≤ 103 * ps.length
  | [], _ => ⟨rfl, rfl, by simp [pyAll, PyData.bulkAll]⟩
  | p :: ps, h => by
    obtain ⟨a, b, c⟩ := prD_short (h p List.mem_cons_self)
    obtain ⟨d, e, f⟩ := prs_short fun q hq => h q (List.mem_cons_of_mem _ hq)
    refine ⟨?_, ?_, ?_⟩
    · rw [List.map_cons, pyAll, PyData.leavesShortAll, a, d]; rfl
    · rw [List.map_cons, pyAll, PyData.showableAll, b, e]; rfl
    · rw [List.map_cons, pyAll, PyData.bulkAll, List.length_cons]; omega
theorem repr_ok {ps : List PR} (h : PsOk ps) (μ : Mem) : F.repr [prsD ps] μ = .ok (.str (prsD ps).py.shown) μ := by
  obtain ⟨a, b, c⟩ := prs_short h.pr
  have hl := PySem.PyData.shown_le_bulk 60 (by decide) (prsD ps).py (by unfold prsD; rw [D.py, PyData.leavesShort]; exact a)
  have hb : (prsD ps).py.bulk ≤ 41200 := by unfold prsD; rw [D.py, PyData.bulk]; have := h.len; omega
  have hs : (prsD ps).py.showable = true := by unfold prsD; rw [D.py, PyData.showable]; exact b
  have hd := prs_depth h.val
  exact repr_tup h.pl hs (by unfold prsD at hl hb; omega) (by unfold prsD at hd; omega)
/-! ### draws -/
def DeckOk (t : Int) (xs : List D) : Prop := ∃ a b c : Int, xs = [.int a, .int b, .int c] ∧ 0 ≤ b ∧ b ≤ 10000000000000000000000000000000 ∧ 0 ≤ c ∧ c ≤ t
theorem DeckOk.flat {t : Int} {xs : List D} (h : DeckOk t xs) : (MO.lst xs).flat = true := by
  obtain ⟨a, b, c, rfl, _⟩ := h; rfl
theorem DeckOk.le {t u : Int} {xs : List D} (h : DeckOk t xs) (l : t ≤ u) : DeckOk u xs := by
  obtain ⟨a, b, c, e, h1, h2, h3, h4⟩ := h
  exact ⟨a, b, c, e, h1, h2, h3, by omega⟩
/-- a def that is handed the deck alone, by its body -/
theorem deck_def {k : Nat} {f : Fn} {ds : List D} {t u : Int} {R : D → Prop} (hl : npOf f = ds.length + 1) (hds : ds.all D.nr = true) (hR : ∀ d, R d → d.nr = true)
    (body : ∀ xs, DeckOk t xs → swp (bodyOf (call k) f (((D.ref 0 :: ds).map some) ++ List.replicate (nsOf f - (ds.length + 1)) none) [.lst xs]) fun f μ' => match f with
      | .ret d => R d ∧ ∃ xs' r, μ' = .lst xs' :: r ∧ DeckOk u xs'
      | _ => False) {i : Nat} {xs : List D} {μ : Mem} (hi : μ[i]? = some (.lst xs)) (hd : DeckOk t xs) {Q : D → Mem → Prop} {X : Exn → Mem → Prop}
    (q : ∀ d xs', R d → DeckOk u xs' → Q d (μ.set i (.lst xs'))) : wp (call (k + 1) f (.ref i :: ds) μ) Q X := by
  refine wp_proto1 hi hd.flat hds (wp_runB (by rw [List.length_cons, hl]) (swp_mono (body xs hd) fun f μ' h => ?_))
  cases f with
  | ret d =>
    obtain ⟨h1, xs', r, rfl, h2⟩ := h
    refine ⟨_, _, rfl, h2.flat, ?_⟩
    rw [outD_nr (hR d h1)]
    exact q d xs' h1 h2
  | _ => exact h.elim
/-- the dict of the drawn pairs -/
structure FoundOk (n : Nat) (ks : List Key) (xs : List D) : Prop where
  len : ks.length = xs.length
  le : ks.length ≤ n
  nd : ks.Nodup
  key : ∀ k ∈ ks, ∃ i : Int, k = .inl i ∧ 0 ≤ i ∧ i ≤ 999999999999
  val : ∀ d ∈ xs, valOk d = true
theorem dSet_mem : ∀ {ks : List Key} {xs : List D} {k : Key} {d x : D}, x ∈ dSet ks xs k d → x = d ∨ x ∈ xs
  | [], xs, k, d, x, h => by unfold dSet at h; cases h
  | k' :: ks, [], k, d, x, h => by unfold dSet at h; cases h
  | k' :: ks, y :: xs, k, d, x, h => by
    unfold dSet at h
    rcases List.mem_cons.mp h with e | e
    · by_cases hk : k' = k
      · rw [if_pos hk] at e; exact .inl e
      · rw [if_neg hk] at e; exact .inr (by rw [e]; exact List.mem_cons_self)
    · rcases dSet_mem e with e | e
      · exact .inl e
      · exact .inr (List.mem_cons_of_mem _ e)
theorem dGet_none : ∀ {ks : List Key} {xs : List D} {k : Key}, ks.length = xs.length → (dGet ks xs k).isSome = false → k ∉ ks
  | [], xs, k, _, _ => by simp
  | k' :: ks, [], k, h, _ => by simp at h
  | k' :: ks, y :: xs, k, h, e => by
    unfold dGet at e
    by_cases hk : k' = k
    · rw [if_pos hk] at e; cases e
    · rw [if_neg hk] at e
      have := dGet_none (by simpa using h) e
      intro z
      rcases List.mem_cons.mp z with z | z
      · exact hk z.symm
      · exact this z
theorem dGet_mem : ∀ {ks : List Key} {xs : List D} {k : Key}, ks.length = xs.length → k ∈ ks → ∃ d, dGet ks xs k = some d ∧ d ∈ xs
  | k' :: ks, [], k, h, _ => by simp at h
  | k' :: ks, y :: xs, k, h, m => by
    unfold dGet
    by_cases hk : k' = k
    · rw [if_pos hk]; exact ⟨y, rfl, List.mem_cons_self⟩
    · rw [if_neg hk]
      rcases List.mem_cons.mp m with m | m
      · exact absurd m.symm hk
      · obtain ⟨d, e, hd⟩ := dGet_mem (xs := xs) (by simpa using h) m
        exact ⟨d, e, List.mem_cons_of_mem _ hd⟩
theorem FoundOk.put {n : Nat} {ks : List Key} {xs : List D} (h : FoundOk n ks xs) {i : Int} {d : D} (h1 : 0 ≤ i) (h2 : i ≤ 999999999999) (hd : valOk d = true) : FoundOk (n + 1) (dPutK ks xs (.inl i)) (dPutX ks xs (.inl i) d) := by
  refine ⟨dPut_len h.len, ?_, ?_, ?_, ?_⟩
  · unfold dPutK; split
    · have := h.le; omega
    · rw [List.length_append]; have := h.le; show ks.length + 1 ≤ _; omega
  · unfold dPutK; split
    · exact h.nd
    · rename_i hs
      refine List.nodup_append.mpr ⟨h.nd, by simp, fun a ha b hb => ?_⟩
      have : b = .inl i := by simpa using hb
      subst this
      intro z; subst z
      exact dGet_none h.len (by simpa using hs) ha
  · intro k hk
    unfold dPutK at hk
    split at hk
    · exact h.key k hk
    · rcases List.mem_append.mp hk with hk | hk
      · exact h.key k hk
      · have : k = .inl i := by simpa using hk
        exact ⟨i, this, h1, h2⟩
  · intro x hx
    unfold dPutX at hx
    split at hx
    · rcases dSet_mem hx with e | e
      · rw [e]; exact hd
      · exact h.val x e
    · rcases List.mem_append.mp hx with e | e
      · exact h.val x e
      · have : x = d := by simpa using e
        rw [this]; exact hd
theorem set_dct {n : Nat} {ks : List Key} {vs : List D} {i : Int} {d : D} {μ : Mem} (hn : μ[n]? = some (.dct ks vs)) (hl : ks.length < 16777216) : Op.set (.ref n) (.int i) d μ = some (μ.set n (.dct (dPutK ks vs (.inl i)) (dPutX ks vs (.inl i) d))) := by
  unfold Op.set
  simp only [hn, Dp.keyOf]
  rw [if_pos hl]
theorem intKeys_of (ns : List Int) : Op.intKeys (ns.map Sum.inl) = some ns := by
  induction ns with
  | nil => rfl
  | cons n ns ih => rw [List.map_cons, Op.intKeys, ih]; rfl
theorem FoundOk.ints {n : Nat} {ks : List Key} {xs : List D} (h : FoundOk n ks xs) : ∃ ns : List Int, ks = ns.map Sum.inl := by
  have : ∀ ks : List Key, (∀ k ∈ ks, ∃ i : Int, k = .inl i ∧ 0 ≤ i ∧ i ≤ 999999999999) → ∃ ns : List Int, ks = ns.map Sum.inl := fun ks => by
    induction ks with
    | nil => exact fun _ => ⟨[], rfl⟩
    | cons k ks ih =>
      intro h
      obtain ⟨i, rfl, _⟩ := h k List.mem_cons_self
      obtain ⟨ns, e⟩ := ih fun k hk => h k (List.mem_cons_of_mem _ hk)
      exact ⟨i :: ns, by rw [e]; rfl⟩
  exact this ks h.key
def srt (ns : List Int) : List Int := ns.mergeSort fun a b => decide (a ≤ b)
theorem srt_mem {ns : List Int} {i : Int} : i ∈ srt ns ↔ i ∈ ns := (List.mergeSort_perm ns _).mem_iff
theorem srt_len (ns : List Int) : (srt ns).length = ns.length := (List.mergeSort_perm ns _).length_eq
theorem srt_up {ns : List Int} (h : ns.Nodup) : (srt ns).Pairwise (· < ·) := by
  have h1 : (srt ns).Pairwise (· ≤ ·) := by
    have := List.pairwise_mergeSort (le := fun a b : Int => decide (a ≤ b)) (fun a b c h1 h2 => decide_eq_true (Int.le_trans (of_decide_eq_true h1) (of_decide_eq_true h2))) (fun a b => by rcases Int.le_total a b with h | h <;> simp [h]) ns
    exact this.imp fun h => of_decide_eq_true h
  have h2 : (srt ns).Pairwise (· ≠ ·) := (List.mergeSort_perm ns _).nodup_iff.mpr h
  exact (h1.and h2).imp fun ⟨a, b⟩ => by omega
def foundPs (ns : List Int) (ks : List Key) (vs : List D) : List PR := (srt ns).map fun i => (i, (dGet ks vs (.inl i)).getD .non)
theorem found_ps {n : Nat} {ns : List Int} {vs : List D} (h : FoundOk n (ns.map Sum.inl) vs) (hn : n ≤ 400) : PsOk (foundPs ns (ns.map Sum.inl) vs) ∧ (foundPs ns (ns.map Sum.inl) vs).length ≤ n := by
  have hl : (foundPs ns (ns.map Sum.inl) vs).length ≤ n := by
    have := h.le
    simp [foundPs, srt_len] at this ⊢; exact this
  refine ⟨⟨fun p hp => ?_, Nat.le_trans hl hn, ?_⟩, hl⟩
  · obtain ⟨i, hi, rfl⟩ := List.mem_map.mp hp
    have hm : (Sum.inl i : Key) ∈ ns.map Sum.inl := List.mem_map.mpr ⟨i, srt_mem.mp hi, rfl⟩
    obtain ⟨j, e, h1, h2⟩ := h.key _ hm
    cases e
    obtain ⟨d, e, hd⟩ := dGet_mem h.len hm
    exact prOk_iff.mpr ⟨h1, h2, by show valOk ((dGet _ vs (.inl i)).getD .non) = true; rw [e]; exact h.val d hd⟩
  · unfold rising foundPs
    rw [List.map_map]
    have : ((fun p : PR => p.1) ∘ fun i => (i, (dGet (ns.map Sum.inl) vs (.inl i)).getD .non)) = id := rfl
    rw [this, List.map_id]
    refine srt_up ?_
    have := h.nd
    exact (List.pairwise_map.mp this).imp fun h e => h (congrArg Sum.inl e)
/-! ### the law -/
theorem two_sml {a b : D} (ha : sml a = true) (hb : sml b = true) : sml (.lst [a, b]) = true := by simp [sml, smlAll, ha, hb]
theorem two_depth {a b : D} {n : Nat} (ha : a.py.depth ≤ n) (hb : b.py.depth ≤ n) : (D.lst [a, b]).py.depth ≤ n + 1 := by
  rw [D.py, PyData.depth]
  have := depthAll_le (n := n) (xs := [a, b]) fun d hd => by
    rcases List.mem_cons.mp hd with e | e
    · rw [e]; exact ha
    · rcases List.mem_cons.mp e with e | e
      · rw [e]; exact hb
      · cases e
  omega
@[simp] theorem ne_self {x : Str} {μ : Mem} : Op.ne (.str x) (.str x) μ = .ok (.bl false) μ := by rw [Dp.ne_str]; simp
def isPr (d : D) : Prop := ∃ p : PR, d = prD p ∧ prOk p = true
def isNode (d : D) : Prop := ∃ n qs, d = trD n ∧ MOk n qs
def isIx (ns : List Int) (d : D) : Prop := ∃ i : Nat, d = .int i ∧ i < ns.length
theorem deck_loop (k : Nat) (ns : List Int) (j : Nat) (hn : ns.length ≤ 63) (cell : Int) (m0 : Int) (hm0 : 0 ≤ m0) (hm1 : m0 ≤ 100) (P : Fl → Mem → Prop)
    (hP : ∀ m x4, 0 ≤ m → m ≤ 100000000000000000000000000319 → P (.next [some (.scr ns), some (.int j), some (.int cell), some (.int m), x4]) []) :
    swp (S.loop (G.name 4)
      (S.asg (E.op2 Op.mod (E.call F.int (A.cons (E.op2 Op.add (E.op2 Op.add (E.op2 Op.mul (E.var 3) (E.val (.int 8191))) (E.op2 Op.mod (E.call F.int (A.cons (E.op2 Op.item (E.var 0) (E.var 4)) (A.nil))) (E.op2 Op.add (E.op2 Op.pow (E.val (.int 10)) (E.val (.int 23))) (E.val (.int 117))))) (E.op2 Op.mul (E.val (.int 3)) (E.var 4))) (A.nil))) (E.op2 Op.add (E.op2 Op.pow (E.val (.int 10)) (E.val (.int 29))) (E.val (.int 319)))) (G.name 3))
      ((List.range ns.length).map fun i => D.int (i : Nat)) [some (.scr ns), some (.int j), some (.int cell), some (.int m0), none] []) P := by
  refine swp_loop (fun ds ρ μ => (∀ d ∈ ds, isIx ns d) ∧ ∃ m x4, ρ = [some (.scr ns), some (.int j), some (.int cell), some (.int m), x4] ∧ μ = [] ∧ 0 ≤ m ∧ m ≤ 100000000000000000000000000319) ?_ ?_ _ _ _ ?_
  · rintro ρ μ ⟨_, m, x4, rfl, rfl, h1, h2⟩
    exact hP m x4 h1 h2
  · rintro d ds ρ μ ⟨hds, m, x4, rfl, rfl, h1, h2⟩
    obtain ⟨i, rfl, hi⟩ := hds d List.mem_cons_self
    have e : ∀ μ, Op.item (.scr ns) (.int (i : Nat)) μ = .ok (.int ns[i]) μ := fun μ => by rw [item_scr (by omega), Int.toNat_natCast, List.getElem?_eq_getElem hi]; rfl
    simp [e]
    simp (disch := omega) only [o_mul, o_pow, wp_ok]
    simp
    simp (disch := omega) only [o_mod, wp_ok, Dp.add_int, fint_int]
    exact ⟨fun d hd => hds d (List.mem_cons_of_mem _ hd), _, rfl, trivial, Int.emod_nonneg _ (by decide), Int.le_of_lt (Int.emod_lt_of_pos _ (by decide))⟩
  · exact ⟨fun d hd => by obtain ⟨i, hi, rfl⟩ := List.mem_map.mp hd; exact ⟨i, rfl, List.mem_range.mp hi⟩, _, none, rfl, rfl, by omega, by omega⟩
def isRg (d : D) : Prop := ∃ j : Nat, d = .int j ∧ j ≤ 10
end K56
namespace K56
open PySem PySem.Spec PyProof.Rows L2 Dp
/-! ### treaps -/
def prK (k : Int) : Int := mixI k * 1000000000000 + k
def keyIn (k : Int) : Prop := 0 ≤ k ∧ k ≤ 999999999999
def abv (a b : Int) : Bool := decide (mixI b < mixI a ∨ (mixI b = mixI a ∧ b < a))
theorem abv_iff {a b : Int} (ha : keyIn a) (hb : keyIn b) : abv a b = true ↔ prK b < prK a := by
  unfold abv prK
  rw [decide_eq_true_eq]
  obtain ⟨h1, h2⟩ := ha
  obtain ⟨h3, h4⟩ := hb
  generalize mixI a = x
  generalize mixI b = y
  omega
theorem prK_inj {a b : Int} (ha : keyIn a) (hb : keyIn b) (h : prK a = prK b) : a = b := by
  unfold prK at h
  obtain ⟨h1, h2⟩ := ha
  obtain ⟨h3, h4⟩ := hb
  generalize mixI a = x at h
  generalize mixI b = y at h
  omega
theorem eqv_int (a b : Int) : PyData.eqv (.int a) (.int b) = decide (a = b) := by
  rw [PyData.eqv]; by_cases h : a = b <;> simp [h]
theorem lt_all1 (a b : Int) (xs ys : List PyData) : PyProof.Rows.lexLt PyProof.Rows.itemOrd (PySem.W.keyToksAll (.int a :: xs)) (PySem.W.keyToksAll (.int b :: ys)) = if a = b then PyProof.Rows.lexLt PyProof.Rows.itemOrd (PySem.W.keyToksAll xs) (PySem.W.keyToksAll ys) else decide (a < b) := by
  have hal : PySem.W.alike (.int a) (.int b) = true := by simp [PySem.W.alike]
  by_cases h : a = b
  · rw [if_pos h, PySem.W.dataLt_all_yes hal (by rw [eqv_int]; exact decide_eq_true h)]
  · rw [if_neg h, PySem.W.dataLt_all_no hal (by rw [eqv_int]; exact decide_eq_false h), PySem.W.dataLt_int]
theorem lt_all0 : PyProof.Rows.lexLt PyProof.Rows.itemOrd (PySem.W.keyToksAll []) (PySem.W.keyToksAll []) = false := by
  exact PyProof.Rows.lex_irrefl _
theorem lt2 (a b c d : Int) : PySem.W.dataLt (.tuple [.int a, .int b]) (.tuple [.int c, .int d]) = decide (a < c ∨ (a = c ∧ b < d)) := by
  rw [PySem.W.dataLt_tuple, lt_all1, lt_all1, lt_all0]
  by_cases h : a = c
  · by_cases h2 : b = d
    · simp [h, h2]
    · simp [h, h2]
  · simp [h]
theorem lt3 (a b c d e f : Int) : PySem.W.dataLt (.tuple [.int a, .int b, .int c]) (.tuple [.int d, .int e, .int f]) = decide (a < d ∨ (a = d ∧ (b < e ∨ (b = e ∧ c < f)))) := by
  rw [PySem.W.dataLt_tuple, lt_all1, lt_all1, lt_all1, lt_all0]
  by_cases h : a = d
  · by_cases h2 : b = e
    · by_cases h3 : c = f <;> simp [h, h2, h3]
    · simp [h, h2]
  · simp [h]
theorem fold_rank (f : D → D → Bool) (r : D → Int) : ∀ (xs : List D) (x : D), (∀ a ∈ x :: xs, ∀ b ∈ x :: xs, f a b = decide (r a < r b)) → ∀ b ∈ x :: xs, r b ≤ r (xs.foldl (fun a y => if f a y then y else a) x)
  | [], x, _, b, hb => by
    have : b = x := by simpa using hb
    rw [this]; exact Int.le_refl _
  | y :: xs, x, h, b, hb => by
    rw [List.foldl_cons]
    have hxy := h x List.mem_cons_self y (List.mem_cons_of_mem _ List.mem_cons_self)
    by_cases hlt : r x < r y
    · rw [hxy, if_pos (decide_eq_true hlt)]
      have ih := fold_rank f r xs y fun a ha b hb => h a (List.mem_cons_of_mem _ ha) b (List.mem_cons_of_mem _ hb)
      rcases List.mem_cons.mp hb with e | e
      · have := ih y List.mem_cons_self
        rw [e]; omega
      · exact ih b e
    · rw [hxy, decide_eq_false hlt, if_neg Bool.false_ne_true]
      have sub : ∀ a ∈ x :: xs, a ∈ x :: y :: xs := fun a ha => by
        rcases List.mem_cons.mp ha with e | e
        · rw [e]; exact List.mem_cons_self
        · exact List.mem_cons_of_mem _ (List.mem_cons_of_mem _ e)
      have ih := fold_rank f r xs x fun a ha b hb => h a (sub a ha) b (sub b hb)
      rcases List.mem_cons.mp hb with e | e
      · rw [e]; exact ih x List.mem_cons_self
      · rcases List.mem_cons.mp e with e | e
        · have := ih x List.mem_cons_self
          rw [e]; omega
        · exact ih b (List.mem_cons_of_mem _ e)
theorem PsOk.keyIn {ps : List PR} (h : PsOk ps) {p : PR} (hp : p ∈ ps) : keyIn p.1 := ⟨(prOk_iff.mp (h.pr p hp)).1, (prOk_iff.mp (h.pr p hp)).2.1⟩
def rk : D → Int
  | .tup [.int a, .int b, .int c] => (a * 1000000000000 + b) * 1000000000000 + c
  | _ => 0
theorem top_max {ps : List PR} (h : PsOk ps) (ne : ps ≠ []) : ∀ j, j < ps.length → j ≠ topI ps → prK (ps.getD j pd).1 < prK (ps.getD (topI ps) pd).1 := by
  intro j hj hne
  obtain ⟨t1, t2⟩ := top_spec ne
  have hk : ∀ i, i < ps.length → keyIn (ps.getD i pd).1 := fun i hi => h.keyIn (getD_mem hi)
  have hlen := h.len
  have hr : ∀ i, i < ps.length → ∀ l, l < ps.length → PySem.W.dataLt (triAt ps i).py (triAt ps l).py = decide (rk (triAt ps i) < rk (triAt ps l)) := fun i hi l hl => by
    have k1 := hk i hi
    have k2 := hk l hl
    unfold triAt
    simp only [D.py, pyAll, lt3, rk]
    obtain ⟨a1, a2⟩ := k1
    obtain ⟨b1, b2⟩ := k2
    generalize (ps.getD i pd).1 = u at a1 a2 ⊢
    generalize (ps.getD l pd).1 = v at b1 b2 ⊢
    generalize mixI u = x
    generalize mixI v = y
    have e : (x < y ∨ x = y ∧ (u < v ∨ u = v ∧ (i : Int) < (l : Int))) ↔ (x * 1000000000000 + u) * 1000000000000 + (i : Int) < (y * 1000000000000 + v) * 1000000000000 + (l : Int) := by omega
    exact decide_eq_decide.mpr e
  have hmax : rk (triAt ps j) ≤ rk (topD ps) := by
    unfold topD
    cases e : tri ps with
    | nil =>
      have : (tri ps).length = ps.length := by simp [tri]
      rw [e] at this
      exact absurd (List.eq_nil_of_length_eq_zero this.symm) ne
    | cons x xs =>
      have hm : ∀ d ∈ x :: xs, ∃ i, i < ps.length ∧ d = triAt ps i := fun d hd => by
        rw [← e] at hd
        obtain ⟨i, hi, rfl⟩ := List.mem_map.mp hd
        exact ⟨i, List.mem_range.mp hi, rfl⟩
      refine fold_rank (fun a y => PySem.W.dataLt a.py y.py) rk xs x (fun a ha b hb => ?_) _ ?_
      · obtain ⟨i, hi, rfl⟩ := hm a ha
        obtain ⟨l, hl, rfl⟩ := hm b hb
        exact hr i hi l hl
      · rw [← e]; exact List.mem_map.mpr ⟨j, List.mem_range.mpr hj, rfl⟩
  rw [t2] at hmax
  have hdist : (ps.getD j pd).1 ≠ (ps.getD (topI ps) pd).1 := by
    have hp := List.pairwise_iff_getElem.mp h.up
    rw [List.getD_eq_getElem?_getD, List.getD_eq_getElem?_getD, List.getElem?_eq_getElem hj, List.getElem?_eq_getElem t1]
    rcases Nat.lt_or_ge j (topI ps) with hlt | hge
    · have := hp j (topI ps) (by simpa using hj) (by simpa using t1) hlt
      simp at this ⊢; omega
    · have := hp (topI ps) j (by simpa using t1) (by simpa using hj) (by omega)
      simp at this ⊢; omega
  have k1 := hk j hj
  have k2 := hk _ t1
  unfold triAt at hmax
  simp only [rk] at hmax
  unfold prK
  obtain ⟨a1, a2⟩ := k1
  obtain ⟨b1, b2⟩ := k2
  generalize (ps.getD j pd).1 = u at a1 a2 hmax hdist ⊢
  generalize (ps.getD (topI ps) pd).1 = v at b1 b2 hmax hdist ⊢
  generalize mixI u = x at hmax ⊢
  generalize mixI v = y at hmax ⊢
  omega
def isT : Tr → Prop
  | .nil => True
  | .node l p r => isT l ∧ isT r ∧ (∀ q ∈ inord l, prK q.1 < prK p.1) ∧ ∀ q ∈ inord r, prK q.1 < prK p.1
theorem mem_take {ps : List PR} {n : Nat} {q : PR} (h : q ∈ ps.take n) : ∃ j, j < n ∧ j < ps.length ∧ ps.getD j pd = q := by
  obtain ⟨j, hj, e⟩ := List.mem_iff_getElem.mp h
  rw [List.length_take] at hj
  refine ⟨j, by omega, by omega, ?_⟩
  rw [List.getD_eq_getElem?_getD, List.getElem?_eq_getElem (by omega)]
  rw [List.getElem_take] at e
  exact e
theorem mem_drop {ps : List PR} {n : Nat} {q : PR} (h : q ∈ ps.drop n) : ∃ j, n ≤ j ∧ j < ps.length ∧ ps.getD j pd = q := by
  obtain ⟨j, hj, e⟩ := List.mem_iff_getElem.mp h
  rw [List.length_drop] at hj
  refine ⟨n + j, by omega, by omega, ?_⟩
  rw [List.getD_eq_getElem?_getD, List.getElem?_eq_getElem (by omega)]
  rw [List.getElem_drop] at e
  exact e
theorem mapF_T : ∀ (n : Nat) (ps : List PR), PsOk ps → ps.length ≤ n → isT (mapF n ps)
  | 0, _, _, _ => True.intro
  | n + 1, ps, h, hl => by
    unfold mapF
    by_cases e : ps = []
    · rw [if_pos e]; exact True.intro
    · rw [if_neg e]
      obtain ⟨t1, _⟩ := top_spec e
      have l1 : (ps.take (topI ps)).length ≤ n := by rw [List.length_take]; omega
      have l2 : (ps.drop (topI ps + 1)).length ≤ n := by rw [List.length_drop]; omega
      refine ⟨mapF_T n _ (h.take _) l1, mapF_T n _ (h.drop _) l2, ?_, ?_⟩
      · rw [inord_map n _ l1]
        intro q hq
        obtain ⟨j, h1, h2, rfl⟩ := mem_take hq
        exact top_max h e j h2 (by omega)
      · rw [inord_map n _ l2]
        intro q hq
        obtain ⟨j, h1, h2, rfl⟩ := mem_drop hq
        exact top_max h e j h2 (by omega)
theorem uniq : ∀ (t : Tr) (n : Nat), isT t → PsOk (inord t) → size t ≤ n → t = mapF n (inord t)
  | .nil, n, _, _, _ => by rw [show inord .nil = [] from rfl, mapF_nil]
  | .node l p r, 0, _, _, h => by simp [size] at h
  | .node l p r, n + 1, ht, h, hn => by
    obtain ⟨h1, h2, h3, h4⟩ := ht
    have hs : size l + 1 + size r ≤ n + 1 := hn
    have ne : inord (.node l p r) ≠ [] := by simp [inord]
    obtain ⟨t1, _⟩ := top_spec ne
    have hlen : (inord (.node l p r)).length = size l + 1 + size r := inord_len _
    have hat : (inord (.node l p r)).getD (size l) pd = p := by
      rw [List.getD_eq_getElem?_getD]
      show ((inord l ++ p :: inord r)[size l]?).getD pd = p
      rw [List.getElem?_append_right (by rw [inord_len]; exact Nat.le_refl _), inord_len, Nat.sub_self]; rfl
    have htop : topI (inord (.node l p r)) = size l := by
      by_cases hne : topI (inord (.node l p r)) = size l
      · exact hne
      · have hm := top_max h ne (size l) (by omega) fun e => hne e.symm
        rw [hat] at hm
        have hmem := getD_mem t1
        generalize (inord (.node l p r)).getD (topI (inord (.node l p r))) pd = q at hm hmem
        rcases List.mem_append.mp hmem with hq | hq
        · have := h3 q hq; omega
        · rcases List.mem_cons.mp hq with hq | hq
          · rw [hq] at hm; omega
          · have := h4 q hq; omega
    have htake : (inord (.node l p r)).take (size l) = inord l := by
      show (inord l ++ p :: inord r).take (size l) = _
      rw [List.take_append_of_le_length (by rw [inord_len]; exact Nat.le_refl _), List.take_of_length_le (by rw [inord_len]; exact Nat.le_refl _)]
    have hdrop : (inord (.node l p r)).drop (size l + 1) = inord r := by
      show (inord l ++ p :: inord r).drop (size l + 1) = _
      rw [List.drop_append, inord_len, List.drop_eq_nil_of_le (by rw [inord_len]; omega), show size l + 1 - size l = 1 by omega]; rfl
    unfold mapF
    rw [if_neg ne, htop, hat, htake, hdrop]
    have p1 := h.take (size l)
    rw [htake] at p1
    have p2 := h.drop (size l + 1)
    rw [hdrop] at p2
    rw [← uniq l n h1 p1 (by omega), ← uniq r n h2 p2 (by omega)]
/-- the map of some pairs, by its content -/
theorem mok_of {t : Tr} (ht : isT t) (h : PsOk (inord t)) (hs : size t ≤ 50) : MOk t (inord t) := ⟨h, by rw [inord_len]; exact hs, uniq t 50 ht h hs⟩
theorem MOk.T {t : Tr} {ps : List PR} (h : MOk t ps) : isT t := by rw [h.2.2]; exact mapF_T 50 ps h.1 h.2.1
theorem MOk.eq {t u : Tr} {ps : List PR} (h : MOk t ps) (k : MOk u ps) : t = u := by rw [h.2.2, k.2.2]
end K56
namespace K56
open PySem PySem.Spec PyProof.Rows L2 Dp
/-! ### split, glue, put, drop on trees -/
def splT : Tr → Int → Tr × Option D × Tr
  | .nil, _ => (.nil, none, .nil)
  | .node l p r, k => if p.1 = k then (l, some p.2, r) else if k < p.1 then ((splT l k).1, (splT l k).2.1, .node (splT l k).2.2 p r) else (.node l p (splT r k).1, (splT r k).2.1, (splT r k).2.2)
def gluN : Nat → Tr → Tr → Tr
  | 0, a, b => match a with
    | .nil => b
    | a => a
  | n + 1, a, b => match a, b with
    | .nil, b => b
    | a, .nil => a
    | .node l p r, .node l' q r' => if abv p.1 q.1 then .node l p (gluN n r (.node l' q r')) else .node (gluN n (.node l p r) l') q r'
theorem gluN_node {n : Nat} {l r l' r' : Tr} {p q : PR} : gluN (n + 1) (.node l p r) (.node l' q r') = if abv p.1 q.1 then .node l p (gluN n r (.node l' q r')) else .node (gluN n (.node l p r) l') q r' := rfl
def wthT : Tr → PR → Tr
  | .nil, p => .node .nil p .nil
  | .node l q r, p => if q.1 = p.1 then .node l p r else if abv p.1 q.1 then .node (splT (.node l q r) p.1).1 p (splT (.node l q r) p.1).2.2 else if p.1 < q.1 then .node (wthT l p) q r else .node l q (wthT r p)
def wouT : Tr → Int → Tr
  | .nil, _ => .nil
  | .node l q r, k => if q.1 = k then gluN (size l + size r) l r else if k < q.1 then .node (wouT l k) q r else .node l q (wouT r k)
def lowP (ps : List PR) (k : Int) : List PR := ps.filter fun q => decide (q.1 < k)
def highP (ps : List PR) (k : Int) : List PR := ps.filter fun q => decide (k < q.1)
def neP (ps : List PR) (k : Int) : List PR := ps.filter fun q => decide (q.1 ≠ k)
def theP (ps : List PR) (k : Int) : Option D := (ps.find? fun q => decide (q.1 = k)).map (·.2)
theorem rising_node {l r : Tr} {p : PR} (h : rising (inord (.node l p r))) : rising (inord l) ∧ rising (inord r) ∧ (∀ q ∈ inord l, q.1 < p.1) ∧ ∀ q ∈ inord r, p.1 < q.1 := by
  unfold rising at h
  rw [show inord (.node l p r) = inord l ++ p :: inord r from rfl, List.map_append, List.map_cons, List.pairwise_append, List.pairwise_cons] at h
  obtain ⟨a, ⟨b, c⟩, d⟩ := h
  exact ⟨a, c, fun q hq => d q.1 (List.mem_map.mpr ⟨q, hq, rfl⟩) p.1 List.mem_cons_self, fun q hq => b q.1 (List.mem_map.mpr ⟨q, hq, rfl⟩)⟩
theorem filter_all {xs : List PR} {f : PR → Bool} (h : ∀ q ∈ xs, f q = true) : xs.filter f = xs := List.filter_eq_self.mpr h
theorem filter_none {xs : List PR} {f : PR → Bool} (h : ∀ q ∈ xs, f q = false) : xs.filter f = [] := List.filter_eq_nil_iff.mpr fun q hq => by rw [h q hq]; exact Bool.false_ne_true
theorem low_node {l r : Tr} {p : PR} (k : Int) : lowP (inord (.node l p r)) k = lowP (inord l) k ++ (if p.1 < k then [p] else []) ++ lowP (inord r) k := by
  unfold lowP
  rw [show inord (.node l p r) = inord l ++ p :: inord r from rfl, List.filter_append, List.filter_cons]
  by_cases h : p.1 < k <;> simp [h]
theorem high_node {l r : Tr} {p : PR} (k : Int) : highP (inord (.node l p r)) k = highP (inord l) k ++ (if k < p.1 then [p] else []) ++ highP (inord r) k := by
  unfold highP
  rw [show inord (.node l p r) = inord l ++ p :: inord r from rfl, List.filter_append, List.filter_cons]
  by_cases h : k < p.1 <;> simp [h]
theorem ne_node {l r : Tr} {p : PR} (k : Int) : neP (inord (.node l p r)) k = neP (inord l) k ++ (if p.1 ≠ k then [p] else []) ++ neP (inord r) k := by
  unfold neP
  rw [show inord (.node l p r) = inord l ++ p :: inord r from rfl, List.filter_append, List.filter_cons]
  by_cases h : p.1 = k <;> simp [h]
theorem find_app (a b : List PR) (k : Int) (h : ∀ q ∈ a, q.1 ≠ k) : theP (a ++ b) k = theP b k := by
  unfold theP
  rw [List.find?_append, List.find?_eq_none.mpr fun q hq => by simpa using h q hq]; rfl
theorem find_none {a : List PR} {k : Int} (h : ∀ q ∈ a, q.1 ≠ k) : theP a k = none := by
  unfold theP
  rw [List.find?_eq_none.mpr fun q hq => by simpa using h q hq]; rfl
theorem find_app_none (a b : List PR) (k : Int) (h : ∀ q ∈ b, q.1 ≠ k) : theP (a ++ b) k = theP a k := by
  unfold theP
  rw [List.find?_append, List.find?_eq_none (l := b) |>.mpr fun q hq => by simpa using h q hq]
  cases List.find? (fun q => decide (q.1 = k)) a <;> rfl
theorem split_ok : ∀ (t : Tr) (k : Int), rising (inord t) → inord (splT t k).1 = lowP (inord t) k ∧ (splT t k).2.1 = theP (inord t) k ∧ inord (splT t k).2.2 = highP (inord t) k
  | .nil, k, _ => ⟨rfl, rfl, rfl⟩
  | .node l p r, k, h => by
    obtain ⟨h1, h2, h3, h4⟩ := rising_node h
    obtain ⟨a1, a2, a3⟩ := split_ok l k h1
    obtain ⟨b1, b2, b3⟩ := split_ok r k h2
    rw [low_node, high_node]
    unfold splT
    by_cases e : p.1 = k
    · rw [if_pos e]
      have q1 : lowP (inord l) k = inord l := filter_all fun q hq => decide_eq_true (by have := h3 q hq; omega)
      have q2 : lowP (inord r) k = [] := filter_none fun q hq => decide_eq_false (by have := h4 q hq; omega)
      have q3 : highP (inord l) k = [] := filter_none fun q hq => decide_eq_false (by have := h3 q hq; omega)
      have q4 : highP (inord r) k = inord r := filter_all fun q hq => decide_eq_true (by have := h4 q hq; omega)
      refine ⟨by rw [q1, q2, if_neg (by omega)]; simp, ?_, by rw [q3, q4, if_neg (by omega)]; simp⟩
      show some p.2 = theP (inord l ++ p :: inord r) k
      rw [find_app _ _ _ fun q hq => by have := h3 q hq; omega]
      unfold theP
      rw [List.find?_cons, decide_eq_true e]; rfl
    · rw [if_neg e]
      by_cases e2 : k < p.1
      · rw [if_pos e2]
        have q2 : lowP (inord r) k = [] := filter_none fun q hq => decide_eq_false (by have := h4 q hq; omega)
        have q4 : highP (inord r) k = inord r := filter_all fun q hq => decide_eq_true (by have := h4 q hq; omega)
        refine ⟨by rw [q2, if_neg (by omega)]; simp [a1], ?_, ?_⟩
        · show (splT l k).2.1 = theP (inord l ++ p :: inord r) k
          rw [a2, find_app_none _ _ _ fun q hq => by
            rcases List.mem_cons.mp hq with hq | hq
            · rw [hq]; exact e
            · have := h4 q hq; omega]
        · rw [q4, if_pos e2, ← a3]
          show inord (splT l k).2.2 ++ p :: inord r = _
          simp
      · rw [if_neg e2]
        have q1 : lowP (inord l) k = inord l := filter_all fun q hq => decide_eq_true (by have := h3 q hq; omega)
        have q3 : highP (inord l) k = [] := filter_none fun q hq => decide_eq_false (by have := h3 q hq; omega)
        refine ⟨?_, ?_, by rw [q3, if_neg (by omega)]; simp [b3]⟩
        · rw [q1, if_pos (by omega), ← b1]
          show inord l ++ p :: inord (splT r k).1 = _
          simp
        · show (splT r k).2.1 = theP (inord l ++ p :: inord r) k
          rw [b2, find_app _ _ _ fun q hq => by have := h3 q hq; omega]
          unfold theP
          rw [List.find?_cons, decide_eq_false e]
theorem mem_low {ps : List PR} {k : Int} {q : PR} (h : q ∈ lowP ps k) : q ∈ ps := (List.mem_filter.mp h).1
theorem mem_high {ps : List PR} {k : Int} {q : PR} (h : q ∈ highP ps k) : q ∈ ps := (List.mem_filter.mp h).1
theorem split_T : ∀ (t : Tr) (k : Int), rising (inord t) → isT t → isT (splT t k).1 ∧ isT (splT t k).2.2
  | .nil, k, _, _ => ⟨True.intro, True.intro⟩
  | .node l p r, k, h, ht => by
    obtain ⟨h1, h2, h3, h4⟩ := rising_node h
    obtain ⟨t1, t2, t3, t4⟩ := ht
    obtain ⟨a1, _, a3⟩ := split_ok l k h1
    obtain ⟨b1, _, b3⟩ := split_ok r k h2
    unfold splT
    by_cases e : p.1 = k
    · rw [if_pos e]; exact ⟨t1, t2⟩
    · rw [if_neg e]
      by_cases e2 : k < p.1
      · rw [if_pos e2]
        obtain ⟨c1, c2⟩ := split_T l k h1 t1
        exact ⟨c1, c2, t2, fun q hq => t3 q (by rw [a3] at hq; exact mem_high hq), t4⟩
      · rw [if_neg e2]
        obtain ⟨c1, c2⟩ := split_T r k h2 t2
        exact ⟨⟨t1, c1, t3, fun q hq => t4 q (by rw [b1] at hq; exact mem_low hq)⟩, c2⟩
theorem glu_ok : ∀ (n : Nat) (a b : Tr), size a + size b ≤ n → inord (gluN n a b) = inord a ++ inord b
  | 0, a, b, h => by
    cases a with
    | nil => rfl
    | node l p r => simp [size] at h
  | n + 1, .nil, b, h => by simp [gluN, inord]
  | n + 1, .node l p r, .nil, h => by simp [gluN, inord]
  | n + 1, .node l p r, .node l' q r', h => by
    simp only [size] at h
    rw [gluN_node]
    by_cases e : abv p.1 q.1 = true
    · rw [if_pos e]
      show inord l ++ p :: inord (gluN n r (.node l' q r')) = _
      rw [glu_ok n _ _ (by simp only [size]; omega)]
      simp [inord]
    · rw [if_neg e]
      show inord (gluN n (.node l p r) l') ++ q :: inord r' = _
      rw [glu_ok n _ _ (by simp only [size]; omega)]
      simp [inord]
theorem glu_T : ∀ (n : Nat) (a b : Tr), size a + size b ≤ n → (∀ x ∈ inord a, keyIn x.1) → (∀ x ∈ inord b, keyIn x.1) → (∀ x ∈ inord a, ∀ y ∈ inord b, x.1 < y.1) → isT a → isT b → isT (gluN n a b)
  | 0, a, b, h, _, _, _, ha, hb => by
    cases a with
    | nil => exact hb
    | node l p r => simp [size] at h
  | n + 1, .nil, b, h, _, _, _, ha, hb => by simpa [gluN] using hb
  | n + 1, .node l p r, .nil, h, _, _, _, ha, hb => by simpa [gluN] using ha
  | n + 1, .node l p r, .node l' q r', h, ka, kb, hlt, ha, hb => by
    simp only [size] at h
    have pm : p ∈ inord (.node l p r) := List.mem_append_right _ List.mem_cons_self
    have qm : q ∈ inord (.node l' q r') := List.mem_append_right _ List.mem_cons_self
    have hpq := hlt p pm q qm
    obtain ⟨a1, a2, a3, a4⟩ := ha
    obtain ⟨b1, b2, b3, b4⟩ := hb
    rw [gluN_node]
    by_cases e : abv p.1 q.1 = true
    · rw [if_pos e]
      have hk := (abv_iff (ka p pm) (kb q qm)).mp e
      have hs : size r + size (Tr.node l' q r') ≤ n := by simp only [size]; omega
      have rm : ∀ x ∈ inord r, x ∈ inord (.node l p r) := fun x hx => List.mem_append_right _ (List.mem_cons_of_mem _ hx)
      refine ⟨a1, glu_T n _ _ hs (fun x hx => ka x (rm x hx)) kb (fun x hx => hlt x (rm x hx)) a2 ⟨b1, b2, b3, b4⟩, a3, ?_⟩
      rw [glu_ok n _ _ hs]
      intro x hx
      rcases List.mem_append.mp hx with hx | hx
      · exact a4 x hx
      · rcases List.mem_append.mp hx with hx | hx
        · have := b3 x hx; omega
        · rcases List.mem_cons.mp hx with hx | hx
          · rw [hx]; exact hk
          · have := b4 x hx; omega
    · rw [if_neg e]
      have hk : prK p.1 < prK q.1 := by
        have n1 : ¬ prK q.1 < prK p.1 := fun z => e ((abv_iff (ka p pm) (kb q qm)).mpr z)
        have n2 : prK p.1 ≠ prK q.1 := fun z => by have := prK_inj (ka p pm) (kb q qm) z; omega
        omega
      have hs : size (Tr.node l p r) + size l' ≤ n := by simp only [size]; omega
      have lm : ∀ x ∈ inord l', x ∈ inord (.node l' q r') := fun x hx => List.mem_append_left _ hx
      refine ⟨glu_T n _ _ hs ka (fun x hx => kb x (lm x hx)) (fun x hx y hy => hlt x hx y (lm y hy)) ⟨a1, a2, a3, a4⟩ b1, b2, ?_, b4⟩
      rw [glu_ok n _ _ hs]
      intro x hx
      rcases List.mem_append.mp hx with hx | hx
      · rcases List.mem_append.mp hx with hx | hx
        · have := a3 x hx; omega
        · rcases List.mem_cons.mp hx with hx | hx
          · rw [hx]; exact hk
          · have := a4 x hx; omega
      · exact b3 x hx
theorem gluN_fuel : ∀ (n m : Nat) (a b : Tr), size a + size b ≤ n → size a + size b ≤ m → gluN n a b = gluN m a b
  | n, m, .nil, b, _, _ => by cases n <;> cases m <;> simp [gluN]
  | 0, m, .node l p r, b, h, _ => by simp [size] at h
  | n + 1, 0, .node l p r, b, _, h => by simp [size] at h
  | n + 1, m + 1, .node l p r, .nil, _, _ => by simp [gluN]
  | n + 1, m + 1, .node l p r, .node l' q r', h1, h2 => by
    simp only [size] at h1 h2
    rw [gluN_node, gluN_node, gluN_fuel n m r (.node l' q r') (by simp only [size]; omega) (by simp only [size]; omega), gluN_fuel n m (.node l p r) l' (by simp only [size]; omega) (by simp only [size]; omega)]
/-- put by content -/
def putP (ps : List PR) (p : PR) : List PR := lowP ps p.1 ++ p :: highP ps p.1
theorem with_ok : ∀ (t : Tr) (p : PR), rising (inord t) → (∀ x ∈ inord t, keyIn x.1) → keyIn p.1 → isT t → inord (wthT t p) = putP (inord t) p ∧ isT (wthT t p)
  | .nil, p, _, _, _, _ => ⟨rfl, True.intro, True.intro, fun q hq => (by cases hq), fun q hq => (by cases hq)⟩
  | .node l q r, p, h, hk, kp, ht => by
    have h0 := h
    have ht0 := ht
    obtain ⟨h1, h2, h3, h4⟩ := rising_node h
    obtain ⟨t1, t2, t3, t4⟩ := ht
    have qm : q ∈ inord (.node l q r) := List.mem_append_right _ List.mem_cons_self
    have kq := hk q qm
    unfold wthT putP
    by_cases e : q.1 = p.1
    · rw [if_pos e, low_node, high_node]
      have q1 : lowP (inord l) p.1 = inord l := filter_all fun x hx => decide_eq_true (by have := h3 x hx; omega)
      have q2 : lowP (inord r) p.1 = [] := filter_none fun x hx => decide_eq_false (by have := h4 x hx; omega)
      have q3 : highP (inord l) p.1 = [] := filter_none fun x hx => decide_eq_false (by have := h3 x hx; omega)
      have q4 : highP (inord r) p.1 = inord r := filter_all fun x hx => decide_eq_true (by have := h4 x hx; omega)
      rw [q1, q2, q3, q4, if_neg (by omega), if_neg (by omega)]
      refine ⟨by simp [inord], t1, t2, ?_, ?_⟩
      · rw [← e]; exact t3
      · rw [← e]; exact t4
    · rw [if_neg e]
      by_cases e2 : abv p.1 q.1 = true
      · rw [if_pos e2]
        obtain ⟨s1, _, s3⟩ := split_ok (.node l q r) p.1 h0
        obtain ⟨c1, c2⟩ := split_T (.node l q r) p.1 h0 ht0
        have hpk := (abv_iff kp kq).mp e2
        have all : ∀ x ∈ inord (.node l q r), prK x.1 < prK p.1 := fun x hx => by
          rcases List.mem_append.mp hx with hx | hx
          · have := t3 x hx; omega
          · rcases List.mem_cons.mp hx with hx | hx
            · rw [hx]; exact hpk
            · have := t4 x hx; omega
        refine ⟨?_, c1, c2, fun x hx => all x (by rw [s1] at hx; exact mem_low hx), fun x hx => all x (by rw [s3] at hx; exact mem_high hx)⟩
        show inord (splT (.node l q r) p.1).1 ++ p :: inord (splT (.node l q r) p.1).2.2 = _
        rw [s1, s3]
      · rw [if_neg e2]
        have hpk : prK p.1 < prK q.1 := by
          have n1 : ¬ prK q.1 < prK p.1 := fun z => e2 ((abv_iff kp kq).mpr z)
          have n2 : prK p.1 ≠ prK q.1 := fun z => by have := prK_inj kp kq z; omega
          omega
        have memP : ∀ (ps : List PR) (x : PR), x ∈ putP ps p → x = p ∨ x ∈ ps := fun ps x hx => by
          rcases List.mem_append.mp hx with hx | hx
          · exact .inr (mem_low hx)
          · rcases List.mem_cons.mp hx with hx | hx
            · exact .inl hx
            · exact .inr (mem_high hx)
        by_cases e3 : p.1 < q.1
        · rw [if_pos e3, low_node, high_node]
          obtain ⟨i1, i2⟩ := with_ok l p h1 (fun x hx => hk x (List.mem_append_left _ hx)) kp t1
          have q2 : lowP (inord r) p.1 = [] := filter_none fun x hx => decide_eq_false (by have := h4 x hx; omega)
          have q4 : highP (inord r) p.1 = inord r := filter_all fun x hx => decide_eq_true (by have := h4 x hx; omega)
          rw [q2, q4, if_neg (by omega), if_pos e3]
          refine ⟨?_, i2, t2, fun x hx => ?_, t4⟩
          · show inord (wthT l p) ++ q :: inord r = _
            rw [i1]; simp [putP]
          · rw [i1] at hx
            rcases memP _ x hx with hx | hx
            · rw [hx]; exact hpk
            · exact t3 x hx
        · rw [if_neg e3, low_node, high_node]
          obtain ⟨i1, i2⟩ := with_ok r p h2 (fun x hx => hk x (List.mem_append_right _ (List.mem_cons_of_mem _ hx))) kp t2
          have q1 : lowP (inord l) p.1 = inord l := filter_all fun x hx => decide_eq_true (by have := h3 x hx; omega)
          have q3 : highP (inord l) p.1 = [] := filter_none fun x hx => decide_eq_false (by have := h3 x hx; omega)
          rw [q1, q3, if_pos (by omega), if_neg (by omega)]
          refine ⟨?_, t1, i2, t3, fun x hx => ?_⟩
          · show inord l ++ q :: inord (wthT r p) = _
            rw [i1]; simp [putP]
          · rw [i1] at hx
            rcases memP _ x hx with hx | hx
            · rw [hx]; exact hpk
            · exact t4 x hx
theorem without_ok : ∀ (t : Tr) (k : Int), rising (inord t) → (∀ x ∈ inord t, keyIn x.1) → isT t → inord (wouT t k) = neP (inord t) k ∧ isT (wouT t k)
  | .nil, k, _, _, _ => ⟨rfl, True.intro⟩
  | .node l q r, k, h, hk, ht => by
    obtain ⟨h1, h2, h3, h4⟩ := rising_node h
    obtain ⟨t1, t2, t3, t4⟩ := ht
    have lm : ∀ x ∈ inord l, x ∈ inord (.node l q r) := fun x hx => List.mem_append_left _ hx
    have rm : ∀ x ∈ inord r, x ∈ inord (.node l q r) := fun x hx => List.mem_append_right _ (List.mem_cons_of_mem _ hx)
    rw [ne_node]
    unfold wouT
    by_cases e : q.1 = k
    · rw [if_pos e]
      have q1 : neP (inord l) k = inord l := filter_all fun x hx => decide_eq_true (by have := h3 x hx; omega)
      have q2 : neP (inord r) k = inord r := filter_all fun x hx => decide_eq_true (by have := h4 x hx; omega)
      rw [q1, q2, if_neg (by omega)]
      exact ⟨by rw [glu_ok _ _ _ (Nat.le_refl _)]; simp, glu_T _ _ _ (Nat.le_refl _) (fun x hx => hk x (lm x hx)) (fun x hx => hk x (rm x hx)) (fun x hx y hy => by have := h3 x hx; have := h4 y hy; omega) t1 t2⟩
    · rw [if_neg e, if_pos e]
      have nm : ∀ (ps : List PR) (x : PR), x ∈ neP ps k → x ∈ ps := fun ps x hx => (List.mem_filter.mp hx).1
      by_cases e2 : k < q.1
      · rw [if_pos e2]
        obtain ⟨i1, i2⟩ := without_ok l k h1 (fun x hx => hk x (lm x hx)) t1
        have q2 : neP (inord r) k = inord r := filter_all fun x hx => decide_eq_true (by have := h4 x hx; omega)
        refine ⟨?_, i2, t2, fun x hx => t3 x (by rw [i1] at hx; exact nm _ x hx), t4⟩
        show inord (wouT l k) ++ q :: inord r = _
        rw [i1, q2]; simp
      · rw [if_neg e2]
        obtain ⟨i1, i2⟩ := without_ok r k h2 (fun x hx => hk x (rm x hx)) t2
        have q1 : neP (inord l) k = inord l := filter_all fun x hx => decide_eq_true (by have := h3 x hx; omega)
        refine ⟨?_, t1, i2, t3, fun x hx => t4 x (by rw [i1] at hx; exact nm _ x hx)⟩
        show inord l ++ q :: inord (wouT r k) = _
        rw [i1, q1]; simp
end K56
namespace K56
open PySem PySem.Spec PyProof.Rows L2 Dp
/-! ### the pot -/
theorem draw_body (k : Nat) (m t : Int) (hm : 0 < m) (hm2 : m ≤ 1000000000000000000000000000000) (ht : t ≤ 1000000) {xs : List D} (hd : DeckOk t xs) :
    wp (runB 2 4 (B__law_draw (call k)) [.ref 0, .int m] [.lst xs]) (fun d μ' => ∃ v xs', d = .int v ∧ μ' = [.lst xs'] ∧ 0 ≤ v ∧ v < m ∧ DeckOk (t + 1) xs') NoX := by
  obtain ⟨a, b, c, rfl, h1, h2, h3, h4⟩ := hd
  refine wp_runB rfl ?_
  simp [B__law_draw]
  by_cases ha : 0 < a
  · simp [ha]
    simp (disch := omega) [o_mod, o_fdiv]
    exact ⟨Int.emod_nonneg _ (by omega), Int.emod_lt_of_pos _ hm, _, _, _, rfl, h1, h2, h3, by omega⟩
  · simp [ha]
    simp (disch := omega) only [o_mul, wp_ok, Dp.add_int]
    simp (disch := omega) only [o_pow, wp_ok, item_r02, o_mul, Dp.add_int, fint_int]
    simp
    simp (disch := omega) only [o_mod, wp_ok]
    generalize hd : ((b + 32452843 * (c + 1)) ^ 3 + (c + 1)) % 1000000000000000000000000000057 = d
    have d1 : 0 ≤ d := by rw [← hd]; exact Int.emod_nonneg _ (by decide)
    have d2 : d < 1000000000000000000000000000057 := by rw [← hd]; exact Int.emod_lt_of_pos _ (by decide)
    simp (disch := omega) only [o_mul, wp_ok]
    simp

    simp (disch := omega) only [o_mul, wp_ok, Dp.add_int, fint_int, o_mod]
    simp (disch := omega) only [o_mod, o_fdiv, wp_ok, fint_int]
    exact ⟨_, rfl, _, rfl, Int.emod_nonneg _ (by omega), Int.emod_lt_of_pos _ hm, _, _, _, rfl, h1, h2, by omega, by omega⟩
theorem draw_wp (k : Nat) (m t : Int) (hm : 0 < m) (hm2 : m ≤ 1000000000000000000000000000000) (ht : t ≤ 1000000) {i : Nat} {xs : List D} {μ : Mem} (hi : μ[i]? = some (.lst xs)) (hd : DeckOk t xs) {Q : D → Mem → Prop} {X : Exn → Mem → Prop}
    (q : ∀ v xs', 0 ≤ v → v < m → DeckOk (t + 1) xs' → Q (.int v) (μ.set i (.lst xs'))) : wp (call (k + 1) ._law_draw [.ref i, .int m] μ) Q X := by
  refine wp_proto1 hi hd.flat (by simp) (wp_mono (draw_body k m t hm hm2 ht hd) (fun d μ' h => ?_) fun _ _ h => h.elim)
  obtain ⟨v, xs', rfl, rfl, h1, h2, h3⟩ := h
  refine ⟨_, _, rfl, h3.flat, ?_⟩
  rw [outD_nr rfl]
  exact q v xs' h1 h2 h3
theorem draw0 (k : Nat) (m t : Int) (hm : 0 < m) (hm2 : m ≤ 1000000000000000000000000000000) (ht : t ≤ 1000000) {xs : List D} {μ : Mem} (hd : DeckOk t xs) {Q : D → Mem → Prop} {X : Exn → Mem → Prop}
    (q : ∀ v xs', 0 ≤ v → v < m → DeckOk (t + 1) xs' → Q (.int v) (.lst xs' :: μ)) : wp (call (k + 1) ._law_draw [.ref 0, .int m] (.lst xs :: μ)) Q X :=
  draw_wp k m t hm hm2 ht (i := 0) rfl hd q
theorem key_body (k : Nat) (t : Int) (ht : t ≤ 900000) (xs : List D) (hd : DeckOk t xs) : swp (B__law_key (call (k + 1)) [some (.ref 0), none] [.lst xs]) fun f μ' => match f with
    | .ret d => (∃ i : Int, d = .int i ∧ 0 ≤ i ∧ i ≤ 999999999999) ∧ ∃ xs' r, μ' = .lst xs' :: r ∧ DeckOk (t + 6) xs'
    | _ => False := by
  simp [B__law_key]
  refine draw0 k 5 t (by decide) (by decide) (by omega) hd fun v1 x1 a1 b1 d1 => ?_
  by_cases h3 : v1 < 3
  · have hm : ∃ m : Int, (∀ μ, Op.item (.lst [.int 4, .int 9, .int 24]) (.int v1) μ = .ok (.int m) μ) ∧ 0 < m ∧ m ≤ 24 := by
      have hc : v1 = 0 ∨ v1 = 1 ∨ v1 = 2 := by omega
      rcases hc with rfl | rfl | rfl
      · exact ⟨4, fun μ => item_l20, by decide, by decide⟩
      · exact ⟨9, fun μ => item_l21, by decide, by decide⟩
      · exact ⟨24, fun μ => item_l22, by decide, by decide⟩
    obtain ⟨m, hm, m1, m2⟩ := hm
    simp [h3, hm]
    refine draw0 k m (t + 1) m1 (by omega) (by omega) d1 fun v2 x2 a2 b2 d2 => ?_
    exact ⟨⟨v2, rfl, a2, by omega⟩, x2, ⟨[], rfl⟩, d2.le (by omega)⟩
  · by_cases h4 : v1 = 3
    · subst h4
      simp
      refine draw0 k 5 (t + 1) (by decide) (by decide) (by omega) d1 fun v2 x2 a2 b2 d2 => ?_
      refine draw0 k 4 (t + 1 + 1) (by decide) (by decide) (by omega) d2 fun v3 x3 a3 b3 d3 => ?_
      simp (disch := omega) only [o_mul, wp_ok, Dp.add_int]
      exact ⟨⟨_, rfl, by omega, by omega⟩, x3, ⟨[], rfl⟩, d3.le (by omega)⟩
    · simp [h3, h4]
      simp (disch := omega) only [o_pow, wp_ok, Dp.sub_int]
      refine draw0 k _ (t + 1) (by decide) (by decide) (by omega) d1 fun v2 x2 a2 b2 d2 => ?_
      refine draw0 k 2 (t + 1 + 1) (by decide) (by decide) (by omega) d2 fun v3 x3 a3 b3 d3 => ?_
      have b2' : v2 < 1000000000000 := b2
      have d3' : DeckOk (t + 6) x3 := d3.le (by omega)
      have hc : v3 = 0 ∨ v3 = 1 := by omega
      rcases hc with rfl | rfl <;> simp [d3'] <;> omega
theorem key_wp (k : Nat) (t : Int) (ht : t ≤ 900000) {i : Nat} {xs : List D} {μ : Mem} (hi : μ[i]? = some (.lst xs)) (hd : DeckOk t xs) {Q : D → Mem → Prop} {X : Exn → Mem → Prop}
    (q : ∀ v xs', 0 ≤ v → v ≤ 999999999999 → DeckOk (t + 6) xs' → Q (.int v) (μ.set i (.lst xs'))) : wp (call (k + 2) ._law_key [.ref i] μ) Q X :=
  deck_def (R := fun d => ∃ i : Int, d = .int i ∧ 0 ≤ i ∧ i ≤ 999999999999) rfl rfl (fun d ⟨i, e, _⟩ => by rw [e]; rfl) (key_body k t ht) hi hd fun d xs' ⟨j, e, h1, h2⟩ hd => by subst e; exact q j xs' h1 h2 hd
theorem join_ok : ∀ (ps : List (List Nat)), (∀ p ∈ ps, p.length ≤ 1 ∧ p.all chrOk = true) → (TL.joinL [] ps).length ≤ ps.length ∧ (TL.joinL [] ps).all chrOk = true
  | [], _ => ⟨Nat.le_refl _, rfl⟩
  | [p], h => ⟨(h p (by simp)).1, (h p (by simp)).2⟩
  | p :: q :: r, h => by
    obtain ⟨a, b⟩ := join_ok (q :: r) fun x hx => h x (List.mem_cons_of_mem _ hx)
    obtain ⟨c, d⟩ := h p List.mem_cons_self
    show (p ++ ([] ++ TL.joinL [] (q :: r))).length ≤ _ ∧ (p ++ ([] ++ TL.joinL [] (q :: r))).all chrOk = true
    rw [List.nil_append, List.length_append, List.all_append, b, d]
    exact ⟨by rw [List.length_cons]; omega, rfl⟩
def oneS (d : D) : Prop := ∃ x : Str, d = .str x ∧ x.length ≤ 1 ∧ x.cps.toList.all chrOk = true
theorem strs_ones : ∀ {ds : List D}, (∀ d ∈ ds, oneS d) → ∃ ss, strsD ds = some ss ∧ ss.length = ds.length ∧ (∀ x ∈ ss, x.length ≤ 1 ∧ x.cps.toList.all chrOk = true) ∧ (ss.map (·.length)).sum ≤ ds.length
  | [], _ => ⟨[], rfl, rfl, fun x hx => (by cases hx), Nat.le_refl _⟩
  | d :: ds, h => by
    obtain ⟨ss, e1, e2, e3, e4⟩ := strs_ones fun x hx => h x (List.mem_cons_of_mem _ hx)
    obtain ⟨x, rfl, h1, h2⟩ := h d List.mem_cons_self
    refine ⟨x :: ss, by unfold strsD; rw [e1]; rfl, by simp [e2], fun y hy => ?_, ?_⟩
    · rcases List.mem_cons.mp hy with z | z
      · rw [z]; exact ⟨h1, h2⟩
      · exact e3 y z
    · rw [List.map_cons, List.sum_cons, List.length_cons]; omega
theorem join_val {ds : List D} (h : ∀ d ∈ ds, oneS d) (hl : ds.length ≤ 100) (μ : Mem) : ∃ x, Mt.join (.str "") [.lst ds] μ = .ok (.str x) μ ∧ valOk (.str x) = true := by
  obtain ⟨ss, e1, e2, e3, e4⟩ := strs_ones h
  have e0 : (Str.ofString "").length = 0 := by decide +kernel
  refine ⟨Txt.join "" ss, ?_, ?_⟩
  · unfold Mt.join
    simp only [e1]
    rw [if_pos (by rw [e0]; omega)]
  · obtain ⟨a, b⟩ := join_ok (ss.map TL.tl) fun p hp => by
      obtain ⟨x, hx, rfl⟩ := List.mem_map.mp hp
      obtain ⟨h1, h2⟩ := e3 x hx
      exact ⟨by show x.cps.toList.length ≤ 1; rw [Array.length_toList]; exact h1, h2⟩
    have et : TL.tl (Txt.join "" ss) = TL.joinL [] (ss.map TL.tl) := by
      rw [TL.join_eq, TL.tl_join]; rfl
    rw [← et] at a b
    rw [List.length_map] at a
    have hl2 : (Txt.join (Str.ofString "") ss).length ≤ 100 := by
      have : (TL.tl (Txt.join "" ss)).length = (Txt.join "" ss).length := by show (Txt.join "" ss).cps.toList.length = _; rw [Array.length_toList]; rfl
      omega
    show (decide ((Txt.join "" ss).length ≤ 100) && (Txt.join "" ss).cps.toList.all chrOk) = true
    rw [decide_eq_true hl2, Bool.true_and]
    exact b
theorem sign_one {s : String} (h : (Str.ofString s).length ≤ 1 := by decide +kernel) (h2 : (Str.ofString s).cps.toList.all chrOk = true := by decide +kernel) : oneS (.str s) := ⟨_, rfl, h, h2⟩
end K56
namespace K56
open PySem PySem.Spec PyProof.Rows L2 Dp
theorem value_body (k : Nat) (t : Int) (ht : t ≤ 900000) (xs : List D) (hd : DeckOk t xs) : swp (B__law_value (call (k + 1)) [some (.ref 0), none, none] [.lst xs]) fun f μ' => match f with
    | .ret d => valOk d = true ∧ ∃ xs' r, μ' = .lst xs' :: r ∧ DeckOk (t + 10) xs'
    | _ => False := by
  simp [B__law_value]
  refine draw0 k 6 t (by decide) (by decide) (by omega) hd fun v1 x1 a1 b1 d1 => ?_
  by_cases h3 : v1 < 3
  · simp [h3]
    refine draw0 k 6 (t + 1) (by decide) (by decide) (by omega) d1 fun v2 x2 a2 b2 d2 => ?_
    have d2' : DeckOk (t + 10) x2 := d2.le (by omega)
    have fin : ∀ d : D, valOk d = true → valOk d = true ∧ ∃ xs', (∃ x, [MO.lst x2] = MO.lst xs' :: x) ∧ DeckOk (t + 10) xs' := fun d h => ⟨h, x2, ⟨[], rfl⟩, d2'⟩
    have hc : v2 = 0 ∨ v2 = 1 ∨ v2 = 2 ∨ v2 = 3 ∨ v2 = 4 ∨ v2 = 5 := by omega
    rcases hc with rfl | rfl | rfl | rfl | rfl | rfl
    · rw [item_l20]; exact fin _ (by decide +kernel)
    · rw [item_l21]; exact fin _ (by decide +kernel)
    · rw [item_l22]; exact fin _ (by decide +kernel)
    · rw [item_l23]; exact fin _ (by decide +kernel)
    · rw [item_l24]; exact fin _ (by decide +kernel)
    · rw [item_l25]; exact fin _ (by decide +kernel)
  · by_cases h4 : v1 = 3
    · subst h4
      simp
      simp (disch := omega) only [o_pow, wp_ok, Dp.sub_int, Dp.neg_int, Dp.add_int]
      refine draw0 k _ (t + 1) (by decide) (by decide) (by omega) d1 fun v2 x2 a2 b2 d2 => ?_
      refine draw0 k 3 (t + 1 + 1) (by decide) (by decide) (by omega) d2 fun v3 x3 a3 b3 d3 => ?_
      have d3' : DeckOk (t + 10) x3 := d3.le (by omega)
      have b2' : v2 < 100000000000000000000 := b2
      have hc : v3 = 0 ∨ v3 = 1 ∨ v3 = 2 := by omega
      rcases hc with rfl | rfl | rfl <;> simp [d3', valOk] <;> omega
    · by_cases h5 : v1 = 4
      · subst h5
        have rok : ∀ μ, RTy.str.ok (.str "") μ = true := fun μ => rfl
        simp [rok]
        refine draw0 k 6 (t + 1) (by decide) (by decide) (by omega) d1 fun v2 x2 a2 b2 d2 => ?_
        obtain ⟨n, rfl⟩ : ∃ n : Nat, v2 = n := ⟨v2.toNat, by omega⟩
        rw [r1_nat (by omega)]
        simp
        refine ⟨by omega, ?_⟩
        refine wp_lcJ (fun ds acc μ => acc.length + ds.length = n ∧ (∀ x ∈ acc, oneS x) ∧ ∃ xs, μ = [.lst xs] ∧ DeckOk (t + 2 + acc.length) xs) (fun d ds acc μ hj => ?_) _ [] _ ⟨by simp, (fun x hx => (by cases hx)), x2, rfl, d2.le (by simp; omega)⟩ (fun ys μ' hj => ?_)
        · obtain ⟨j1, j2, xs, rfl, j3⟩ := hj
          simp only [List.length_cons] at j1
          simp
          refine draw0 k 7 _ (by decide) (by decide) (by omega) j3 fun w x3 a3 b3 d3 => ?_
          have hc : w = 0 ∨ w = 1 ∨ w = 2 ∨ w = 3 ∨ w = 4 ∨ w = 5 ∨ w = 6 := by omega
          have fin : ∀ d : D, oneS d → acc.length + 1 + ds.length = n ∧ (∀ x, x ∈ acc ∨ x = d → oneS x) ∧ ∃ xs, [MO.lst x3] = [MO.lst xs] ∧ DeckOk (t + 2 + ((acc.length : Int) + 1)) xs := fun d h => ⟨by omega, fun x hx => hx.elim (j2 x) (fun z => by rw [z]; exact h), x3, rfl, d3.le (by omega)⟩
          rcases hc with rfl | rfl | rfl | rfl | rfl | rfl | rfl
          · rw [item_l20]; exact fin _ (sign_one (s := "~"))
          · rw [item_l21]; exact fin _ (sign_one (s := " "))
          · rw [item_l22]; exact fin _ (sign_one (s := "i"))
          · rw [item_l23]; exact fin _ (sign_one (s := "0"))
          · rw [item_l24]; exact fin _ (sign_one (s := "\""))
          · rw [item_l25]; exact fin _ (sign_one (s := "t"))
          · rw [item_lst (by decide)]; exact fin _ (sign_one (s := ":"))
        · obtain ⟨j1, j2, xs, rfl, j3⟩ := hj
          simp only [List.nil_append, List.length_nil] at j1 j2 j3
          obtain ⟨x, e, hv⟩ := join_val j2 (by omega) [.lst xs]
          simp [e]
          exact ⟨hv, j3.le (by omega)⟩
      · simp [h3, h4, h5]
        refine draw0 k 40 (t + 1) (by decide) (by decide) (by omega) d1 fun v2 x2 a2 b2 d2 => ?_
        have hv : valOk (.int (v2 - 20)) = true := by simp [valOk]; omega
        exact ⟨hv, x2, ⟨[], rfl⟩, d2.le (by omega)⟩
theorem value_wp (k : Nat) (t : Int) (ht : t ≤ 900000) {i : Nat} {xs : List D} {μ : Mem} (hi : μ[i]? = some (.lst xs)) (hd : DeckOk t xs) {Q : D → Mem → Prop} {X : Exn → Mem → Prop}
    (q : ∀ d xs', valOk d = true → DeckOk (t + 10) xs' → Q d (μ.set i (.lst xs'))) : wp (call (k + 2) ._law_value [.ref i] μ) Q X :=
  deck_def (R := fun d => valOk d = true) rfl rfl (fun d h => pl_nr _ (valOk_pl h)) (value_body k t ht) hi hd q
end K56
namespace K56
open PySem PySem.Spec PyProof.Rows L2 Dp
theorem sortedU_at {j : Nat} {ns : List Int} {vs : List D} {μ : Mem} (hm : μ[j]? = some (.dct (ns.map Sum.inl) vs)) (hl : ns.length ≤ 60) : F.sortedU [.ref j] μ = .ok (.lst ((srt ns).map .int)) μ := by
  have hsee : seeD μ (.ref j) = some (ns.map Sum.inl, vs) := by
    unfold seeD
    simp only [hm]
  unfold F.sortedU
  simp only [hsee, intKeys_of]
  rw [if_pos (by omega)]; rfl
theorem item_dref {n : Nat} {ks : List Key} {xs : List D} {i : Int} {d : D} {μ : Mem} (hm : μ[n]? = some (.dct ks xs)) (e : dGet ks xs (.inl i) = some d) : Op.item (.ref n) (.int i) μ = .ok d μ := by
  have hsee : seeD μ (.ref n) = some (ks, xs) := by unfold seeD; simp only [hm]
  show Op.itemG _ _ _ = _
  unfold Op.itemG seeQ
  simp only [hm, hsee]
  show ok? (dGet ks xs (.inl i)) _ = _
  rw [e]; rfl
theorem prs_body (k : Nat) (most t : Int) (hm : 0 ≤ most) (hm2 : most ≤ 14) (ht : t ≤ 800000) (xs : List D) (hd : DeckOk t xs) : swp (B__law_pairs (call (k + 2)) [some (.ref 0), some (.int most), none, none, none] [.lst xs]) fun f μ' => match f with
    | .ret d => (∃ ps, d = prsD ps ∧ PsOk ps ∧ (ps.length : Int) ≤ most) ∧ ∃ xs' r, μ' = .lst xs' :: r ∧ DeckOk (t + 300) xs'
    | _ => False := by
  simp [B__law_pairs]
  refine draw0 (k + 1) _ t (by omega) (by omega) (by omega) hd fun v x1 a1 b1 d1 => ?_
  obtain ⟨n, rfl⟩ : ∃ n : Nat, v = n := ⟨v.toNat, by omega⟩
  rw [r1_nat (by omega)]
  simp only [wp_ok]
  refine swp_loop (fun ds ρ μ => ∃ xs ks vs x3, ds.length ≤ n ∧ ρ = [some (.ref 0), some (.int most), some (.ref 1), x3, none] ∧ μ = [.lst xs, .dct ks vs] ∧ DeckOk (t + 1 + 20 * (n - ds.length : Nat)) xs ∧ FoundOk (n - ds.length) ks vs) ?_ ?_ _ _ _ ?_
  · rintro ρ μ ⟨xs, ks, vs, x3, _, rfl, rfl, hx, hf⟩
    simp only [List.length_nil, Nat.sub_zero] at hx hf
    obtain ⟨ns, rfl⟩ := hf.ints
    obtain ⟨p1, p2⟩ := found_ps hf (by omega)
    have hle0 : ns.length ≤ n := by have := hf.le; simp at this; exact this
    have hs := sortedU_at (j := 1) (ns := ns) (vs := vs) (μ := [.lst xs, .dct (ns.map Sum.inl) vs]) rfl (by omega)
    simp [hs, srt_len, show ns.length ≤ 16777216 by omega]
    refine wp_lcm (fun i => prD (i, (dGet (ns.map Sum.inl) vs (.inl i)).getD .non)) (fun i hi => ?_) ?_
    · have hm' : (Sum.inl i : Key) ∈ ns.map Sum.inl := List.mem_map.mpr ⟨i, srt_mem.mp hi, rfl⟩
      obtain ⟨d, e, _⟩ := dGet_mem hf.len hm'
      have hg := item_dref (n := 1) (i := i) (d := d) (μ := [.lst xs, .dct (ns.map Sum.inl) vs]) rfl e
      simp [hg, e, prD]
    · simp
      refine ⟨⟨foundPs ns (ns.map Sum.inl) vs, ?_, p1, by omega⟩, hx.le (by omega)⟩
      unfold prsD foundPs
      rw [List.map_map]; rfl
  · rintro d ds ρ μ ⟨xs, ks, vs, x3, hl, rfl, rfl, hx, hf⟩
    simp only [List.length_cons] at hl hx hf
    simp
    refine value_wp k (t + 1 + 20 * (n - (ds.length + 1) : Nat)) (by omega) (i := 0) rfl hx fun dv x2 h2 d2 => ?_
    simp
    refine key_wp k _ (by omega) (i := 0) rfl d2 fun iv x3' g1 g2 d3 => ?_
    have hle := hf.le
    have hset := set_dct (n := 1) (i := iv) (d := dv) (μ := [.lst x3', .dct ks vs]) rfl (by omega)
    simp only [List.set_cons_zero, hset, swp_nil]
    simp
    have := hf.put g1 g2 h2
    rw [show n - (ds.length + 1) + 1 = n - ds.length by omega] at this
    exact ⟨by omega, _, _, _, ⟨rfl, rfl, rfl⟩, d3.le (by omega), this⟩
  · have hl : (List.map (fun i => D.int ((i : Nat) : Int)) (List.range n)).length = n := by simp
    refine ⟨x1, [], [], none, by omega, rfl, rfl, ?_, ?_⟩
    · rw [hl, Nat.sub_self]; exact d1.le (by omega)
    · rw [hl, Nat.sub_self]
      exact ⟨rfl, Nat.zero_le _, List.nodup_nil, fun k hk => (by cases hk), fun d hd => (by cases hd)⟩
theorem pairs_wp (k : Nat) (most t : Int) (hm : 0 ≤ most) (hm2 : most ≤ 14) (ht : t ≤ 800000) {i : Nat} {xs : List D} {μ : Mem} (hi : μ[i]? = some (.lst xs)) (hd : DeckOk t xs) {Q : D → Mem → Prop} {X : Exn → Mem → Prop}
    (q : ∀ ps xs', PsOk ps → (ps.length : Int) ≤ most → DeckOk (t + 300) xs' → Q (prsD ps) (μ.set i (.lst xs'))) : wp (call (k + 3) ._law_pairs [.ref i, .int most] μ) Q X :=
  deck_def (R := fun d => ∃ ps, d = prsD ps ∧ PsOk ps ∧ (ps.length : Int) ≤ most) rfl rfl (fun d ⟨ps, e, h, _⟩ => by rw [e]; unfold prsD; rw [nr_tup]; exact h.nr) (prs_body k most t hm hm2 ht) hi hd fun d xs' ⟨ps, e, h1, h2⟩ hd => by subst e; exact q ps xs' h1 h2 hd
/-! ### a content, changed -/
theorem dDelK_mem : ∀ {ks : List Key} {xs : List D} {k x : Key}, x ∈ dDelK ks xs k → x ∈ ks
  | [], xs, k, x, h => by unfold dDelK at h; cases h
  | k' :: ks, [], k, x, h => by unfold dDelK at h; cases h
  | k' :: ks, y :: xs, k, x, h => by
    unfold dDelK at h
    split at h
    · exact List.mem_cons_of_mem _ (dDelK_mem h)
    · rcases List.mem_cons.mp h with e | e
      · rw [e]; exact List.mem_cons_self
      · exact List.mem_cons_of_mem _ (dDelK_mem e)
theorem dDelX_mem : ∀ {ks : List Key} {xs : List D} {k : Key} {x : D}, x ∈ dDelX ks xs k → x ∈ xs
  | [], xs, k, x, h => by unfold dDelX at h; cases h
  | k' :: ks, [], k, x, h => by unfold dDelX at h; cases h
  | k' :: ks, y :: xs, k, x, h => by
    unfold dDelX at h
    split at h
    · exact List.mem_cons_of_mem _ (dDelX_mem h)
    · rcases List.mem_cons.mp h with e | e
      · rw [e]; exact List.mem_cons_self
      · exact List.mem_cons_of_mem _ (dDelX_mem e)
theorem dDelK_sub : ∀ (ks : List Key) (xs : List D) (k : Key), (dDelK ks xs k).Sublist ks
  | [], _, _ => by unfold dDelK; exact List.Sublist.slnil
  | k' :: ks, [], k => by unfold dDelK; exact List.nil_sublist _
  | k' :: ks, y :: xs, k => by
    unfold dDelK
    split
    · exact (dDelK_sub ks xs k).cons _
    · exact (dDelK_sub ks xs k).cons_cons _
theorem FoundOk.del {n : Nat} {ks : List Key} {xs : List D} (h : FoundOk n ks xs) (k : Key) : FoundOk n (dDelK ks xs k) (dDelX ks xs k) :=
  ⟨dDel_len _ _ _, Nat.le_trans (dDelK_sub ks xs k).length_le h.le, h.nd.sublist (dDelK_sub ks xs k), fun x hx => h.key x (dDelK_mem hx), fun d hd => h.val d (dDelX_mem hd)⟩
theorem FoundOk.mono {n m : Nat} {ks : List Key} {xs : List D} (h : FoundOk n ks xs) (l : n ≤ m) : FoundOk m ks xs := ⟨h.len, Nat.le_trans h.le l, h.nd, h.key, h.val⟩
theorem merge_found : ∀ (ps : List PR) (n : Nat) (ks : List Key) (xs : List D), (∀ p ∈ ps, prOk p = true) → FoundOk n ks xs → FoundOk (n + ps.length) (mergeD (ks, xs) (ps.map prD)).1 (mergeD (ks, xs) (ps.map prD)).2
  | [], n, ks, xs, _, h => h
  | p :: ps, n, ks, xs, hp, h => by
    have hk := prOk_iff.mp (hp p List.mem_cons_self)
    have h1 := h.put hk.1 hk.2.1 hk.2.2
    have a := merge_found ps (n + 1) _ _ (fun q hq => hp q (List.mem_cons_of_mem _ hq)) h1
    have e : mergeD (ks, xs) ((p :: ps).map prD) = mergeD (dPutK ks xs (.inl p.1), dPutX ks xs (.inl p.1) p.2) (ps.map prD) := rfl
    rw [e]
    exact a.mono (by rw [List.length_cons]; omega)
theorem pairsh_prs : ∀ (ps : List PR), pairsh (ps.map prD) = true
  | [] => rfl
  | p :: ps => by
    have := pairsh_prs ps
    unfold pairsh at this ⊢
    rw [List.map_cons, List.all_cons, this]; rfl
theorem ne_ints {ns : List Int} {μ : Mem} : Op.ne (.lst (ns.map D.int)) (.lst []) μ = .ok (.bl (!ns.isEmpty)) μ := by
  have hp : plAll (ns.map D.int) = true := plAll_nums ns
  rw [ne_pl (by rw [D.pl]; exact hp) rfl (by rw [show (D.lst []).py.depth = 1 from rfl]; omega)]
  congr 3
  cases ns with
  | nil => rfl
  | cons x xs => rw [D.py, D.py, List.map_cons, pyAll, pyAll, PyData.eqv, PyData.eqvAll]; rfl
theorem item_ints {ns : List Int} {i : Nat} (h : i < ns.length) {μ : Mem} : ∃ j, j ∈ ns ∧ Op.item (.lst (ns.map D.int)) (.int (i : Int)) μ = .ok (.int j) μ := by
  refine ⟨ns[i], List.getElem_mem h, ?_⟩
  rw [item_lst (by omega), Int.toNat_natCast, List.getElem?_map, List.getElem?_eq_getElem h]; rfl
theorem dpop_at {i : Nat} {ks : List Key} {xs : List D} {j : Int} {d : D} {μ : Mem} (hm : μ[i]? = some (.dct ks xs)) (e : dGet ks xs (.inl j) = some d) : Mt.dpop (.ref i) [.int j] μ = .ok d (μ.set i (.dct (dDelK ks xs (.inl j)) (dDelX ks xs (.inl j)))) := by
  unfold Mt.dpop
  simp only [hm, e]
theorem chg_body (k : Nat) (most t : Int) (hm : 0 ≤ most) (hm2 : most ≤ 5) (ht : t ≤ 800000) {ps : List PR} (hp : PsOk ps) (hl : ps.length ≤ 30) (xs : List D) (hd : DeckOk t xs) : swp (B__law_changed (call (k + 2)) [some (.ref 0), some (prsD ps), some (.int most), none, none, none, none] [.lst xs]) fun f μ' => match f with
    | .ret d => (∃ qs, d = prsD qs ∧ PsOk qs ∧ (qs.length : Int) ≤ ps.length + most) ∧ ∃ xs' r, μ' = .lst xs' :: r ∧ DeckOk (t + 300) xs'
    | _ => False := by
  have h0 : FoundOk 0 [] [] := ⟨rfl, Nat.le_refl _, List.nodup_nil, fun k hk => (by cases hk), fun d hd => (by cases hd)⟩
  have f1 := merge_found ps 0 [] [] hp.pr h0
  have md : F.mdct [prsD ps] [.lst xs] = .ok (.ref 1) [.lst xs, .dct (mergeD ([], []) (ps.map prD)).1 (mergeD ([], []) (ps.map prD)).2] := by
    unfold prsD
    show (if _ then _ else _) = _
    rw [if_pos ⟨pairsh_prs ps, by rw [List.length_map]; omega⟩]; rfl
  simp [B__law_changed, md]
  refine draw0 (k + 1) _ t (by omega) (by omega) (by omega) hd fun v x1 a1 b1 d1 => ?_
  obtain ⟨n, rfl⟩ : ∃ n : Nat, v = n := ⟨v.toNat, by omega⟩
  rw [r1_nat (by omega)]
  simp only [wp_ok]
  refine swp_loop (fun ds ρ μ => ∃ xs ks vs x4 x5, ds.length ≤ n ∧ ρ = [some (.ref 0), some (prsD ps), some (.int most), some (.ref 1), x4, x5, none] ∧ μ = [.lst xs, .dct ks vs] ∧ DeckOk (t + 1 + 30 * (n - ds.length : Nat)) xs ∧ FoundOk (ps.length + (n - ds.length)) ks vs) ?_ ?_ _ _ _ ?_
  · rintro ρ μ ⟨xs, ks, vs, x4, x5, _, rfl, rfl, hx, hf⟩
    simp only [List.length_nil, Nat.sub_zero] at hx hf
    obtain ⟨ns, rfl⟩ := hf.ints
    obtain ⟨p1, p2⟩ := found_ps hf (by omega)
    have hle0 : ns.length ≤ ps.length + n := by have := hf.le; simp at this; exact this
    have hs := sortedU_at (j := 1) (ns := ns) (vs := vs) (μ := [.lst xs, .dct (ns.map Sum.inl) vs]) rfl (by omega)
    simp [hs, srt_len, show ns.length ≤ 16777216 by omega]
    refine wp_lcm (fun i => prD (i, (dGet (ns.map Sum.inl) vs (.inl i)).getD .non)) (fun i hi => ?_) ?_
    · have hm' : (Sum.inl i : Key) ∈ ns.map Sum.inl := List.mem_map.mpr ⟨i, srt_mem.mp hi, rfl⟩
      obtain ⟨d, e, _⟩ := dGet_mem hf.len hm'
      have hg := item_dref (n := 1) (i := i) (d := d) (μ := [.lst xs, .dct (ns.map Sum.inl) vs]) rfl e
      simp [hg, e, prD]
    · simp
      refine ⟨⟨foundPs ns (ns.map Sum.inl) vs, ?_, p1, by omega⟩, hx.le (by omega)⟩
      unfold prsD foundPs
      rw [List.map_map]; rfl
  · rintro d ds ρ μ ⟨xs, ks, vs, x4, x5, hl', rfl, rfl, hx, hf⟩
    simp only [List.length_cons] at hl' hx hf
    obtain ⟨ns, rfl⟩ := hf.ints
    have hle0 : ns.length ≤ ps.length + (n - (ds.length + 1)) := by have := hf.le; simp at this; exact this
    have hs := sortedU_at (j := 1) (ns := ns) (vs := vs) (μ := [.lst xs, .dct (ns.map Sum.inl) vs]) rfl (by omega)
    have hput : ∀ {i : Int} {d : D}, 0 ≤ i → i ≤ 999999999999 → valOk d = true → FoundOk (ps.length + (n - ds.length)) (dPutK (ns.map Sum.inl) vs (.inl i)) (dPutX (ns.map Sum.inl) vs (.inl i) d) := fun h1 h2 h3 => (hf.put h1 h2 h3).mono (by omega)
    have hset := fun (xs : List D) (i : Int) (d : D) => set_dct (n := 1) (i := i) (d := d) (μ := [.lst xs, .dct (ns.map Sum.inl) vs]) rfl (by rw [List.length_map]; omega)
    have elem : ∀ j, j ∈ srt ns → ∃ d, dGet (ns.map Sum.inl) vs (.inl j) = some d ∧ 0 ≤ j ∧ j ≤ 999999999999 := fun j hj => by
      have hm' : (Sum.inl j : Key) ∈ ns.map Sum.inl := List.mem_map.mpr ⟨j, srt_mem.mp hj, rfl⟩
      obtain ⟨d, e, _⟩ := dGet_mem hf.len hm'
      obtain ⟨i, e2, h1, h2⟩ := hf.key _ hm'
      cases e2
      exact ⟨d, e, h1, h2⟩
    simp [hs, ne_ints]
    have ok1 : ∀ xs, RTy.dict.ok (.ref 1) [MO.lst xs, MO.dct (ns.map Sum.inl) vs] = true := fun xs => rfl
    have sl := srt_len ns
    cases he : (srt ns).isEmpty with
    | true =>
      simp [ne_ints, he]
      refine value_wp k _ (by omega) (i := 0) rfl hx fun dv x2 h2 d2 => ?_
      simp
      refine key_wp k _ (by omega) (i := 0) rfl d2 fun iv x3 g1 g2 d3 => ?_
      simp only [List.set_cons_zero, hset, swp_nil]
      simp
      exact ⟨by omega, _, _, _, ⟨rfl, rfl, rfl⟩, d3.le (by omega), hput g1 g2 h2⟩
    | false =>
      have hpos : 0 < ns.length := by
        rw [← sl]
        cases h : srt ns with
        | nil => rw [h] at he; cases he
        | cons a b => simp
      simp
      refine draw0 (k + 1) 3 _ (by decide) (by decide) (by omega) hx fun w1 y1 c1 e1 d1' => ?_
      by_cases hw1 : w1 = 0
      · subst hw1
        simp
        refine ⟨ok1 _, draw0 (k + 1) ((srt ns).length : Int) _ (by omega) (by omega) (by omega) d1' fun w2 y2 c2 e2 d2' => ?_⟩
        obtain ⟨m, rfl⟩ : ∃ m : Nat, w2 = m := ⟨w2.toNat, by omega⟩
        obtain ⟨j, hj, ej⟩ := item_ints (ns := srt ns) (i := m) (by omega) (μ := .lst y2 :: [.dct (ns.map Sum.inl) vs])
        obtain ⟨dj, ed, _, _⟩ := elem j hj
        have dp := dpop_at (i := 1) (j := j) (d := dj) (μ := .lst y2 :: [.dct (ns.map Sum.inl) vs]) rfl ed
        rw [ej]
        simp only [wp_ok]
        rw [dp]
        exact ⟨by omega, _, _, _, rfl, d2'.le (by omega), (hf.del _).mono (by omega)⟩
      · simp [hw1, ne_ints, he]
        refine draw0 (k + 1) 2 _ (by decide) (by decide) (by omega) d1' fun w3 y3 c3 e3 d3' => ?_
        by_cases hw3 : w3 = 0
        · subst hw3
          simp
          refine value_wp k _ (by omega) (i := 0) rfl d3' fun dv x2 h2 d2 => ?_
          simp
          refine draw0 (k + 1) ((srt ns).length : Int) _ (by omega) (by omega) (by omega) d2 fun w2 y2 c2 e2 d2' => ?_
          obtain ⟨m, rfl⟩ : ∃ m : Nat, w2 = m := ⟨w2.toNat, by omega⟩
          obtain ⟨j, hj, ej⟩ := item_ints (ns := srt ns) (i := m) (by omega) (μ := .lst y2 :: [.dct (ns.map Sum.inl) vs])
          obtain ⟨dj, ed, g1, g2⟩ := elem j hj
          simp [ej, hset]
          exact ⟨by omega, _, _, _, ⟨rfl, rfl, rfl⟩, d2'.le (by omega), hput g1 g2 h2⟩
        · simp [hw3]
          refine value_wp k _ (by omega) (i := 0) rfl d3' fun dv x2 h2 d2 => ?_
          simp
          refine key_wp k _ (by omega) (i := 0) rfl d2 fun iv x3 g1 g2 d3 => ?_
          simp only [List.set_cons_zero, hset, swp_nil]
          simp
          exact ⟨by omega, _, _, _, ⟨rfl, rfl, rfl⟩, d3.le (by omega), hput g1 g2 h2⟩
  · have hl : (List.map (fun i => D.int ((i : Nat) : Int)) (List.range n)).length = n := by simp
    refine ⟨x1, _, _, none, none, by omega, rfl, rfl, ?_, ?_⟩
    · rw [hl, Nat.sub_self]; exact d1.le (by omega)
    · rw [hl, Nat.sub_self]
      exact f1.mono (by omega)
theorem chg_wp (k : Nat) (most t : Int) (hm : 0 ≤ most) (hm2 : most ≤ 5) (ht : t ≤ 800000) {ps : List PR} (hp : PsOk ps) (hl : ps.length ≤ 30) {i : Nat} {xs : List D} {μ : Mem} (hi : μ[i]? = some (.lst xs)) (hd : DeckOk t xs) {Q : D → Mem → Prop} {X : Exn → Mem → Prop}
    (q : ∀ qs xs', PsOk qs → (qs.length : Int) ≤ ps.length + most → DeckOk (t + 300) xs' → Q (prsD qs) (μ.set i (.lst xs'))) : wp (call (k + 3) ._law_changed [.ref i, prsD ps, .int most] μ) Q X :=
  deck_def (R := fun d => ∃ qs, d = prsD qs ∧ PsOk qs ∧ (qs.length : Int) ≤ ps.length + most) rfl (by have := hp.nr; simp [prsD, this]) (fun d ⟨ps, e, h, _⟩ => by rw [e]; unfold prsD; rw [nr_tup]; exact h.nr) (chg_body k most t hm hm2 ht hp hl) hi hd fun d xs' ⟨ps, e, h1, h2⟩ hd => by subst e; exact q ps xs' h1 h2 hd
def handsD (a b c : List PR) : D := .tup [prsD a, prsD b, prsD c]
def isHands (d : D) : Prop := ∃ a b c, d = handsD a b c ∧ PsOk a ∧ PsOk b ∧ PsOk c ∧ a.length ≤ 12 ∧ b.length ≤ 17 ∧ c.length ≤ 18
theorem hands_body (k : Nat) (most t : Int) (hm : 0 ≤ most) (hm2 : most ≤ 12) (ht : t ≤ 700000) (xs : List D) (hd : DeckOk t xs) : swp (B__law_hands (call (k + 3)) [some (.ref 0), some (.int most), none, none, none] [.lst xs]) fun f μ' => match f with
    | .ret d => isHands d ∧ ∃ xs' r, μ' = .lst xs' :: r ∧ DeckOk (t + 2000) xs'
    | _ => False := by
  simp [B__law_hands]
  refine pairs_wp k most t hm (by omega) (by omega) (i := 0) rfl hd fun a x1 h1 l1 d1 => ?_
  simp
  refine chg_wp k 5 _ (by decide) (by decide) (by omega) h1 (by omega) (i := 0) rfl d1 fun b x2 h2 l2 d2 => ?_
  simp
  refine chg_wp k 5 _ (by decide) (by decide) (by omega) h1 (by omega) (i := 0) rfl d2 fun c x3 h3 l3 d3 => ?_
  simp
  refine draw0 (k + 2) 5 _ (by decide) (by decide) (by omega) d3 fun w x4 a4 b4 d4 => ?_
  by_cases hw : w = 0
  · subst hw
    simp
    refine chg_wp k 1 _ (by decide) (by decide) (by omega) h2 (by omega) (i := 0) rfl d4 fun c' x5 h5 l5 d5 => ?_
    simp
    exact ⟨⟨a, b, c', rfl, h1, h2, h5, by omega, by omega, by omega⟩, d5.le (by omega)⟩
  · simp [hw]
    exact ⟨⟨a, b, c, rfl, h1, h2, h3, by omega, by omega, by omega⟩, d4.le (by omega)⟩
theorem hands_wp (k : Nat) (most t : Int) (hm : 0 ≤ most) (hm2 : most ≤ 12) (ht : t ≤ 700000) {i : Nat} {xs : List D} {μ : Mem} (hi : μ[i]? = some (.lst xs)) (hd : DeckOk t xs) {Q : D → Mem → Prop} {X : Exn → Mem → Prop}
    (q : ∀ a b c xs', PsOk a → PsOk b → PsOk c → a.length ≤ 12 → b.length ≤ 17 → c.length ≤ 18 → DeckOk (t + 2000) xs' → Q (handsD a b c) (μ.set i (.lst xs'))) : wp (call (k + 4) ._law_hands [.ref i, .int most] μ) Q X :=
  deck_def (R := isHands) rfl rfl (fun d ⟨a, b, c, e, h1, h2, h3, _⟩ => by rw [e]; simp [handsD, prsD, h1.nr, h2.nr, h3.nr]) (hands_body k most t hm hm2 ht) hi hd fun d xs' ⟨a, b, c, e, h1, h2, h3, l1, l2, l3⟩ hd => by subst e; exact q a b c xs' h1 h2 h3 l1 l2 l3 hd
end K56
namespace K56
open PySem PySem.Spec PyProof.Rows L2 Dp
theorem bits_log {i : Int} (h : PySem.Builtin.Int.intBits i ≤ 1048576) : i.natAbs.log2 ≤ 1048576 := by
  unfold PySem.Builtin.Int.intBits at h
  by_cases c : i = 0
  · rw [c]; decide
  · have : (i == 0) = false := by simpa using c
    rw [this] at h
    simp at h
    omega
theorem o_mulB {i j : Int} {μ : Mem} (h1 : PySem.Builtin.Int.intBits i ≤ 1048576) (h2 : 0 ≤ j) (h3 : j ≤ 1000000000) : Op.mul (.int i) (.int j) μ = .ok (.int (i * j)) μ := by
  show (if i.natAbs.log2 + j.natAbs.log2 < 100000000 then _ else _) = _
  have a := bits_log h1
  have b : j.natAbs.log2 ≤ 250 := log2_le (by
    have e : (2:Nat) ^ 250 = 1809251394333065553493296640760748560207343510400633813116524750123642650624 := by decide
    omega)
  rw [if_pos (by omega)]
theorem pot_loop (ns : List Int) (j : Nat) (hb : ∀ z ∈ ns, PySem.Builtin.Int.intBits z ≤ 1048576) (m0 : Int) (hm0 : 0 ≤ m0) (hm1 : m0 ≤ 1000000000000000000000000103) (P : Fl → Mem → Prop)
    (hP : ∀ m x3, 0 ≤ m → m ≤ 1000000000000000000000000103 → P (.next [some (.scr ns), some (.int j), some (.int m), x3, none]) []) :
    swp (S.loop (G.name 3) (S.asg (E.op2 Op.mod (E.call F.int (A.cons (E.op2 Op.add (E.op2 Op.add (E.op2 Op.mul (E.var 2) (E.val (.int 7919))) (E.op2 Op.mul (E.var 3) (E.val (.int 611953)))) (E.val (.int 3))) (A.nil))) (E.op2 Op.add (E.op2 Op.pow (E.val (.int 10)) (E.val (.int 27))) (E.val (.int 103)))) (G.name 2)) (ns.map D.int) [some (.scr ns), some (.int j), some (.int m0), none, none] []) P := by
  refine swp_loop (fun ds ρ μ => (∃ rs, ds = rs.map D.int ∧ ∀ z ∈ rs, PySem.Builtin.Int.intBits z ≤ 1048576) ∧ ∃ m x3, ρ = [some (.scr ns), some (.int j), some (.int m), x3, none] ∧ μ = [] ∧ 0 ≤ m ∧ m ≤ 1000000000000000000000000103) ?_ ?_ _ _ _ ⟨⟨ns, rfl, hb⟩, m0, none, rfl, rfl, hm0, hm1⟩
  · rintro ρ μ ⟨_, m, x3, rfl, rfl, h1, h2⟩
    exact hP m x3 h1 h2
  · rintro d ds ρ μ ⟨⟨rs, e, hrs⟩, m, x3, rfl, rfl, h1, h2⟩
    cases rs with
    | nil => cases e
    | cons z rs =>
      obtain ⟨rfl, rfl⟩ := List.cons.inj e
      have ez : ∀ μ, Op.mul (.int z) (.int 611953) μ = .ok (.int (z * 611953)) μ := fun μ => o_mulB (hrs z List.mem_cons_self) (by decide) (by decide)
      simp [ez]
      simp (disch := omega) only [o_mul, o_pow, wp_ok]
      simp [ez]
      simp (disch := omega) only [o_mod, wp_ok, Dp.add_int, fint_int]
      exact ⟨⟨rs, rfl, fun x hx => hrs x (List.mem_cons_of_mem _ hx)⟩, _, rfl, trivial, Int.emod_nonneg _ (by decide), Int.le_of_lt (Int.emod_lt_of_pos _ (by decide))⟩
theorem pot_body (k : Nat) (ns : List Int) (j : Nat) (hj : j ≤ 10) (hb : ∀ z ∈ ns, PySem.Builtin.Int.intBits z ≤ 1048576) : wp (runB 2 5 (B__law_pot (call k)) [.scr ns, .int j] []) (fun d μ' => d = .ref 0 ∧ ∃ xs, μ' = [.lst xs] ∧ DeckOk 0 xs) NoX := by
  refine wp_runB rfl ?_
  have an : ∀ μ, Dp.Q.anyI (.scr ns) μ = .ok (ns.map D.int) μ := fun μ => rfl
  simp [B__law_pot, an]
  simp (disch := omega) only [o_mul, wp_ok]
  simp [an]
  refine pot_loop ns j hb _ (by omega) (by omega) _ fun m x3 h1 h2 => ?_
  have fin : ∀ (x c : Int), DeckOk 0 [.int c, .int (x % 100000000000000000000000000319), .int 0] := fun x c => by
    have := Int.emod_nonneg x (show (100000000000000000000000000319 : Int) ≠ 0 by decide)
    have := Int.emod_lt_of_pos x (show (0 : Int) < 100000000000000000000000000319 by decide)
    exact ⟨_, _, _, rfl, by omega, by omega, by omega, by omega⟩
  by_cases hl : j < ns.length
  · have e : ∀ μ, Op.item (.scr ns) (.int (j : Nat)) μ = .ok (.int ns[j]) μ := fun μ => by rw [item_scr (by omega), Int.toNat_natCast, List.getElem?_eq_getElem hl]; rfl
    have ez : ∀ μ, Op.mul (.int ns[j]) (.int 9) μ = .ok (.int (ns[j] * 9)) μ := fun μ => o_mulB (hb _ (List.getElem_mem hl)) (by decide) (by decide)
    generalize ns[j] = cell at *
    simp [hl, e]
    simp (disch := omega) only [o_pow, wp_ok, Dp.sub_int, max_int, o_mul]
    simp [ez]
    simp (disch := omega) only [o_mod, wp_ok, Dp.add_int, fint_int]
    exact ⟨trivial, _, rfl, fin _ _⟩
  · simp [hl]
    simp (disch := omega) only [o_pow, wp_ok, Dp.sub_int, max_int, o_mul]
    simp
    simp (disch := omega) only [o_mul, o_mod, wp_ok, Dp.add_int, fint_int]
    exact ⟨trivial, _, rfl, fin _ _⟩
theorem pot_wp (k : Nat) (ns : List Int) (j : Nat) (hj : j ≤ 10) (hb : ∀ z ∈ ns, PySem.Builtin.Int.intBits z ≤ 1048576) {μ : Mem} {Q : D → Mem → Prop} {X : Exn → Mem → Prop} (q : ∀ xs, DeckOk 0 xs → Q (.ref μ.length) (μ ++ [.lst xs])) : wp (call (k + 1) ._law_pot [.scr ns, .int j] μ) Q X := by
  refine wp_proto (by simp) (wp_mono (pot_body k ns j hj hb) (fun d μ' h => ?_) fun _ _ h => h.elim)
  obtain ⟨rfl, xs, rfl, hd⟩ := h
  have e : outD true [] [.lst xs] μ (.ref 0) = .ok (.ref μ.length) (μ ++ [.lst xs]) := by
    unfold outD
    rw [if_neg (by rw [D.nr]; exact Bool.false_ne_true)]
    show (if (MO.lst xs).flat = true then _ else _) = _
    rw [if_pos hd.flat]; rfl
  show wp (outD true [] [.lst xs] μ (.ref 0)) Q X
  rw [e]
  exact q xs hd
end K56
namespace K56
open PySem PySem.Spec PyProof.Rows L2 Dp
/-! ### contents as dicts -/
def gt : List PR → Int → Option D
  | [], _ => none
  | p :: ps, k => if p.1 = k then some p.2 else gt ps k
abbrev kP (ps : List PR) : List Key := ps.map fun p => Sum.inl p.1
abbrev fP (f : D → D) (ps : List PR) : List D := ps.map fun p => f p.2
abbrev tp1 (d : D) : D := .tup [d]
theorem dGet_P (f : D → D) (k : Int) : ∀ ps : List PR, dGet (kP ps) (fP f ps) (.inl k) = (gt ps k).map f
  | [] => rfl
  | p :: ps => by
    have ih := dGet_P f k ps
    show (if (Sum.inl p.1 : Key) = .inl k then some (f p.2) else dGet (kP ps) (fP f ps) (.inl k)) = _
    unfold gt
    by_cases h : p.1 = k
    · rw [if_pos (by rw [h]), if_pos h]; rfl
    · rw [if_neg (fun e => h (Sum.inl.inj e)), if_neg h, ih]
theorem gt_none {k : Int} : ∀ {ps : List PR}, k ∉ ps.map (·.1) → gt ps k = none
  | [], _ => rfl
  | p :: ps, h => by
    rw [List.map_cons, List.mem_cons, not_or] at h
    unfold gt
    rw [if_neg (fun e => h.1 e.symm), gt_none h.2]
theorem gt_mem {k : Int} {v : D} : ∀ {ps : List PR}, gt ps k = some v → (k, v) ∈ ps
  | [], h => by cases h
  | p :: ps, h => by
    unfold gt at h
    split at h
    · rename_i e
      cases h
      rw [← e]; exact List.mem_cons_self
    · exact List.mem_cons_of_mem _ (gt_mem h)
theorem dPut_P (f : D → D) {ps : List PR} {p : PR} (h : p.1 ∉ ps.map (·.1)) : dPutK (kP ps) (fP f ps) (.inl p.1) = kP (ps ++ [p]) ∧ dPutX (kP ps) (fP f ps) (.inl p.1) (f p.2) = fP f (ps ++ [p]) := by
  unfold dPutK dPutX
  rw [dGet_P, gt_none h]
  simp
theorem nodup_app {ps qs : List PR} {p : PR} (h : ((ps ++ p :: qs).map (·.1)).Nodup) : p.1 ∉ ps.map (·.1) ∧ (((ps ++ [p]) ++ qs).map (·.1)).Nodup := by
  refine ⟨?_, by simpa using h⟩
  rw [List.map_append, List.map_cons] at h
  intro hm
  exact (List.nodup_append.mp h).2.2 p.1 hm p.1 List.mem_cons_self rfl
theorem dcLoop_prs (x0 x1 x2 x3 x4 x5 : Option D) (μ : Mem) : ∀ (ps done : List PR), ((done ++ ps).map (·.1)).Nodup →
    Dp.Q.dcLoop (G.tup (G.cons (G.name 6) (G.cons (G.name 7) G.nil))) T.yes (E.var 6) (E.tup (A.cons (E.var 7) A.nil)) [x0, x1, x2, x3, x4, x5, none, none] (ps.map prD) (kP done, fP tp1 done) μ = .ok (kP (done ++ ps), fP tp1 (done ++ ps)) μ
  | [], done, _ => by rw [List.append_nil]; rfl
  | p :: ps, done, h => by
    obtain ⟨h1, h2⟩ := nodup_app h
    rw [List.map_cons]
    unfold Dp.Q.dcLoop
    show Dp.Q.dcLoop _ _ _ _ [x0, x1, x2, x3, x4, x5, none, none] (ps.map prD) (dPutK (kP done) (fP tp1 done) (.inl p.1), dPutX (kP done) (fP tp1 done) (.inl p.1) (tp1 p.2)) μ = _
    rw [(dPut_P tp1 h1).1, (dPut_P tp1 h1).2, dcLoop_prs x0 x1 x2 x3 x4 x5 μ ps (done ++ [p]) h2, List.append_assoc]
    rfl
theorem mergeD_prs : ∀ (ps done : List PR), ((done ++ ps).map (·.1)).Nodup → mergeD (kP done, fP id done) (ps.map prD) = (kP (done ++ ps), fP id (done ++ ps))
  | [], done, _ => by rw [List.append_nil]; rfl
  | p :: ps, done, h => by
    obtain ⟨h1, h2⟩ := nodup_app h
    show mergeD (dPutK (kP done) (fP id done) (.inl p.1), dPutX (kP done) (fP id done) (.inl p.1) (id p.2)) (ps.map prD) = _
    rw [(dPut_P id h1).1, (dPut_P id h1).2, mergeD_prs ps (done ++ [p]) h2, List.append_assoc]
    rfl
theorem PsOk.nd {ps : List PR} (h : PsOk ps) : (ps.map (·.1)).Nodup := by
  exact (show (ps.map (·.1)).Pairwise (· < ·) from h.up).imp fun h => Int.ne_of_lt h
theorem intKeys_P : ∀ ps : List PR, Op.intKeys (kP ps) = some (ps.map (·.1))
  | [] => rfl
  | p :: ps => by
    show (Op.intKeys (kP ps)).map (p.1 :: ·) = _
    rw [intKeys_P ps]; rfl
/-! ### key by key -/
def optD : Option D → D
  | some v => .tup [v]
  | none => .tup []
theorem dget2_P (ps : List PR) (k : Int) (μ : Mem) : Mt.dget2 (.dct (kP ps) (fP tp1 ps)) [.int k, .tup []] μ = .ok (optD (gt ps k)) μ := by
  have e : Mt.dget2 (.dct (kP ps) (fP tp1 ps)) [.int k, .tup []] μ = (match dGet (kP ps) (fP tp1 ps) (.inl k) with
    | some d => .ok d μ
    | none => .ok (.tup []) μ) := rfl
  rw [e, dGet_P]
  cases gt ps k <;> rfl
def keysL (a b c : List PR) : List Int := ssetL ((a.map (·.1) ++ b.map (·.1)) ++ c.map (·.1))
def rowD (k : Int) (w m t : Option D) : D := .tup [.int k, optD w, optD m, optD t]
def tL (a b c : List PR) : List D := (keysL a b c).map fun k => rowD k (gt a k) (gt b k) (gt c k)
@[simp] theorem e_dc {q : EA} {vs : List Nat} {g : EG} {tt : EB} {tk tv : EE} {ρ : Dp.Loc} {μ : Mem} : E.dc q vs g tt tk tv ρ μ = (q ρ μ).bind fun ds μ => if ds.length ≤ 16777215 then (Dp.Q.dcLoop g tt tk tv (wipeL ρ vs) ds ([], []) μ).bind fun kx μ => .ok (.dct kx.1 kx.2) μ else .bad := id rfl
@[simp] theorem e_sst {m : ESt} {ρ : Dp.Loc} {μ : Mem} : E.sst m ρ μ = (m ρ μ).bind fun ns μ => if ns.length ≤ 63 then .ok (.lst ((ssetL ns).map .int)) μ else .bad := id rfl
@[simp] theorem st_or {a b : ESt} {ρ : Dp.Loc} {μ : Mem} : St.or a b ρ μ = (a ρ μ).bind fun x μ => (b ρ μ).bind fun y μ => if x.length + y.length ≤ 63 then .ok (x ++ y) μ else .bad := id rfl
theorem ofD_P {e : EE} {ρ : Dp.Loc} {μ : Mem} {ps : List PR} {f : D → D} (h : e ρ μ = .ok (.dct (kP ps) (fP f ps)) μ) (hl : ps.length ≤ 63) : St.ofD e ρ μ = .ok (ps.map (·.1)) μ := by
  unfold St.ofD
  rw [h]
  show (match Op.intKeys (kP ps) with
    | some ns => if ns.length ≤ 63 then Res.ok ns μ else .bad
    | none => .bad) = _
  rw [intKeys_P]
  show (if (ps.map (·.1)).length ≤ 63 then Res.ok (ps.map (·.1)) μ else .bad) = _
  rw [if_pos (by rw [List.length_map]; exact hl)]
theorem ssetL_len (ns : List Int) : (ssetL ns).length ≤ ns.length := by
  have ins : ∀ (x : Int) (l : List Int), (insU x l).length ≤ l.length + 1 := by
    intro x l
    induction l with
    | nil => simp [insU]
    | cons y ys ih =>
      unfold insU
      split
      · simp
      · split
        · simp
        · simp only [List.length_cons]; omega
  induction ns with
  | nil => exact Nat.le_refl _
  | cons n ns ih =>
    have := ins n (ssetL ns)
    show (insU n (ssetL ns)).length ≤ _
    rw [List.length_cons]; omega
theorem keys_len (a b c : List PR) : (keysL a b c).length ≤ a.length + b.length + c.length := by
  have := ssetL_len ((a.map (·.1) ++ b.map (·.1)) ++ c.map (·.1))
  simp only [List.length_append, List.length_map] at this
  exact this
structure Th (a b c : List PR) : Prop where
  pa : PsOk a
  pb : PsOk b
  pc : PsOk c
  la : a.length + b.length + c.length ≤ 63
theorem optD_pl {ps : List PR} (h : PsOk ps) (k : Int) : (optD (gt ps k)).pl = true := by
  cases e : gt ps k with
  | none => rfl
  | some v =>
    have := valOk_pl (h.val _ (gt_mem e))
    show (D.tup [v]).pl = true
    rw [D.pl, plAll, plAll, this]; rfl
theorem row_pl {a b c : List PR} (h : Th a b c) (k : Int) : (rowD k (gt a k) (gt b k) (gt c k)).pl = true := by
  unfold rowD
  rw [D.pl, plAll, plAll, plAll, plAll, plAll, optD_pl h.pa, optD_pl h.pb, optD_pl h.pc]; rfl
theorem tL_pl {a b c : List PR} (h : Th a b c) : plAll (tL a b c) = true := plAll_of fun d hd => by
  obtain ⟨k, _, rfl⟩ := List.mem_map.mp hd
  exact row_pl h k
@[simp] theorem q_lc3 {x y z : D} {μ : Mem} : Dp.Q.anyI (.tup [x, y, z]) μ = .ok [x, y, z] μ := id rfl
theorem ty_dct (ks : List Key) (xs : List D) (μ : Mem) : RTy.dict.ok (.dct ks xs) μ = true := rfl
theorem three_ok (k : Nat) {a b c : List PR} (h : Th a b c) (μ : Mem) : call (k + 1) .three_ways [prsD a, prsD b, prsD c] μ = .ok (.lst (tL a b c)) μ := by
  have hl := h.la
  have na : (prsD a).nr = true := by unfold prsD; rw [nr_tup]; exact h.pa.nr
  have nb : (prsD b).nr = true := by unfold prsD; rw [nr_tup]; exact h.pb.nr
  have nc : (prsD c).nr = true := by unfold prsD; rw [nr_tup]; exact h.pc.nr
  refine cv (by simp [na, nb, nc]) (plAll_nr _ (tL_pl h)) rfl ?_
  have hany : ∀ (ps : List PR) μ, Dp.Q.anyI (prsD ps) μ = .ok (ps.map prD) μ := fun ps μ => rfl
  have dl := fun (ps : List PR) (hp : PsOk ps) (x0 x1 x2 x3 x4 x5 : Option D) μ => dcLoop_prs x0 x1 x2 x3 x4 x5 μ ps [] (by rw [List.nil_append]; exact hp.nd)
  have dl' : ∀ (ps : List PR) (hp : PsOk ps) (x0 x1 x2 x3 x4 x5 : Option D) μ, Dp.Q.dcLoop (G.tup (G.cons (G.name 6) (G.cons (G.name 7) G.nil))) T.yes (E.var 6) (E.tup (A.cons (E.var 7) A.nil)) [x0, x1, x2, x3, x4, x5, none, none] (ps.map prD) ([], []) μ = .ok (kP ps, fP tp1 ps) μ := dl
  simp only [bodyOf, nsOf, B_three_ways, List.map_cons, List.map_nil, List.replicate_succ, List.replicate_zero, List.length_cons, List.length_nil, List.cons_append, List.nil_append, swp_seq, swp_asg]
  simp
  refine wp_lcm (xs := [a, b, c]) (c := prsD) (fun ps => .dct (kP ps) (fP tp1 ps)) (fun ps hps => ?_) ?_
  · have hp : PsOk ps := by
      simp only [List.mem_cons, List.not_mem_nil, or_false] at hps
      rcases hps with rfl | rfl | rfl
      · exact h.pa
      · exact h.pb
      · exact h.pc
    have hpl := hp.len
    simp [hany, wipeL, dl' ps hp]
    omega
  · have s0 : ∀ μ, St.ofD (E.op2 Op.item (E.var 3) (E.val (.int 0))) [some (prsD a), some (prsD b), some (prsD c), some (.lst [.dct (kP a) (fP tp1 a), .dct (kP b) (fP tp1 b), .dct (kP c) (fP tp1 c)]), none, none, none, none] μ = .ok (a.map (·.1)) μ := fun μ => ofD_P (f := tp1) rfl (by omega)
    have s1 : ∀ μ, St.ofD (E.op2 Op.item (E.var 3) (E.val (.int 1))) [some (prsD a), some (prsD b), some (prsD c), some (.lst [.dct (kP a) (fP tp1 a), .dct (kP b) (fP tp1 b), .dct (kP c) (fP tp1 c)]), none, none, none, none] μ = .ok (b.map (·.1)) μ := fun μ => ofD_P (f := tp1) rfl (by omega)
    have s2 : ∀ μ, St.ofD (E.op2 Op.item (E.var 3) (E.val (.int 2))) [some (prsD a), some (prsD b), some (prsD c), some (.lst [.dct (kP a) (fP tp1 a), .dct (kP b) (fP tp1 b), .dct (kP c) (fP tp1 c)]), none, none, none, none] μ = .ok (c.map (·.1)) μ := fun μ => ofD_P (f := tp1) rfl (by omega)
    have kl := keys_len a b c
    have ek : ssetL (List.map (·.1) a ++ List.map (·.1) b ++ List.map (·.1) c) = keysL a b c := rfl
    have hli : ∀ (ns : List Int) μ, Dp.Q.anyI (.lst (ns.map D.int)) μ = .ok (ns.map D.int) μ := fun ns μ => rfl
    simp only [List.map_cons, List.map_nil, s0, s1, s2, wp_ok, wp_bind, List.length_append, List.length_map]
    have ek' : ssetL (List.map (fun x : PR => x.1) a ++ (List.map (fun x : PR => x.1) b ++ List.map (fun x : PR => x.1) c)) = keysL a b c := by rw [← List.append_assoc]; rfl
    rw [ek']
    refine ⟨by omega, by omega, by omega, wp_lcm (fun k => rowD k (gt a k) (gt b k) (gt c k)) (fun k hk => ?_) rfl⟩
    have i0 : ∀ μ, Op.item (.lst [.dct (kP a) (fP tp1 a), .dct (kP b) (fP tp1 b), .dct (kP c) (fP tp1 c)]) (.int 0) μ = .ok (.dct (kP a) (fP tp1 a)) μ := fun μ => rfl
    have i1 : ∀ μ, Op.item (.lst [.dct (kP a) (fP tp1 a), .dct (kP b) (fP tp1 b), .dct (kP c) (fP tp1 c)]) (.int 1) μ = .ok (.dct (kP b) (fP tp1 b)) μ := fun μ => rfl
    have i2 : ∀ μ, Op.item (.lst [.dct (kP a) (fP tp1 a), .dct (kP b) (fP tp1 b), .dct (kP c) (fP tp1 c)]) (.int 2) μ = .ok (.dct (kP c) (fP tp1 c)) μ := fun μ => rfl
    simp [i0, i1, i2, ty_dct, dget2_P, rowD]
/-! ### what is chosen -/
def sm (x y : Option D) : Bool := PyData.eqv (optD x).py (optD y).py
def okO (x : Option D) : Prop := ∀ v, x = some v → valOk v = true
theorem gt_okO {ps : List PR} (h : PsOk ps) (k : Int) : okO (gt ps k) := fun v e => h.val _ (gt_mem e)
theorem okO_exa {x : Option D} (h : okO x) : exa (optD x) = true := by
  cases x with
  | none => rfl
  | some v =>
    have := h v rfl
    show exa (.tup [v]) = true
    cases v <;> first | rfl | cases this
theorem okO_pl {x : Option D} (h : okO x) : (optD x).pl = true := by
  cases x with
  | none => rfl
  | some v =>
    have := valOk_pl (h v rfl)
    show (D.tup [v]).pl = true
    rw [D.pl, plAll, plAll, this]; rfl
theorem okO_dep {x : Option D} (h : okO x) : (optD x).py.depth ≤ 1 := by
  cases x with
  | none => simp [optD, D.py, pyAll, PyData.depth, PyData.depthAll]
  | some v =>
    have := val_depth (h v rfl)
    simp [optD, D.py, pyAll, PyData.depth, PyData.depthAll, this]
theorem optD_inj : ∀ {x y : Option D}, optD x = optD y → x = y
  | none, none, _ => rfl
  | none, some v, h => by cases h
  | some v, none, h => by cases h
  | some v, some w, h => by
    have h : D.tup [v] = D.tup [w] := h
    injection h with h
    injection h with h
    rw [h]
theorem sm_iff {x y : Option D} (hx : okO x) (hy : okO y) : sm x y = true ↔ x = y := by
  unfold sm
  rw [eqv_exa (okO_exa hx) (okO_exa hy)]
  exact ⟨optD_inj, fun h => by rw [h]⟩
theorem eq_opt {x y : Option D} (hx : okO x) (hy : okO y) (μ : Mem) : Op.eq (optD x) (optD y) μ = .ok (.bl (sm x y)) μ := by
  have := okO_dep hx
  exact eq_pl (okO_pl hx) (okO_pl hy) (by omega)
def ch (w m t : Option D) : Option (Option D) := if (sm m t || sm t w) = true then some m else if sm m w = true then some t else none
def chD : Option (Option D) → D
  | some x => optD x
  | none => .non
theorem chosen_ok (k : Nat) {w m t : Option D} (hw : okO w) (hm : okO m) (ht : okO t) (μ : Mem) : call (k + 1) .chosen [optD w, optD m, optD t] μ = .ok (chD (ch w m t)) μ := by
  have nr : ∀ {x : Option D}, okO x → (optD x).nr = true := fun h => pl_nr _ (okO_pl h)
  have nc : (chD (ch w m t)).nr = true := by
    unfold ch
    split
    · exact nr hm
    · split
      · exact nr ht
      · rfl
  refine cv (by simp [nr hw, nr hm, nr ht]) nc rfl ?_
  cases h1 : sm m t <;> cases h2 : sm t w <;> cases h3 : sm m w <;> simp [bodyOf, nsOf, B_chosen, List.replicate_succ, eq_opt hm ht, eq_opt ht hw, eq_opt hm hw, h1, h2, h3, ch, chD]
def lchD : Option (Option D) → D
  | some x => .lst [optD x]
  | none => .lst []
theorem lchosen_ok (k : Nat) {w m t : Option D} (hw : okO w) (hm : okO m) (ht : okO t) (μ : Mem) : call (k + 1) ._law_chosen [optD w, optD m, optD t] μ = .ok (lchD (ch w m t)) μ := by
  have nr : ∀ {x : Option D}, okO x → (optD x).nr = true := fun h => pl_nr _ (okO_pl h)
  have nl : ∀ {x : Option D}, okO x → (D.lst [optD x]).nr = true := fun h => by simp [nr h]
  have nc : (lchD (ch w m t)).nr = true := by
    unfold ch
    split
    · exact nl hm
    · split
      · exact nl ht
      · rfl
  have key : sm m w = true → sm t w = true → sm m t = true := fun a b => by
    have a := (sm_iff hm hw).1 a
    have b := (sm_iff ht hw).1 b
    exact (sm_iff hm ht).2 (a.trans b.symm)
  refine cv (by simp [nr hw, nr hm, nr ht]) nc rfl ?_
  cases h1 : sm m t <;> cases h2 : sm t w <;> cases h3 : sm m w <;> first | (exact absurd (key h3 h2) (by rw [h1]; decide)) | simp [bodyOf, nsOf, B__law_chosen, List.replicate_succ, eq_opt hm ht, eq_opt ht hw, eq_opt hm hw, h1, h2, h3, ch, lchD]
end K56
namespace K56
open PySem PySem.Spec PyProof.Rows L2 Dp
theorem extend_at {i : Nat} {ys zs : List D} {μ : Mem} (hi : μ[i]? = some (.lst ys)) (hl : ys.length + zs.length ≤ 16777216) : Mt.extend (.ref i) [.lst zs] μ = .ok .non (μ.set i (.lst (ys ++ zs))) := by
  unfold Mt.extend
  have h1 : Mt.lstAt μ (.ref i) = some (i, ys) := by unfold Mt.lstAt; simp only [hi]
  simp only [h1]
  first | exact if_pos hl | (rw [if_pos hl]) | (simp [hl]; done) | (dsimp only [seeQ]; rw [if_pos hl])
theorem append_at {i : Nat} {ys : List D} {μ : Mem} {d : D} (hi : μ[i]? = some (.lst ys)) (hl : ys.length < 16777216) : Mt.append (.ref i) [d] μ = .ok .non (μ.set i (.lst (ys ++ [d]))) := by
  unfold Mt.append
  have h1 : Mt.lstAt μ (.ref i) = some (i, ys) := by unfold Mt.lstAt; simp only [hi]
  simp only [h1]
  first | exact if_pos hl | (rw [if_pos hl]) | (simp [hl]; done)
/-! ### what is merged -/
def chK (a b c : List PR) (k : Int) : Option (Option D) := ch (gt a k) (gt b k) (gt c k)
def clL (a b c : List PR) : List Int := (keysL a b c).filter fun k => (chK a b c k).isNone
def gotO (one : Bool) (a b c : List PR) (k : Int) : Option D := match chK a b c k with
  | some x => x
  | none => if one then gt b k else gt c k
def itemL (one : Bool) (a b c : List PR) (k : Int) : List D := (gotO one a b c k).toList.map fun v => D.tup [.int k, v]
def foundL (one : Bool) (a b c : List PR) : List D := (keysL a b c).flatMap (itemL one a b c)
def mergedD (one clash : Bool) (a b c : List PR) : D := if clash = true ∧ clL a b c ≠ [] then .tup [.str "clash", .tup ((clL a b c).map .int)] else .tup [.str "merged", .tup (foundL one a b c)]
@[simp] theorem isNone_ch (x : Option (Option D)) : Op.isNone (chD x) = x.isNone := by
  cases x with
  | none => rfl
  | some y => cases y <;> rfl
theorem chD_is (x : Option (Option D)) (μ : Mem) : Op.is (chD x) .non μ = .ok (.bl x.isNone) μ := by
  cases x with
  | none => rfl
  | some y => cases y <;> rfl
theorem Th.nr {a b c : List PR} (h : Th a b c) : (prsD a).nr = true ∧ (prsD b).nr = true ∧ (prsD c).nr = true := by
  refine ⟨?_, ?_, ?_⟩ <;> (unfold prsD; rw [nr_tup])
  · exact h.pa.nr
  · exact h.pb.nr
  · exact h.pc.nr
theorem nr_ints : ∀ ns : List Int, nrAll (ns.map D.int) = true := fun ns => plAll_nr _ (plAll_nums ns)
theorem clashes_of_ok (k : Nat) {a b c : List PR} (h : Th a b c) (μ : Mem) : call (k + 2) .clashes_of [prsD a, prsD b, prsD c] μ = .ok (.tup ((clL a b c).map .int)) μ := by
  obtain ⟨na, nb, nc⟩ := h.nr
  have hl := h.la
  have t3 := fun μ => three_ok k h μ
  have kl := keys_len a b c
  have hli : ∀ (xs : List D) μ, Dp.Q.anyI (.lst xs) μ = .ok xs μ := fun ns μ => rfl
  refine cv (by simp [na, nb, nc]) (by simp [nr_ints]) rfl ?_
  simp [bodyOf, nsOf, B_clashes_of, List.replicate_succ, t3, hli, tL]
  refine ⟨by omega, wp_lcf (fun k => (chK a b c k).isNone) D.int (fun x hx => ?_) rfl⟩
  have co := fun μ => chosen_ok k (gt_okO h.pa x) (gt_okO h.pb x) (gt_okO h.pc x) μ
  unfold rowD
  cases hc : (chK a b c x).isNone <;> (unfold chK at hc; simp [co, chD_is, hc])
theorem need_three_ok (k : Nat) {a b c : List PR} (h : Th a b c) (μ : Mem) : call (k + 7) .need_three [prsD a, prsD b, prsD c] μ = .ok .non μ := by
  obtain ⟨na, nb, nc⟩ := h.nr
  have n1 : ∀ (ps : List PR), PsOk ps → ∀ μ, call (k + 6) .need_pairs [prsD ps] μ = .ok .non μ := fun ps hp μ => by
    have h1 := fun μ => pairs_ok k ps μ hp
    exact cv (by simp [prsD, hp.nr]) rfl rfl (by simp [bodyOf, nsOf, B_need_pairs, List.replicate_succ, h1])
  exact cv (by simp [na, nb, nc]) rfl rfl (by simp [bodyOf, nsOf, B_need_three, List.replicate_succ, n1 a h.pa, n1 b h.pb, n1 c h.pc])
theorem item_len (one : Bool) (a b c : List PR) (k : Int) : (itemL one a b c k).length ≤ 1 := by
  unfold itemL
  rw [List.length_map]
  cases gotO one a b c k <;> simp
theorem flat_len (one : Bool) (a b c : List PR) : ∀ ks : List Int, (ks.flatMap (itemL one a b c)).length ≤ ks.length
  | [] => by simp
  | k :: ks => by
    have := item_len one a b c k
    have := flat_len one a b c ks
    simp only [List.flatMap_cons, List.length_append, List.length_cons]; omega
theorem item_pl (one : Bool) {a b c : List PR} (h : Th a b c) (k : Int) : plAll (itemL one a b c k) = true := plAll_of fun d hd => by
  obtain ⟨v, hv, rfl⟩ := List.mem_map.mp hd
  have hv : gotO one a b c k = some v := by simpa using hv
  have hok : okO (gotO one a b c k) := by
    unfold gotO chK ch
    have g1 := gt_okO h.pb k
    have g2 := gt_okO h.pc k
    split
    · rename_i x e
      split at e
      · cases e; exact g1
      · split at e
        · cases e; exact g2
        · cases e
    · cases one
      · exact g2
      · exact g1
  have := valOk_pl (hok v hv)
  rw [D.pl, plAll, plAll, plAll, this]; rfl
theorem found_pl (one : Bool) {a b c : List PR} (h : Th a b c) : plAll (foundL one a b c) = true := plAll_of fun d hd => by
  obtain ⟨k, _, hd⟩ := List.mem_flatMap.mp hd
  exact plAll_mem (item_pl one h k) hd
theorem merged_nr (one clash : Bool) {a b c : List PR} (h : Th a b c) : (mergedD one clash a b c).nr = true := by
  unfold mergedD
  split
  · simp [nr_ints]
  · simp [plAll_nr _ (found_pl one h)]
theorem ne_tup_ints0 (ns : List Int) (μ : Mem) : Op.ne (.tup (ns.map D.int)) (.tup []) μ = .ok (.bl (!ns.isEmpty)) μ := by
  rw [ne_pl (by rw [D.pl]; exact plAll_nums ns) rfl (by rw [show (D.tup []).py.depth = 1 from rfl]; omega)]
  congr 3
  cases ns with
  | nil => rfl
  | cons x xs => rw [D.py, D.py, List.map_cons, pyAll, pyAll, PyData.eqv, PyData.eqvAll]; rfl
theorem merge_ok (k : Nat) {r : Str} {one clash : Bool} (h1 : ∀ μ, Op.eq (.str r) (.str "one") μ = .ok (.bl one) μ) (h2 : ∀ μ, Op.eq (.str r) (.str "clash") μ = .ok (.bl clash) μ) {a b c : List PR} (h : Th a b c) (μ : Mem) :
    call (k + 3) .merge [prsD a, prsD b, prsD c, .str r] μ = .ok (mergedD one clash a b c) μ := by
  obtain ⟨na, nb, nc⟩ := h.nr
  have hl := h.la
  have t3 := fun μ => three_ok (k + 1) h μ
  have co := fun μ => clashes_of_ok k h μ
  have kl := keys_len a b c
  have hli : ∀ (xs : List D) μ, Dp.Q.anyI (.lst xs) μ = .ok xs μ := fun ns μ => rfl
  have hti : ∀ (xs : List D) μ, Dp.Q.anyI (.tup xs) μ = .ok xs μ := fun ns μ => rfl
  refine cv (by simp [na, nb, nc]) (merged_nr one clash h) rfl ?_
  simp only [bodyOf, nsOf, B_merge, List.map_cons, List.map_nil, List.replicate_succ, List.replicate_zero, List.length_cons, List.length_nil, List.cons_append, List.nil_append]
  have in0 : ∀ o : Option D, Op.isNone (optD o) = false := fun o => by cases o <;> rfl
  have inn : Op.isNone .non = true := rfl
  by_cases hc : clash = true ∧ clL a b c ≠ []
  · obtain ⟨rfl, hc2⟩ := hc
    have he : (clL a b c).isEmpty = false := by cases hx : clL a b c with
      | nil => exact absurd hx hc2
      | cons _ _ => rfl
    simp [co, h2, ne_tup_ints0, he, mergedD, hc2]
  · have hcc : (clash && !(clL a b c).isEmpty) = false := by
      cases clash with
      | false => rfl
      | true =>
        have : clL a b c = [] := Classical.byContradiction fun z => hc ⟨rfl, z⟩
        rw [this]; rfl
    have em : mergedD one clash a b c = .tup [.str "merged", .tup (foundL one a b c)] := if_neg hc
    rw [em]
    cases hcl : clash with
    | false =>
      rw [hcl] at h2
      simp [co, h2, ne_tup_ints0, t3, hli]
      refine swp_loop (fun ds ρ μ => ∃ done rest x6 x7 x8 x9 x10, keysL a b c = done ++ rest ∧ ds = rest.map (fun k => rowD k (gt a k) (gt b k) (gt c k)) ∧ ρ = [some (prsD a), some (prsD b), some (prsD c), some (.str r), some (.tup ((clL a b c).map .int)), some (.ref 0), x6, x7, x8, x9, x10, none] ∧ μ = [.lst (done.flatMap (itemL one a b c))]) ?_ ?_ _ _ _ ⟨[], keysL a b c, none, none, none, none, none, rfl, rfl, rfl, rfl⟩
      · rintro ρ μ ⟨done, rest, x6, x7, x8, x9, x10, ek, e, rfl, rfl⟩
        have er : rest = [] := by cases rest with
          | nil => rfl
          | cons _ _ => cases e
        rw [er, List.append_nil] at ek
        have ft : ∀ xs : List D, F.tuple [.ref 0] [MO.lst xs] = .ok (.tup xs) [MO.lst xs] := fun xs => rfl
        simp [ft, foundL, ek]
      · rintro d ds ρ μ ⟨done, rest, x6, x7, x8, x9, x10, ek, e, rfl, rfl⟩
        cases rest with
        | nil => cases e
        | cons x rest =>
        obtain ⟨rfl, rfl⟩ := List.cons.inj e
        have ch1 := fun μ => chosen_ok (k + 1) (gt_okO h.pa x) (gt_okO h.pb x) (gt_okO h.pc x) μ
        have fl := flat_len one a b c done
        have il := item_len one a b c x
        have ll := congrArg List.length ek
        rw [List.length_append, List.length_cons] at ll
        have ex := extend_at (i := 0) (ys := done.flatMap (itemL one a b c)) (zs := itemL one a b c x) (μ := [.lst (done.flatMap (itemL one a b c))]) rfl (by omega)
        have ef : (done ++ [x]).flatMap (itemL one a b c) = done.flatMap (itemL one a b c) ++ itemL one a b c x := by simp
        have lk : ∀ o : Option D, Dp.Q.anyI (optD o) [.lst (done.flatMap (itemL one a b c))] = .ok o.toList [.lst (done.flatMap (itemL one a b c))] := fun o => by cases o <;> rfl
        have ok1 : RTy.list.ok (.ref 0) [.lst (done.flatMap (itemL one a b c))] = true := rfl
        have eg : gotO one a b c x = (match chK a b c x with
          | some y => y
          | none => if one then gt b x else gt c x) := rfl
        have tl1 : ∀ o : Option D, o.toList.length ≤ 16777216 := fun o => by cases o <;> simp
        have fin : ∀ {g : EG} {te : EE} {ρ0 : Dp.Loc} (o : Option D), gotO one a b c x = o → True := fun _ _ => trivial
        show gwp (G.tup _ (.tup [.int x, optD (gt a x), optD (gt b x), optD (gt c x)]) _ _) _
        cases hch : ch (gt a x) (gt b x) (gt c x) with
        | some y =>
          rw [hch] at ch1
          have eg : gotO one a b c x = y := by unfold gotO chK; rw [hch]
          simp [ch1, lk, chD, in0]
          refine ⟨rfl, tl1 _, wp_lc (fun v => .tup [.int x, v]) (fun v hv => by simp) ?_⟩
          have ei : (y).toList.map (fun v => D.tup [.int x, v]) = itemL one a b c x := by unfold itemL; rw [eg]
          rw [ei, ex]
          simp
          exact ⟨done ++ [x], rest, by rw [ek]; simp, rfl, ef.symm⟩
        | none =>
          rw [hch] at ch1
          have eg : gotO one a b c x = if one then gt b x else gt c x := by unfold gotO chK; rw [hch]
          cases one with
          | true =>
            skip
            simp [ch1, lk, chD, inn, h1]
            refine ⟨rfl, tl1 _, wp_lc (fun v => .tup [.int x, v]) (fun v hv => by simp) ?_⟩
            have ei : (gt b x).toList.map (fun v => D.tup [.int x, v]) = itemL true a b c x := by unfold itemL; rw [eg]; rfl
            rw [ei, ex]
            simp
            exact ⟨done ++ [x], rest, by rw [ek]; simp, rfl, ef.symm⟩
          | false =>
            skip
            simp [ch1, lk, chD, inn, h1]
            refine ⟨rfl, tl1 _, wp_lc (fun v => .tup [.int x, v]) (fun v hv => by simp) ?_⟩
            have ei : (gt c x).toList.map (fun v => D.tup [.int x, v]) = itemL false a b c x := by unfold itemL; rw [eg]; rfl
            rw [ei, ex]
            simp
            exact ⟨done ++ [x], rest, by rw [ek]; simp, rfl, ef.symm⟩
    | true =>
      rw [hcl] at h2 hcc
      have he : (clL a b c).isEmpty = true := by
        cases hx : (clL a b c).isEmpty with
        | true => rfl
        | false => rw [hx] at hcc; cases hcc
      simp [co, h2, ne_tup_ints0, t3, hli, he]
      refine swp_loop (fun ds ρ μ => ∃ done rest x6 x7 x8 x9 x10, keysL a b c = done ++ rest ∧ ds = rest.map (fun k => rowD k (gt a k) (gt b k) (gt c k)) ∧ ρ = [some (prsD a), some (prsD b), some (prsD c), some (.str r), some (.tup ((clL a b c).map .int)), some (.ref 0), x6, x7, x8, x9, x10, none] ∧ μ = [.lst (done.flatMap (itemL one a b c))]) ?_ ?_ _ _ _ ⟨[], keysL a b c, none, none, none, none, none, rfl, rfl, rfl, rfl⟩
      · rintro ρ μ ⟨done, rest, x6, x7, x8, x9, x10, ek, e, rfl, rfl⟩
        have er : rest = [] := by cases rest with
          | nil => rfl
          | cons _ _ => cases e
        rw [er, List.append_nil] at ek
        have ft : ∀ xs : List D, F.tuple [.ref 0] [MO.lst xs] = .ok (.tup xs) [MO.lst xs] := fun xs => rfl
        simp [ft, foundL, ek]
      · rintro d ds ρ μ ⟨done, rest, x6, x7, x8, x9, x10, ek, e, rfl, rfl⟩
        cases rest with
        | nil => cases e
        | cons x rest =>
        obtain ⟨rfl, rfl⟩ := List.cons.inj e
        have ch1 := fun μ => chosen_ok (k + 1) (gt_okO h.pa x) (gt_okO h.pb x) (gt_okO h.pc x) μ
        have fl := flat_len one a b c done
        have il := item_len one a b c x
        have ll := congrArg List.length ek
        rw [List.length_append, List.length_cons] at ll
        have ex := extend_at (i := 0) (ys := done.flatMap (itemL one a b c)) (zs := itemL one a b c x) (μ := [.lst (done.flatMap (itemL one a b c))]) rfl (by omega)
        have ef : (done ++ [x]).flatMap (itemL one a b c) = done.flatMap (itemL one a b c) ++ itemL one a b c x := by simp
        have lk : ∀ o : Option D, Dp.Q.anyI (optD o) [.lst (done.flatMap (itemL one a b c))] = .ok o.toList [.lst (done.flatMap (itemL one a b c))] := fun o => by cases o <;> rfl
        have ok1 : RTy.list.ok (.ref 0) [.lst (done.flatMap (itemL one a b c))] = true := rfl
        have eg : gotO one a b c x = (match chK a b c x with
          | some y => y
          | none => if one then gt b x else gt c x) := rfl
        have tl1 : ∀ o : Option D, o.toList.length ≤ 16777216 := fun o => by cases o <;> simp
        have fin : ∀ {g : EG} {te : EE} {ρ0 : Dp.Loc} (o : Option D), gotO one a b c x = o → True := fun _ _ => trivial
        show gwp (G.tup _ (.tup [.int x, optD (gt a x), optD (gt b x), optD (gt c x)]) _ _) _
        cases hch : ch (gt a x) (gt b x) (gt c x) with
        | some y =>
          rw [hch] at ch1
          have eg : gotO one a b c x = y := by unfold gotO chK; rw [hch]
          simp [ch1, lk, chD, in0]
          refine ⟨rfl, tl1 _, wp_lc (fun v => .tup [.int x, v]) (fun v hv => by simp) ?_⟩
          have ei : (y).toList.map (fun v => D.tup [.int x, v]) = itemL one a b c x := by unfold itemL; rw [eg]
          rw [ei, ex]
          simp
          exact ⟨done ++ [x], rest, by rw [ek]; simp, rfl, ef.symm⟩
        | none =>
          rw [hch] at ch1
          have eg : gotO one a b c x = if one then gt b x else gt c x := by unfold gotO chK; rw [hch]
          cases one with
          | true =>
            skip
            simp [ch1, lk, chD, inn, h1]
            refine ⟨rfl, tl1 _, wp_lc (fun v => .tup [.int x, v]) (fun v hv => by simp) ?_⟩
            have ei : (gt b x).toList.map (fun v => D.tup [.int x, v]) = itemL true a b c x := by unfold itemL; rw [eg]; rfl
            rw [ei, ex]
            simp
            exact ⟨done ++ [x], rest, by rw [ek]; simp, rfl, ef.symm⟩
          | false =>
            skip
            simp [ch1, lk, chD, inn, h1]
            refine ⟨rfl, tl1 _, wp_lc (fun v => .tup [.int x, v]) (fun v hv => by simp) ?_⟩
            have ei : (gt c x).toList.map (fun v => D.tup [.int x, v]) = itemL false a b c x := by unfold itemL; rw [eg]; rfl
            rw [ei, ex]
            simp
            exact ⟨done ++ [x], rest, by rw [ek]; simp, rfl, ef.symm⟩
theorem need_rule_ok (k : Nat) {r : Str} (hr : ∀ μ, Op.notin (.str r) (.tup [.str "one", .str "other", .str "clash"]) μ = .ok (.bl false) μ) (μ : Mem) : call (k + 1) .need_rule [.str r] μ = .ok .non μ :=
  cv (by simp) rfl rfl (by simp [bodyOf, nsOf, B_need_rule, List.replicate_succ, Ty.has, hr])
theorem merged_ok (k : Nat) {r : Str} {one clash : Bool} (h1 : ∀ μ, Op.eq (.str r) (.str "one") μ = .ok (.bl one) μ) (h2 : ∀ μ, Op.eq (.str r) (.str "clash") μ = .ok (.bl clash) μ) (hr : ∀ μ, Op.notin (.str r) (.tup [.str "one", .str "other", .str "clash"]) μ = .ok (.bl false) μ)
    {a b c : List PR} (h : Th a b c) (μ : Mem) : call (k + 8) .merged [prsD a, prsD b, prsD c, .str r] μ = .ok (mergedD one clash a b c) μ := by
  obtain ⟨na, nb, nc⟩ := h.nr
  have n1 := fun μ => need_three_ok k h μ
  have n2 := fun μ => need_rule_ok (k + 6) hr μ
  have n3 := fun μ => merge_ok (k + 4) h1 h2 h μ
  exact cv (by simp [na, nb, nc]) (merged_nr one clash h) rfl (by simp [bodyOf, nsOf, B_merged, List.replicate_succ, n1, n2, n3])
end K56
namespace K56
open PySem PySem.Spec PyProof.Rows L2 Dp
@[simp] theorem e_sset {a : EE} {ρ : Dp.Loc} {μ : Mem} : E.sset a ρ μ = (a ρ μ).bind fun d μ => match seeL μ d with
  | some ds => (match intsD ds with
    | some ns => if ns.length ≤ 2000 ∧ (ssetL ns).length < 64 then .ok (.lst ((ssetL ns).map .int)) μ else .bad
    | none => .bad)
  | none => .bad := id rfl
@[simp] theorem seeL_lst {μ : Mem} {xs : List D} : seeL μ (.lst xs) = some xs := id rfl
theorem intsD_map : ∀ (ns : List Int), intsD (ns.map D.int) = some ns
  | [] => rfl
  | n :: ns => by rw [List.map_cons]; unfold intsD; rw [intsD_map ns]; rfl
theorem ne_ref0 {i : Nat} {xs : List D} {μ : Mem} (hi : μ[i]? = some (.lst xs)) (hp : plAll xs = true) : Op.ne (.ref i) (.lst []) μ = .ok (.bl (!xs.isEmpty)) μ := by
  have e : Op.ne (.ref i) (.lst []) μ = Op.ne (.lst xs) (.lst []) μ := by
    have h1 : view μ (.ref i) = some (.lst xs) := by unfold view; simp only [hi]; rw [if_pos hp]
    have h2 : view μ (.lst xs) = some (.lst xs) := view_of (by rw [D.pl]; exact hp)
    unfold Op.ne
    rw [h1, h2]
  rw [e, ne_pl (by rw [D.pl]; exact hp) rfl (by rw [show (D.lst []).py.depth = 1 from rfl]; omega)]
  congr 3
  cases xs with
  | nil => rfl
  | cons x xs => rw [D.py, D.py, pyAll, pyAll, PyData.eqv, PyData.eqvAll]; rfl
theorem def_wp {k : Nat} {f : Fn} {ds : List D} {μ : Mem} {Q : D → Mem → Prop} {X : Exn → Mem → Prop} (h : ds.all D.nr = true) (hl : npOf f = ds.length) (hb : mbOf f = false) (q : swp (bodyOf (call k) f (ds.map some ++ List.replicate (nsOf f - ds.length) none) []) fun fl μ' => match fl with
    | .ret d => wp (outD false [] μ' μ d) Q X
    | _ => False) : wp (call (k + 1) f ds μ) Q X := by
  have e : call (k + 1) f ds μ = proto (mbOf f) (runB (npOf f) (nsOf f) (bodyOf (call k) f)) ds μ := rfl
  rw [e, hb]
  refine wp_proto h (wp_runB hl.symm (swp_mono q fun fl μ' hf => ?_))
  cases fl with
  | ret d => exact hf
  | _ => exact hf.elim
/-! ### the law's own look, key by key -/
abbrev dO (ps : List PR) : MO := .dct (kP ps) (fP id ps)
theorem mdct_prs {ps : List PR} (h : PsOk ps) (μ : Mem) : F.mdct [prsD ps] μ = .ok (.ref μ.length) (μ ++ [dO ps]) := by
  have hm := mergeD_prs ps [] (by rw [List.nil_append]; exact h.nd)
  have hm : mergeD ([], []) (ps.map prD) = (kP ps, fP id ps) := hm
  unfold prsD
  show (if pairsh (ps.map prD) = true ∧ (ps.map prD).length ≤ 16777216 then _ else _) = _
  have hl := h.len
  rw [if_pos ⟨pairsh_prs ps, by rw [List.length_map]; omega⟩, hm]
theorem keyV_P (ps : List PR) : (kP ps).map keyV = (ps.map (·.1)).map D.int := by
  rw [List.map_map, List.map_map]; rfl
theorem isin_P {i : Nat} {ps : List PR} {μ : Mem} (hi : μ[i]? = some (dO ps)) (k : Int) : Op.isin (.int k) (.ref i) μ = .ok (.bl (gt ps k).isSome) μ := by
  have e : Op.mem (.int k) (.ref i) μ = some (dGet (kP ps) (fP id ps) (.inl k)).isSome := by
    have hs : seeD μ (.ref i) = some (kP ps, fP id ps) := by unfold seeD; simp only [hi]
    have hq : seeQ μ (.ref i) = none := by unfold seeQ; simp only [hi]
    unfold Op.mem
    simp only [hq, hs]
    rfl
  unfold Op.isin
  rw [e, dGet_P]
  cases gt ps k <;> rfl
theorem itemP {i : Nat} {ps : List PR} {μ : Mem} (hi : μ[i]? = some (dO ps)) {k : Int} {v : D} (e : gt ps k = some v) : Op.item (.ref i) (.int k) μ = .ok v μ :=
  item_dref hi (by rw [dGet_P, e]; rfl)
theorem listU_P {i : Nat} {ps : List PR} {μ : Mem} (hi : μ[i]? = some (dO ps)) : F.listU [.ref i] μ = .ok (.lst ((ps.map (·.1)).map .int)) μ := by
  have e : F.listU [.ref i] μ = .ok (.lst ((kP ps).map keyV)) μ := by
    have hs : seeD μ (.ref i) = some (kP ps, fP id ps) := by unfold seeD; simp only [hi]
    unfold F.listU
    simp only [hs]
  rw [e, keyV_P]
def isO0 (o : MO) : Prop := o = .lst [.ref 1, .ref 2, .ref 3] ∨ o = .flst [.ref 1, .ref 2, .ref 3]
theorem lthree_body (k : Nat) (r : ES) (hr : r = B__law_three (call k)) {a b c : List PR} (h : Th a b c) : swp (r [some (prsD a), some (prsD b), some (prsD c), none, none, none, none, none, none] []) fun fl μ' => match fl with
    | .ret d => d = .ref 4 ∧ ∃ m0 m1 m2 m3, μ' = [m0, m1, m2, m3, .lst (tL a b c)]
    | _ => False := by
  rw [hr]
  clear hr
  have hl := h.la
  have kl := keys_len a b c
  have q3 : ∀ μ, Dp.Q.anyI (.tup [prsD a, prsD b, prsD c]) μ = .ok [prsD a, prsD b, prsD c] μ := fun μ => rfl
  simp only [B__law_three]
  simp
  refine swp_loop (fun ds ρ μ => ∃ pre post x4, [a, b, c] = pre ++ post ∧ ds = post.map prsD ∧ ρ = [some (prsD a), some (prsD b), some (prsD c), some (.ref 0), x4, none, none, none, none] ∧ μ = .lst ((List.range pre.length).map fun i => .ref (i + 1)) :: pre.map dO) ?_ ?_ _ _ _ ⟨[], [a, b, c], none, rfl, rfl, rfl, rfl⟩
  · rintro ρ μ ⟨pre, post, x4, e1, e2, rfl, rfl⟩
    have ep : post = [] := by cases post with
      | nil => rfl
      | cons _ _ => cases e2
    rw [ep, List.append_nil] at e1
    subst e1
    have er : (List.map (fun i : Nat => D.ref (i + 1)) (List.range [a, b, c].length)) = [.ref 1, .ref 2, .ref 3] := rfl
    have l1 : ∀ g, F.listU [.ref 1] (MO.lst [.ref 1, .ref 2, .ref 3] :: dO a :: dO b :: dO c :: g) = .ok (.lst ((a.map (·.1)).map .int)) (MO.lst [.ref 1, .ref 2, .ref 3] :: dO a :: dO b :: dO c :: g) := fun g => listU_P rfl
    have l2 : ∀ g, F.listU [.ref 2] (MO.lst [.ref 1, .ref 2, .ref 3] :: dO a :: dO b :: dO c :: g) = .ok (.lst ((b.map (·.1)).map .int)) (MO.lst [.ref 1, .ref 2, .ref 3] :: dO a :: dO b :: dO c :: g) := fun g => listU_P rfl
    have l3 : ∀ g, F.listU [.ref 3] (MO.lst [.ref 1, .ref 2, .ref 3] :: dO a :: dO b :: dO c :: g) = .ok (.lst ((c.map (·.1)).map .int)) (MO.lst [.ref 1, .ref 2, .ref 3] :: dO a :: dO b :: dO c :: g) := fun g => listU_P rfl
    have a1 : ∀ μ, Op.add (.lst ((a.map (·.1)).map D.int)) (.lst ((b.map (·.1)).map D.int)) μ = .ok (.lst ((a.map (·.1) ++ b.map (·.1)).map D.int)) μ := fun μ => by rw [add_lst (by simp; omega), ← List.map_append]
    have a2 : ∀ μ, Op.add (.lst ((a.map (·.1) ++ b.map (·.1)).map D.int)) (.lst ((c.map (·.1)).map D.int)) μ = .ok (.lst (((a.map (·.1) ++ b.map (·.1)) ++ c.map (·.1)).map D.int)) μ := fun μ => by rw [add_lst (by simp; omega), ← List.map_append]
    have kk : ((a.map (·.1) ++ b.map (·.1)) ++ c.map (·.1)).length ≤ 2000 ∧ (ssetL ((a.map (·.1) ++ b.map (·.1)) ++ c.map (·.1))).length < 64 := ⟨by simp; omega, by
      have : (ssetL ((a.map (·.1) ++ b.map (·.1)) ++ c.map (·.1))).length = (keysL a b c).length := rfl
      omega⟩
    have ek : ssetL ((a.map (·.1) ++ b.map (·.1)) ++ c.map (·.1)) = keysL a b c := rfl
    rw [er]
    simp only [List.map_cons, List.map_nil, nextP, swp_seq, swp_par2, a_cons, a_nil, e_sset, e_call, e_op2, e_var, e_val, res_bind_ok, wp_bind, wp_ok, List.getElem?_cons_zero, List.getElem?_cons_succ]
    simp only [item_r00, item_r01, item_r02, l1, l2, l3, a1, a2, wp_ok, seeL_lst, intsD_map, if_pos kk, ek]
    simp
    refine ⟨⟨by omega, by omega⟩, ?_⟩
    refine swp_loop (fun ds ρ μ => ∃ done rest x7 o0, isO0 o0 ∧ keysL a b c = done ++ rest ∧ ds = rest.map D.int ∧ ρ = [some (prsD a), some (prsD b), some (prsD c), some (.ref 0), x4, some (.lst ((keysL a b c).map .int)), some (.ref 4), x7, none] ∧ μ = [o0, dO a, dO b, dO c, .lst (done.map fun k => rowD k (gt a k) (gt b k) (gt c k))]) ?_ ?_ _ _ _ ⟨[], keysL a b c, none, _, .inl rfl, rfl, rfl, rfl, rfl⟩
    · rintro ρ μ ⟨done, rest, x7, o0, ho, e1, e2, rfl, rfl⟩
      have ep : rest = [] := by cases rest with
        | nil => rfl
        | cons _ _ => cases e2
      rw [ep, List.append_nil] at e1
      rw [← e1]
      simp [tL]
    · rintro d ds ρ μ ⟨done, rest, x7, o0, ho, e1, e2, rfl, rfl⟩
      cases rest with
      | nil => cases e2
      | cons x rest =>
      obtain ⟨rfl, rfl⟩ := List.cons.inj e2
      have ll := congrArg List.length e1
      rw [List.length_append, List.length_cons] at ll
      have ms0 := anyI_ref (i := 0) (xs := [.ref 1, .ref 2, .ref 3]) (μ := [o0, dO a, dO b, dO c, .lst (done.map fun k => rowD k (gt a k) (gt b k) (gt c k))]) (by rcases ho with rfl | rfl; exact .inl rfl; exact .inr rfl)
      generalize hM : [MO.flst [.ref 1, .ref 2, .ref 3], dO a, dO b, dO c, .lst (done.map fun k => rowD k (gt a k) (gt b k) (gt c k))] = M
      have ms : Dp.Q.anyI (.ref 0) [o0, dO a, dO b, dO c, .lst (done.map fun k => rowD k (gt a k) (gt b k) (gt c k))] = .ok [.ref 1, .ref 2, .ref 3] M := by rw [ms0, ← hM]; rfl
      have m1 : M[1]? = some (dO a) := by rw [← hM]; rfl
      have m2 : M[2]? = some (dO b) := by rw [← hM]; rfl
      have m3 : M[3]? = some (dO c) := by rw [← hM]; rfl
      have m4 : M[4]? = some (.lst (done.map fun k => rowD k (gt a k) (gt b k) (gt c k))) := by rw [← hM]; rfl
      have ok4 : RTy.list.ok (.ref 4) [o0, dO a, dO b, dO c, .lst (done.map fun k => rowD k (gt a k) (gt b k) (gt c k))] = true := rfl
      have ap := append_at (i := 4) (ys := done.map fun k => rowD k (gt a k) (gt b k) (gt c k)) (μ := M) (d := rowD x (gt a x) (gt b x) (gt c x)) m4 (by simp; omega)
      have ad : ∀ μ, Op.add (.tup [.int x]) (.tup [optD (gt a x), optD (gt b x), optD (gt c x)]) μ = .ok (rowD x (gt a x) (gt b x) (gt c x)) μ := fun μ => by rw [add_tup (by simp)]; rfl
      simp [ms, ok4]
      refine wp_lcm (xs := [(1, a), (2, b), (3, c)]) (c := fun p : Nat × List PR => .ref p.1) (fun p => optD (gt p.2 x)) (fun p hp => ?_) ?_
      · have hm : M[p.1]? = some (dO p.2) := by
          simp only [List.mem_cons, List.not_mem_nil, or_false] at hp
          rcases hp with rfl | rfl | rfl
          · exact m1
          · exact m2
          · exact m3
        cases e : gt p.2 x with
        | none => simp [isin_P hm, e, optD]
        | some v => simp [isin_P hm, e, itemP hm e, optD]
      · simp [ad, ap]
        refine ⟨done ++ [x], rest, some (.int x), _, .inr rfl, by rw [e1]; simp, rfl, rfl, ?_⟩
        rw [← hM]; simp
  · rintro d ds ρ μ ⟨pre, post, x4, e1, e2, rfl, rfl⟩
    cases post with
    | nil => cases e2
    | cons p post =>
    obtain ⟨rfl, rfl⟩ := List.cons.inj e2
    have hp : PsOk p := by
      have : p ∈ [a, b, c] := by rw [e1]; simp
      simp only [List.mem_cons, List.not_mem_nil, or_false] at this
      rcases this with rfl | rfl | rfl
      · exact h.pa
      · exact h.pb
      · exact h.pc
    have hpl : pre.length ≤ 3 := by have := congrArg List.length e1; simp at this; omega
    simp [mdct_prs hp]
    have ap := append_at (i := 0) (ys := (List.range pre.length).map fun i => D.ref (i + 1)) (μ := MO.lst ((List.range pre.length).map fun i => D.ref (i + 1)) :: (pre.map dO ++ [dO p])) (d := .ref (pre.length + 1)) rfl (by simp; omega)
    rw [ap]
    simp
    exact ⟨rfl, pre ++ [p], post, by rw [e1]; simp, rfl, by simp [List.range_succ]⟩
end K56
namespace K56
open PySem PySem.Spec PyProof.Rows L2 Dp
theorem val_dat {d : D} (h : valOk d = true) : Dat 0 100 d := by
  cases d with
  | int i =>
    rw [valOk, decide_eq_true_eq] at h
    exact ⟨lf_int (by omega) (by omega), by simp, by simp⟩
  | str x =>
    rw [valOk, Bool.and_eq_true, decide_eq_true_eq] at h
    refine ⟨?_, by simp, by simp; exact h.1⟩
    rw [lf, List.all_eq_true]
    intro c hc
    have := List.all_eq_true.mp h.2 c hc
    unfold chrOk at this
    simp at this
    have h2 := this.2
    simp; omega
  | _ => cases h
theorem pr_dat {k : Int} {v : D} (hk : -1000000000000 ≤ k) (hk2 : k ≤ 1000000000000) (h : valOk v = true) : Dat 1 102 (.tup [.int k, v]) := by
  have g := val_dat h
  exact ⟨by simp; exact ⟨lf_int (by omega) (by omega), g.lf⟩, by have := g.dp; simp; omega, by have := g.bk; simp; omega⟩
theorem prs_dat {ps : List PR} (h : PsOk ps) : ∀ d ∈ ps.map prD, Dat 1 102 d := fun d hd => by
  obtain ⟨p, hp, rfl⟩ := List.mem_map.mp hd
  obtain ⟨a, b, c⟩ := prOk_iff.mp (h.pr p hp)
  exact pr_dat (by omega) (by omega) c
theorem tup_dat {ds : List D} {n b : Nat} (h : ∀ d ∈ ds, Dat n b d) : Dat (n + 1) ((b + 1) * ds.length) (.tup ds) :=
  ⟨by rw [lf_tup]; exact lfAll_of fun d hd => (h d hd).lf, by rw [dpt_tup]; have := dptAll_le fun d hd => (h d hd).dp; omega, by rw [blk_tup]; exact blkAll_le fun d hd => (h d hd).bk⟩
theorem prsD_dat {ps : List PR} (h : PsOk ps) : Dat 2 41200 (prsD ps) := by
  have := tup_dat (prs_dat h)
  rw [List.length_map] at this
  exact this.mono (by omega) (by have := h.len; omega)
theorem mem_ssetL {x : Int} : ∀ {ns : List Int}, x ∈ ssetL ns → x ∈ ns := by
  have ins : ∀ (y : Int) (l : List Int), x ∈ insU y l → x = y ∨ x ∈ l := by
    intro y l
    induction l with
    | nil => intro h; exact .inl (by simpa [insU] using h)
    | cons z zs ih =>
      intro h
      unfold insU at h
      split at h
      · rcases List.mem_cons.mp h with h | h
        · exact .inl h
        · exact .inr h
      · split at h
        · exact .inr h
        · rcases List.mem_cons.mp h with h | h
          · exact .inr (by rw [h]; exact List.mem_cons_self)
          · rcases ih h with h | h
            · exact .inl h
            · exact .inr (List.mem_cons_of_mem _ h)
  intro ns
  induction ns with
  | nil => intro h; exact h
  | cons n ns ih =>
    intro h
    rcases ins n (ssetL ns) h with h | h
    · rw [h]; exact List.mem_cons_self
    · exact List.mem_cons_of_mem _ (ih h)
theorem keys_in {a b c : List PR} (h : Th a b c) {k : Int} (hk : k ∈ keysL a b c) : 0 ≤ k ∧ k ≤ 999999999999 := by
  have := mem_ssetL hk
  have go : ∀ {ps : List PR}, PsOk ps → k ∈ ps.map (·.1) → 0 ≤ k ∧ k ≤ 999999999999 := fun {ps} hp hm => by
    obtain ⟨p, hp', rfl⟩ := List.mem_map.mp hm
    obtain ⟨a, b, _⟩ := prOk_iff.mp (hp.pr p hp')
    exact ⟨a, b⟩
  rcases List.mem_append.mp this with q | q
  · rcases List.mem_append.mp q with q | q
    · exact go h.pa q
    · exact go h.pb q
  · exact go h.pc q
theorem got_okO (one : Bool) {a b c : List PR} (h : Th a b c) (k : Int) : okO (gotO one a b c k) := by
  unfold gotO chK ch
  have g1 := gt_okO h.pb k
  have g2 := gt_okO h.pc k
  split
  · rename_i x e
    split at e
    · cases e; exact g1
    · split at e
      · cases e; exact g2
      · cases e
  · cases one
    · exact g2
    · exact g1
theorem found_dat (one : Bool) {a b c : List PR} (h : Th a b c) : ∀ d ∈ foundL one a b c, Dat 1 102 d := fun d hd => by
  obtain ⟨k, hk, hd⟩ := List.mem_flatMap.mp hd
  obtain ⟨v, hv, rfl⟩ := List.mem_map.mp hd
  have hv : gotO one a b c k = some v := by simpa using hv
  obtain ⟨k1, k2⟩ := keys_in h hk
  exact pr_dat (by omega) (by omega) (got_okO one h k v hv)
theorem str_dat {x : Str} (h : lf (.str x) = true) (hl : x.length ≤ 100) : Dat 3 20000 (.str x) := ⟨h, by simp, by simp; omega⟩
theorem merged_dat (one clash : Bool) {a b c : List PR} (h : Th a b c) : Dat 150 200000 (mergedD one clash a b c) := by
  have kl := keys_len a b c
  have hl := h.la
  have two : ∀ x y : D, Dat 3 20000 x → Dat 3 20000 y → Dat 150 200000 (.tup [x, y]) := fun x y hx hy => by
    have := tup_dat (ds := [x, y]) (n := 3) (b := 20000) (fun d hd => by
      simp only [List.mem_cons, List.not_mem_nil, or_false] at hd
      rcases hd with rfl | rfl <;> assumption)
    exact this.mono (by decide) (by simp)
  unfold mergedD
  split
  · refine two _ _ (str_dat (by decide +kernel) (by decide +kernel)) ?_
    have := tup_dat (ds := (clL a b c).map .int) (n := 0) (b := 0) (fun d hd => by
      obtain ⟨k, hk, rfl⟩ := List.mem_map.mp hd
      obtain ⟨k1, k2⟩ := keys_in h (List.mem_filter.mp hk).1
      exact ⟨lf_int (by omega) (by omega), by simp, by simp⟩)
    have l2 : (clL a b c).length ≤ (keysL a b c).length := List.length_filter_le _ _
    rw [List.length_map] at this
    exact this.mono (by omega) (by omega)
  · refine two _ _ (str_dat (by decide +kernel) (by decide +kernel)) ?_
    have := tup_dat (found_dat one h)
    have fl := flat_len one a b c (keysL a b c)
    have fl : (foundL one a b c).length ≤ (keysL a b c).length := fl
    exact this.mono (by omega) (by omega)
theorem lthree_ok (k : Nat) {a b c : List PR} (h : Th a b c) (μ : Mem) : call (k + 1) ._law_three [prsD a, prsD b, prsD c] μ = .ok (.lst (tL a b c)) μ := by
  obtain ⟨na, nb, nc⟩ := h.nr
  have w : wp (call (k + 1) ._law_three [prsD a, prsD b, prsD c] μ) (fun d μ' => d = .lst (tL a b c) ∧ μ' = μ) NoX := by
    refine def_wp (by simp [na, nb, nc]) rfl rfl (swp_mono (lthree_body k _ rfl h) fun f μ' hf => ?_)
    cases f with
    | ret d =>
      obtain ⟨rfl, m0, m1, m2, m3, rfl⟩ := hf
      have e : outD false [] [m0, m1, m2, m3, .lst (tL a b c)] μ (.ref 4) = .ok (.lst (tL a b c)) μ := by
        show (if MO.flat (.lst (tL a b c)) = true then _ else _) = _
        rw [if_pos (show MO.flat (.lst (tL a b c)) = true from plAll_nr _ (tL_pl h))]
        rfl
      show wp (outD false [] [m0, m1, m2, m3, .lst (tL a b c)] μ (.ref 4)) _ _
      rw [e]
      exact ⟨rfl, rfl⟩
    | _ => exact hf.elim
  obtain ⟨d, μ', e, rfl, rfl⟩ := wp_iff w fun _ _ h => h
  exact e
theorem eq_lst00 (μ : Mem) : Op.eq (.lst []) (.lst []) μ = .ok (.bl true) μ := by
  rw [eq_pl rfl rfl (by rw [show (D.lst []).py.depth = 1 from rfl]; omega)]
  rfl
theorem eq_lch {x : Option (Option D)} (h : ∀ y, x = some y → okO y) (μ : Mem) : Op.eq (lchD x) (.lst []) μ = .ok (.bl x.isNone) μ := by
  cases x with
  | none => exact eq_lst00 μ
  | some y =>
    have hy := h y rfl
    show Op.eq (.lst [optD y]) (.lst []) μ = _
    rw [eq_pl (by rw [D.pl, plAll, plAll, okO_pl hy]; rfl) rfl (by rw [show (D.lst []).py.depth = 1 from rfl]; omega)]
    rw [D.py, D.py, pyAll, pyAll, PyData.eqv, PyData.eqvAll]; rfl
theorem chK_okO {a b c : List PR} (h : Th a b c) (k : Int) : ∀ y, chK a b c k = some y → okO y := fun y e => by
  unfold chK ch at e
  split at e
  · cases e; exact gt_okO h.pb k
  · split at e
    · cases e; exact gt_okO h.pc k
    · cases e
theorem lmerged_ok (k : Nat) {r : Str} {one clash : Bool} (h1 : ∀ μ, Op.eq (.str r) (.str "one") μ = .ok (.bl one) μ) (h2 : ∀ μ, Op.eq (.str r) (.str "clash") μ = .ok (.bl clash) μ) {a b c : List PR} (h : Th a b c) (μ : Mem) :
    call (k + 2) ._law_merged [prsD a, prsD b, prsD c, .str r] μ = .ok (mergedD one clash a b c) μ := by
  obtain ⟨na, nb, nc⟩ := h.nr
  have hl := h.la
  have t3 := fun μ => lthree_ok k h μ
  have kl := keys_len a b c
  have hli : ∀ (xs : List D) μ, Dp.Q.anyI (.lst xs) μ = .ok xs μ := fun ns μ => rfl
  refine cv (by simp [na, nb, nc]) (merged_nr one clash h) rfl ?_
  simp only [bodyOf, nsOf, B__law_merged, List.map_cons, List.map_nil, List.replicate_succ, List.replicate_zero, List.length_cons, List.length_nil, List.cons_append, List.nil_append]
  simp [t3, hli]
  refine swp_loop (fun ds ρ μ => ∃ done rest x6 x7 x8 x9 x10, keysL a b c = done ++ rest ∧ ds = rest.map (fun k => rowD k (gt a k) (gt b k) (gt c k)) ∧ ρ = [some (prsD a), some (prsD b), some (prsD c), some (.str r), some (.lst (done.flatMap (itemL one a b c))), some (.ref 0), x6, x7, x8, x9, x10, none] ∧ μ = [.lst ((done.filter fun k => (chK a b c k).isNone).map .int)]) ?_ ?_ _ _ _ ⟨[], keysL a b c, none, none, none, none, none, rfl, rfl, rfl, rfl⟩
  · rintro ρ μ ⟨done, rest, x6, x7, x8, x9, x10, ek, e, rfl, rfl⟩
    have er : rest = [] := by cases rest with
      | nil => rfl
      | cons _ _ => cases e
    rw [er, List.append_nil] at ek
    rw [← ek]
    have hn := ne_ref0 (i := 0) (xs := (clL a b c).map D.int) (μ := [.lst ((clL a b c).map D.int)]) rfl (plAll_nums _)
    have ec : (keysL a b c).filter (fun k => (chK a b c k).isNone) = clL a b c := rfl
    rw [ec]
    have ft : F.tuple [.ref 0] [MO.lst ((clL a b c).map D.int)] = .ok (.tup ((clL a b c).map D.int)) [MO.lst ((clL a b c).map D.int)] := rfl
    have ef : (keysL a b c).flatMap (itemL one a b c) = foundL one a b c := rfl
    cases hcl : clash with
    | false =>
      rw [hcl] at h2
      simp [h2, mergedD, ef]
    | true =>
      rw [hcl] at h2
      cases hc : clL a b c with
      | nil =>
        rw [hc] at hn
        simp at hn
        simp [h2, mergedD, ef, hc, hn]
      | cons x xs =>
        rw [hc] at hn ft
        simp at hn ft
        simp [h2, mergedD, hc, hn, ft]
  · rintro d ds ρ μ ⟨done, rest, x6, x7, x8, x9, x10, ek, e, rfl, rfl⟩
    cases rest with
    | nil => cases e
    | cons x rest =>
    obtain ⟨rfl, rfl⟩ := List.cons.inj e
    have ch1 := fun μ => lchosen_ok k (gt_okO h.pa x) (gt_okO h.pb x) (gt_okO h.pc x) μ
    have eqc := fun μ => eq_lch (chK_okO h x) μ
    have fl := flat_len one a b c done
    have il := item_len one a b c x
    have ll := congrArg List.length ek
    rw [List.length_append, List.length_cons] at ll
    have fil : (done.filter fun k => (chK a b c k).isNone).length ≤ done.length := List.length_filter_le _ _
    have ap := append_at (i := 0) (ys := (done.filter fun k => (chK a b c k).isNone).map D.int) (d := .int x) (μ := [.lst ((done.filter fun k => (chK a b c k).isNone).map D.int)]) rfl (by rw [List.length_map]; omega)
    have ad : ∀ μ, Op.add (.lst (done.flatMap (itemL one a b c))) (.lst (itemL one a b c x)) μ = .ok (.lst (done.flatMap (itemL one a b c) ++ itemL one a b c x)) μ := fun μ => add_lst (by omega)
    have ef : (done ++ [x]).flatMap (itemL one a b c) = done.flatMap (itemL one a b c) ++ itemL one a b c x := by simp
    have lk : ∀ (o : Option D) μ, Dp.Q.anyI (optD o) μ = .ok o.toList μ := fun o μ => by cases o <;> rfl
    have ok1 : ∀ ys, RTy.list.ok (.ref 0) [MO.lst ys] = true := fun ys => rfl
    have tl1 : ∀ o : Option D, o.toList.length ≤ 16777216 := fun o => by cases o <;> simp
    have go : ∀ o : Option D, gotO one a b c x = o → (o.toList.map fun v => D.tup [.int x, v]) = itemL one a b c x := fun o e => by unfold itemL; rw [e]
    show gwp (G.tup _ (.tup [.int x, optD (gt a x), optD (gt b x), optD (gt c x)]) _ _) _
    cases hch : chK a b c x with
    | some y =>
      rw [hch] at eqc
      have hch' : ch (gt a x) (gt b x) (gt c x) = some y := hch
      rw [hch'] at ch1
      have eg : gotO one a b c x = y := by unfold gotO; rw [hch]
      have ly : lchD (some y) = .lst [optD y] := rfl
      simp [ch1, eqc]
      simp [ly, lk]
      refine ⟨tl1 _, wp_lc (fun v => .tup [.int x, v]) (fun v hv => by simp) ?_⟩
      rw [go _ eg, ad]
      simp
      exact ⟨done ++ [x], rest, by rw [ek]; simp, rfl, ef.symm, by simp [hch]⟩
    | none =>
      rw [hch] at eqc
      have hch' : ch (gt a x) (gt b x) (gt c x) = none := hch
      rw [hch'] at ch1
      have eg : gotO one a b c x = if one then gt b x else gt c x := by unfold gotO; rw [hch]
      cases hone : one with
      | true =>
        rw [hone] at h1 eg go ad ef
        simp only [if_true, Bool.false_eq_true, if_false] at eg
        simp [ch1, eqc, ok1, ap, h1]
        simp [lk]
        refine ⟨tl1 _, wp_lc (fun v => .tup [.int x, v]) (fun v hv => by simp) ?_⟩
        rw [go _ eg, ad]
        simp
        exact ⟨done ++ [x], rest, by rw [ek]; simp, rfl, ef.symm, by simp [hch]⟩
      | false =>
        rw [hone] at h1 eg go ad ef
        simp only [if_true, Bool.false_eq_true, if_false] at eg
        simp [ch1, eqc, ok1, ap, h1]
        simp [lk]
        refine ⟨tl1 _, wp_lc (fun v => .tup [.int x, v]) (fun v hv => by simp) ?_⟩
        rw [go _ eg, ad]
        simp
        exact ⟨done ++ [x], rest, by rw [ek]; simp, rfl, ef.symm, by simp [hch]⟩
end K56

set_option maxHeartbeats 4000000
namespace K56
open PySem PySem.Spec PyProof.Rows L2 Dp
@[simp] theorem q_zipF {as : EA} {ρ : Dp.Loc} {μ : Mem} : Dp.Q.zipF as ρ μ = (as ρ μ).bind fun ds μ => match ds with
  | [.lst xs, .lst ys] => if (Dp.Q.zipL xs ys).all Dp.Q.notPr = true then .ok (Dp.Q.zipL xs ys) μ else .bad
  | [.tup xs, .tup ys] => .ok (Dp.Q.zipL xs ys) μ
  | _ => .bad := id rfl
mutual
def tis : D → Bool
  | .int _ => true
  | .str _ => true
  | .tup xs => tisAll xs
  | _ => false
def tisAll : List D → Bool
  | [] => true
  | x :: xs => tis x && tisAll xs
end
theorem tisAll_mem : ∀ {xs : List D} {d : D}, tisAll xs = true → d ∈ xs → tis d = true
  | x :: xs, d, h, hd => by
    rw [tisAll, Bool.and_eq_true] at h
    rcases List.mem_cons.mp hd with g | g
    · rw [g]; exact h.1
    · exact tisAll_mem h.2 g
theorem tisAll_of : ∀ {xs : List D}, (∀ d ∈ xs, tis d = true) → tisAll xs = true
  | [], _ => rfl
  | x :: xs, h => by rw [tisAll, h x List.mem_cons_self, tisAll_of fun d hd => h d (List.mem_cons_of_mem _ hd)]; rfl
theorem eq_leaf {a b : D} (ha : lf a = true) (hb : lf b = true) (h : dpt a = 0 ∨ dpt b = 0) (μ : Mem) : Op.eq a b μ = .ok (.bl (PyData.eqv a.py b.py)) μ := by
  have h1 := py_dpt a ha
  have h2 := py_dpt b hb
  exact eq_pl (lf_pl _ ha) (lf_pl _ hb) (by omega)
theorem sameAll_lenN {xs ys : List D} (h : xs.length ≠ ys.length) : sameAll xs ys = false := by
  cases e : sameAll xs ys with
  | false => rfl
  | true => exact absurd (sameAll_len e) h
theorem zip_len {xs ys : List D} (h : xs.length = ys.length) : (Dp.Q.zipL xs ys).length = ys.length := by
  rw [zipL_map, List.length_map, List.length_zip]; omega
theorem same_gen : ∀ (n k : Nat) (a b : D) (μ : Mem), lf a = true → lf b = true → tis b = true → dpt b ≤ n → blk b ≤ 1000000 → call (n + k + 1) ._law_same [a, b] μ = .ok (.bl (sameB a b)) μ := by
  intro n
  induction n with
  | zero =>
    intro k a b μ ha hb ht hd _
    have na := pl_nr _ (lf_pl _ ha)
    have e := fun μ => eq_leaf ha hb (.inr (by omega)) μ
    cases b with
    | tup xs => rw [dpt] at hd; omega
    | int b => exact cv (by simp [na]) rfl rfl (by cases a <;> first | (rw [lf] at ha; cases ha; done) | (simp [bodyOf, nsOf, B__law_same, Ty.has, sameB, e]; done) | (simp [bodyOf, nsOf, B__law_same, Ty.has, sameB, e]; simp [D.py, PyData.eqv]; rfl))
    | str b => exact cv (by simp [na]) rfl rfl (by cases a <;> first | (rw [lf] at ha; cases ha; done) | (simp [bodyOf, nsOf, B__law_same, Ty.has, sameB, e]; done) | (simp [bodyOf, nsOf, B__law_same, Ty.has, sameB, e]; simp [D.py, PyData.eqv]; rfl))
    | _ => simp [tis] at ht
  | succ n ih =>
    intro k a b μ ha hb ht hd hk
    have na := pl_nr _ (lf_pl _ ha)
    have nb := pl_nr _ (lf_pl _ hb)
    rw [show n + 1 + k + 1 = (n + k + 1) + 1 by omega]
    cases b with
    | tup ys =>
      rw [lf] at hb
      rw [dpt] at hd
      rw [blk] at hk
      rw [tis] at ht
      have hlen := len_blk (xs := ys)
      cases a with
      | tup xs =>
        rw [lf] at ha
        refine cv (by rw [List.all_cons, List.all_cons, na, nb]; rfl) rfl rfl ?_
        by_cases hl : xs.length = ys.length
        · have zl := zip_len hl
          simp [bodyOf, nsOf, B__law_same, Ty.has, hl, zl, show ys.length ≤ 16777216 by omega]
          rw [zipL_map]
          refine wp_lcm (fun p : D × D => .bl (sameB p.1 p.2)) (fun p hp => ?_) ?_
          · obtain ⟨m1, m2⟩ := List.of_mem_zip (show (p.1, p.2) ∈ xs.zip ys from hp)
            have c := ih k p.1 p.2 [] (lfAll_mem ha _ m1) (lfAll_mem hb _ m2) (tisAll_mem ht m2) (by have := dpt_mem m2; omega) (by have := blk_mem m2; omega)
            simp [c]
          · rw [all_map, sameAll_zip hl]; simp [sameB]
        · have hs := sameAll_lenN hl
          have hl' : ¬ ((xs.length : Int) = ys.length) := by omega
          simp [bodyOf, nsOf, B__law_same, Ty.has, hl', hl, sameB, hs]
      | _ => first | (rw [lf] at ha; cases ha; done) | exact cv (by rw [List.all_cons, List.all_cons, na, nb]; rfl) rfl rfl (by simp [bodyOf, nsOf, B__law_same, Ty.has, sameB])
    | int b =>
      have e := fun μ => eq_leaf ha hb (.inr (by simp)) μ
      exact cv (by simp [na]) rfl rfl (by cases a <;> first | (rw [lf] at ha; cases ha; done) | (simp [bodyOf, nsOf, B__law_same, Ty.has, sameB, e]; done) | (simp [bodyOf, nsOf, B__law_same, Ty.has, sameB, e]; simp [D.py, PyData.eqv]; rfl))
    | str b =>
      have e := fun μ => eq_leaf ha hb (.inr (by simp)) μ
      exact cv (by simp [na]) rfl rfl (by cases a <;> first | (rw [lf] at ha; cases ha; done) | (simp [bodyOf, nsOf, B__law_same, Ty.has, sameB, e]; done) | (simp [bodyOf, nsOf, B__law_same, Ty.has, sameB, e]; simp [D.py, PyData.eqv]; rfl))
    | _ => simp [tis] at ht
theorem like_gen : ∀ (n k : Nat) (a b : D) (μ : Mem), lf a = true → lf b = true → tis b = true → dpt b ≤ n → blk b ≤ 1000000 → call (n + k + 1) .is_like [a, b] μ = .ok (.bl (sameB a b)) μ := by
  intro n
  induction n with
  | zero =>
    intro k a b μ ha hb ht hd _
    have na := pl_nr _ (lf_pl _ ha)
    have e := fun μ => eq_leaf ha hb (.inr (by omega)) μ
    cases b with
    | tup xs => rw [dpt] at hd; omega
    | int b => exact cv (by simp [na]) rfl rfl (by cases a <;> first | (rw [lf] at ha; cases ha; done) | (simp [bodyOf, nsOf, B_is_like, Ty.has, sameB, e]; done) | (simp [bodyOf, nsOf, B_is_like, Ty.has, sameB, e]; simp [D.py, PyData.eqv]; rfl))
    | str b => exact cv (by simp [na]) rfl rfl (by cases a <;> first | (rw [lf] at ha; cases ha; done) | (simp [bodyOf, nsOf, B_is_like, Ty.has, sameB, e]; done) | (simp [bodyOf, nsOf, B_is_like, Ty.has, sameB, e]; simp [D.py, PyData.eqv]; rfl))
    | _ => simp [tis] at ht
  | succ n ih =>
    intro k a b μ ha hb ht hd hk
    have na := pl_nr _ (lf_pl _ ha)
    have nb := pl_nr _ (lf_pl _ hb)
    rw [show n + 1 + k + 1 = (n + k + 1) + 1 by omega]
    cases b with
    | tup ys =>
      rw [lf] at hb
      rw [dpt] at hd
      rw [blk] at hk
      rw [tis] at ht
      have hlen := len_blk (xs := ys)
      cases a with
      | tup xs =>
        rw [lf] at ha
        refine cv (by rw [List.all_cons, List.all_cons, na, nb]; rfl) rfl rfl ?_
        by_cases hl : xs.length = ys.length
        · have zl := zip_len hl
          simp [bodyOf, nsOf, B_is_like, Ty.has, hl, zl, show ys.length ≤ 16777216 by omega]
          rw [zipL_map]
          refine wp_lcm (fun p : D × D => .bl (sameB p.1 p.2)) (fun p hp => ?_) ?_
          · obtain ⟨m1, m2⟩ := List.of_mem_zip (show (p.1, p.2) ∈ xs.zip ys from hp)
            have c := ih k p.1 p.2 [] (lfAll_mem ha _ m1) (lfAll_mem hb _ m2) (tisAll_mem ht m2) (by have := dpt_mem m2; omega) (by have := blk_mem m2; omega)
            simp [c]
          · rw [all_map, sameAll_zip hl]; simp [sameB]
        · have hs := sameAll_lenN hl
          have hl' : ¬ ((xs.length : Int) = ys.length) := by omega
          simp [bodyOf, nsOf, B_is_like, Ty.has, hl', hl, sameB, hs]
      | _ => first | (rw [lf] at ha; cases ha; done) | exact cv (by rw [List.all_cons, List.all_cons, na, nb]; rfl) rfl rfl (by simp [bodyOf, nsOf, B_is_like, Ty.has, sameB])
    | int b =>
      have e := fun μ => eq_leaf ha hb (.inr (by simp)) μ
      exact cv (by simp [na]) rfl rfl (by cases a <;> first | (rw [lf] at ha; cases ha; done) | (simp [bodyOf, nsOf, B_is_like, Ty.has, sameB, e]; done) | (simp [bodyOf, nsOf, B_is_like, Ty.has, sameB, e]; simp [D.py, PyData.eqv]; rfl))
    | str b =>
      have e := fun μ => eq_leaf ha hb (.inr (by simp)) μ
      exact cv (by simp [na]) rfl rfl (by cases a <;> first | (rw [lf] at ha; cases ha; done) | (simp [bodyOf, nsOf, B_is_like, Ty.has, sameB, e]; done) | (simp [bodyOf, nsOf, B_is_like, Ty.has, sameB, e]; simp [D.py, PyData.eqv]; rfl))
    | _ => simp [tis] at ht
/-! ### a bent value -/
def AA : Nat := 1000000000000000000000000000000
def BB : Nat := 1000000000000000000000000000010
theorem pick_wp (k : Nat) (t : Int) (ht : t ≤ 1000000) (L : List D) {R : D → Prop} (hL : ∀ d ∈ L, R d) (n : Int) (hn : n = L.length) (h0 : L ≠ []) (hl : L.length ≤ 1000) {xs : List D} {μ : Mem} (hd : DeckOk t xs) {Q : D → Mem → Prop} {X : Exn → Mem → Prop}
    (q : ∀ d xs', R d → DeckOk (t + 1) xs' → Q d (.lst xs' :: μ)) : wp (call (k + 1) ._law_draw [.ref 0, .int n] (.lst xs :: μ)) (fun v μ' => wp (Op.item (.lst L) v μ') Q X) X := by
  subst hn
  have : 0 < L.length := List.length_pos_iff.mpr h0
  refine draw0 k L.length t (by omega) (by omega) ht hd fun v x1 a1 b1 d1 => ?_
  obtain ⟨d, hd, e⟩ := item_inD (xs := L) (v := v) (μ := .lst x1 :: μ) a1 b1
  rw [e]
  exact q d x1 (hL d hd) d1
def bentP (v : D) (u : Int) : Fl → Mem → Prop := fun f μ' => match f with
  | .ret d => BT BB v d ∧ ∃ xs' r, μ' = .lst xs' :: r ∧ DeckOk u xs'
  | _ => False
theorem bentP_mk {v d : D} {u : Int} {z : List D} {r : Mem} (h : BT BB v d) (hz : DeckOk u z) : bentP v u (.ret d) (.lst z :: r) := ⟨h, z, r, rfl, hz⟩
theorem neg1 (μ : Mem) : Op.neg (.int 1) μ = .ok (.int (-1)) μ := rfl
theorem rv_tup (ys : List D) (μ : Mem) : Op.rev (.tup ys) μ = .ok (.tup ys.reverse) μ := rfl
theorem bt55 {v : D} : BT BB v (.tup [.tup [.int 5, .int 5]]) := ⟨by decide, by simp, by simp⟩
def waysS (c : CF) : ES := S.seq (S.asg (E.lst (A.cons (E.val .non) (A.cons (E.tup (A.nil)) (A.cons (E.val (.int 0)) (A.cons (E.val (.bl true)) (A.cons (E.val (.str "x")) (A.cons (E.val (.str "merged")) (A.cons (E.val (.str "clash")) (A.cons (E.lst (A.nil)) (A.cons (E.tup (A.cons (E.tup (A.cons (E.val (.int 5)) (A.cons (E.val (.int 5)) (A.nil)))) (A.nil))) (A.cons (E.var 1) (A.nil)))))))))))) (G.name 2))
    (S.seq (S.ite (T.of (E.op1 (Op.isTy .tup) (E.var 1))) (S.asg (E.op2 Op.add (E.var 2) (E.lst (A.cons (E.call F.list (A.cons (E.var 1) (A.nil))) (A.cons (E.slice (E.var 1) (Prt.no) (Prt.of (E.op1 Op.neg (E.val (.int 1))))) (A.cons (E.slice (E.var 1) (Prt.of (E.val (.int 1))) (Prt.no)) (A.cons (E.op2 Op.add (E.var 1) (E.slice (E.var 1) (Prt.no) (Prt.of (E.val (.int 1))))) (A.cons (E.op1 Op.rev (E.var 1)) (A.nil)))))))) (G.name 2)) (S.nil))
    (S.seq (S.ite (T.of (E.op1 (Op.isTy .int) (E.var 1))) (S.asg (E.op2 Op.add (E.var 2) (E.lst (A.cons (E.op2 Op.add (E.var 1) (E.val (.int 1))) (A.cons (E.call F.str (A.cons (E.var 1) (A.nil))) (A.cons (E.op2 Op.eq (E.var 1) (E.val (.int 1))) (A.cons (E.op1 Op.neg (E.var 1)) (A.nil))))))) (G.name 2)) (S.nil))
    (S.ret (E.op2 Op.item (E.var 2) (E.call (c ._law_draw) (A.cons (E.var 0) (A.cons (E.call F.len (A.cons (E.var 2) (A.nil))) (A.nil))))))))
def recS (c : CF) : ES := S.seq (S.asg (E.call (c ._law_draw) (A.cons (E.var 0) (A.cons (E.call F.len (A.cons (E.var 1) (A.nil))) (A.nil)))) (G.name 3)) (S.ret (E.op2 Op.add (E.op2 Op.add (E.slice (E.var 1) (Prt.no) (Prt.of (E.var 3))) (E.tup (A.cons (E.call (c ._law_bent) (A.cons (E.var 0) (A.cons (E.op2 Op.item (E.var 1) (E.var 3)) (A.nil)))) (A.nil)))) (E.slice (E.var 1) (Prt.of (E.op2 Op.add (E.var 3) (E.val (.int 1)))) (Prt.no))))
theorem bent_eq (c : CF) : B__law_bent c = S.seq (S.ite (T.or (T.not (T.of (E.op1 (Op.isTy .tup) (E.var 1)))) (T.or (T.ofB (E.op2 Op.eq (E.var 1) (E.tup (A.nil)))) (T.ofB (E.op2 Op.eq (E.call (c ._law_draw) (A.cons (E.var 0) (A.cons (E.val (.int 5)) (A.nil)))) (E.val (.int 0)))))) (waysS c) (S.nil)) (recS c) := rfl
theorem lit1 (s : String) (h : (Str.ofString s).length ≤ 200 := by decide +kernel) {v : D} : BT BB v (.str s) := bt_lit s h
theorem ways_ok (k : Nat) (v : D) (hv : lfI AA v = true) (ht : tis v = true) (hb : blk v ≤ 60000) (t : Int) (ht9 : t ≤ 900000) {xs : List D} (hd : DeckOk t xs) (x2 x3 : Option D) :
    swp (waysS (call (k + 1)) [some (.ref 0), some v, x2, x3] [.lst xs]) (bentP v (t + 1)) := by
  have hA : AA = 1000000000000000000000000000000 := rfl
  have hB : BB = 1000000000000000000000000000010 := rfl
  have hAB : AA ≤ BB := by decide
  have sm := bt_same (v := v) hAB hv
  have fl : ∀ (xs : List D) μ, F.len [.lst xs] μ = .ok (.int xs.length) μ := fun xs μ => rfl
  have h55 : BT BB v (.tup [.tup [.int 5, .int 5]]) := bt55
  cases v with
  | int i =>
    rw [lfI_int, decide_eq_true_eq] at hv
    obtain ⟨s, hs1, hs2, hs3⟩ := str_textI (i := i) (by omega)
    unfold waysS
    simp [Ty.has, hs1]
    rw [add_lst (by simp)]
    simp
    refine pick_wp k t (by omega) _ (R := BT BB (.int i)) ?_ _ (by simp) (by simp) (by simp) hd fun d x1 g1 d1 => bentP_mk g1 d1
    simp only [List.forall_mem_cons, List.forall_mem_nil]
    exact ⟨bt_non, bt_nil, bt_int (by decide), bt_bl, lit1 "x", lit1 "merged", lit1 "clash", bt_lnil, h55, sm, bt_int (by omega), bt_text hs2 (by omega), bt_bl, bt_int (by omega), fun _ h => by cases h⟩
  | str x =>
    unfold waysS
    simp [Ty.has]
    refine pick_wp k t (by omega) _ (R := BT BB (.str x)) ?_ _ (by simp) (by simp) (by simp) hd fun d x1 g1 d1 => bentP_mk g1 d1
    simp only [List.forall_mem_cons, List.forall_mem_nil]
    exact ⟨bt_non, bt_nil, bt_int (by decide), bt_bl, lit1 "x", lit1 "merged", lit1 "clash", bt_lnil, h55, sm, fun _ h => by cases h⟩
  | tup ys =>
    rw [lfI_tup] at hv
    rw [blk] at hb
    have hl := len_blk (xs := ys)
    have li : ∀ μ, F.list [.tup ys] μ = .ok (.lst ys) μ := fun μ => list_tup
    have c1 := cutD_len ys none (some 1)
    have b1 := cutD_blk ys none (some 1)
    have b2 := cutD_blk ys (some 1) none
    have b3 := cutD_blk ys none (some (-1))
    have ad1 : ∀ μ, Op.add (.tup ys) (.tup (Dp.cutD ys none (some 1))) μ = .ok (.tup (ys ++ Dp.cutD ys none (some 1))) μ := fun μ => add_tup (by omega)
    unfold waysS
    simp [Ty.has, slice_tupD, neg1, rv_tup, li, ad1]
    rw [add_lst (by simp)]
    simp
    refine pick_wp k t (by omega) _ (R := BT BB (.tup ys)) ?_ _ (by simp) (by simp) (by simp) hd fun d x1 g1 d1 => bentP_mk g1 d1
    simp only [List.forall_mem_cons, List.forall_mem_nil]
    refine ⟨bt_non, bt_nil, bt_int (by decide), bt_bl, lit1 "x", lit1 "merged", lit1 "clash", bt_lnil, h55, sm, (bt_items hAB hv (fun d h => h) (by omega)).2.1, (bt_items hAB hv (fun d h => cutD_mem d h) (by omega)).1, (bt_items hAB hv (fun d h => cutD_mem d h) (by omega)).1, (bt_items hAB hv (fun d h => (List.mem_append.mp h).elim id (cutD_mem d)) (by rw [blkAll_append]; omega)).1, (bt_items hAB hv (fun d h => List.mem_reverse.mp h) (by rw [blkAll_rev]; omega)).1, fun _ h => by cases h⟩
  | _ => simp [tis] at ht
theorem eq_tup0' {xs : List D} (h : plAll xs = true) (μ : Mem) : Op.eq (.tup xs) (.tup []) μ = .ok (.bl xs.isEmpty) μ := eq_tup0 h
theorem bent_gen : ∀ (n k : Nat) (v : D), lfI AA v = true → tis v = true → dpt v ≤ n → blk v ≤ 60000 → ∀ (t : Int), t + 3 * (n : Int) ≤ 800000 → n ≤ 100 → ∀ {i : Nat} {xs : List D} {μ : Mem}, μ[i]? = some (.lst xs) → DeckOk t xs → ∀ {Q : D → Mem → Prop} {X : Exn → Mem → Prop},
    (∀ d xs', BT BB v d → DeckOk (t + 3 * ((n : Int) + 1)) xs' → Q d (μ.set i (.lst xs'))) → wp (call (n + k + 2) ._law_bent [.ref i, v] μ) Q X := by
  intro n
  induction n with
  | zero =>
    intro k v hv ht hd hb t ht9 hn i xs μ hi hdk Q X q
    rw [show 0 + k + 2 = (k + 1) + 1 by omega]
    refine deck_def (R := fun d => BT BB v d) (u := t + 3) rfl (by simp [pl_nr _ (lf_pl _ (lfI_lf (by decide) v hv))]) (fun d h => h.nr (by decide)) ?_ hi hdk fun d xs' h1 h2 => q d xs' h1 (h2.le (by simp))
    intro xs hd1
    show swp (B__law_bent (call (k + 1)) [some (.ref 0), some v, none, none] [.lst xs]) _
    rw [bent_eq, swp_seq]
    have w := ways_ok k v hv ht hb t (by omega) hd1 none none
    generalize waysS (call (k + 1)) = W at w
    have hnt : ∀ μ, Op.isTy .tup v μ = .ok (.bl false) μ := fun μ => by
      cases v with
      | tup ys => rw [dpt] at hd; omega
      | int i => rfl
      | str i => rfl
      | _ => simp [tis] at ht
    simp [hnt]
    refine swp_mono w fun f μ' hf => ?_
    cases f with
    | ret d =>
      obtain ⟨h1, xs', r, rfl, h2⟩ := hf
      exact ⟨h1, xs', ⟨r, rfl⟩, h2.le (by omega)⟩
    | _ => exact hf.elim
  | succ n ih =>
    intro k v hv ht hd hb t ht9 hn i xs μ hi hdk Q X q
    rw [show n + 1 + k + 2 = (n + k + 2) + 1 by omega]
    have lfv : lf v = true := lfI_lf (by decide) v hv
    refine deck_def (R := fun d => BT BB v d) (u := t + 3 * ((n : Int) + 2)) rfl (by simp [pl_nr _ (lf_pl _ lfv)]) (fun d h => h.nr (by decide)) ?_ hi hdk fun d xs' h1 h2 => q d xs' h1 (h2.le (by omega))
    intro xs hd1
    show swp (B__law_bent (call (n + k + 2)) [some (.ref 0), some v, none, none] [.lst xs]) _
    rw [bent_eq, swp_seq]
    have w := fun (t' : Int) (h' : t' ≤ 900000) (ys : List D) (hy : DeckOk t' ys) => ways_ok (n + k + 1) v hv ht hb t' h' hy none none
    rw [show n + k + 1 + 1 = n + k + 2 by omega] at w
    generalize waysS (call (n + k + 2)) = W at w
    cases v with
    | int i =>
      simp [Ty.has]
      exact swp_mono (w t (by omega) xs hd1) fun f μ' hf => by
        cases f with
        | ret d =>
          obtain ⟨h1, xs', r, rfl, h2⟩ := hf
          exact ⟨h1, xs', ⟨r, rfl⟩, h2.le (by omega)⟩
        | _ => exact hf.elim
    | str i =>
      simp [Ty.has]
      exact swp_mono (w t (by omega) xs hd1) fun f μ' hf => by
        cases f with
        | ret d =>
          obtain ⟨h1, xs', r, rfl, h2⟩ := hf
          exact ⟨h1, xs', ⟨r, rfl⟩, h2.le (by omega)⟩
        | _ => exact hf.elim
    | tup ys =>
      have hpl : plAll ys = true := by have := lf_pl _ lfv; rw [D.pl] at this; exact this
      cases ys with
      | nil =>
        have e0 := eq_tup0' (xs := []) rfl
        simp [Ty.has, e0]
        exact swp_mono (w t (by omega) xs hd1) fun f μ' hf => by
          cases f with
          | ret d =>
            obtain ⟨h1, xs', r, rfl, h2⟩ := hf
            exact ⟨h1, xs', ⟨r, rfl⟩, h2.le (by omega)⟩
          | _ => exact hf.elim
      | cons y ys =>
        generalize hz : y :: ys = zs at *
        have hne : zs.isEmpty = false := by rw [← hz]; rfl
        have hpos : 0 < zs.length := by rw [← hz]; simp
        have e0 := eq_tup0' hpl
        rw [hne] at e0
        simp [Ty.has, e0]
        refine draw0 (n + k + 1) 5 t (by decide) (by decide) (by omega) hd1 fun c ys1 ac bc d1 => ?_
        by_cases hc : c = 0
        · simp [hc]
          exact swp_mono (w (t + 1) (by omega) ys1 d1) fun f μ' hf => by
            cases f with
            | ret d =>
              obtain ⟨h1, xs', r, rfl, h2⟩ := hf
              exact ⟨h1, xs', ⟨r, rfl⟩, h2.le (by omega)⟩
            | _ => exact hf.elim
        · simp [hc]
          unfold recS
          rw [lfI_tup] at hv
          rw [dpt] at hd
          rw [blk] at hb
          rw [tis] at ht
          have hlen := len_blk (xs := zs)
          simp
          refine draw0 (n + k + 1) zs.length (t + 1) (by omega) (by omega) (by omega) d1 fun c2 ys2 a2 b2 d2 => ?_
          obtain ⟨at_, rfl⟩ : ∃ j : Nat, c2 = j := ⟨c2.toNat, by omega⟩
          have hat : at_ < zs.length := by omega
          have hx : zs[at_]? = some zs[at_] := List.getElem?_eq_getElem hat
          have hm := List.getElem_mem hat
          have s1 : ∀ μ, Op.slice (.tup zs) none (some (at_ : Int)) μ = .ok (.tup (zs.take at_)) μ := fun μ => slice_pre (by omega)
          have s2 : ∀ μ, Op.slice (.tup zs) (some ((at_ : Int) + 1)) none μ = .ok (.tup (zs.drop (at_ + 1))) μ := fun μ => slice_suf (n := at_ + 1) (by omega)
          have s3 : ∀ μ, Op.item (.tup zs) (.int (at_ : Int)) μ = .ok zs[at_] μ := fun μ => by rw [item_tup (by omega), Int.toNat_natCast, hx]; rfl
          simp [s1, s3]
          refine ih k zs[at_] (lfIAll_iff.mp hv _ hm) (tisAll_mem ht hm) (by have := dpt_mem hm; omega) (by have := blk_mem hm; omega) (t + 1 + 1) (by omega) (by omega) (i := 0) rfl d2 fun e ys3 he d3 => ?_
          have a1 : ∀ μ, Op.add (.tup (zs.take at_)) (.tup [e]) μ = .ok (.tup (zs.take at_ ++ [e])) μ := fun μ => add_tup (by simp; omega)
          have a2 : ∀ μ, Op.add (.tup (zs.take at_ ++ [e])) (.tup (zs.drop (at_ + 1))) μ = .ok (.tup ((zs.take at_ ++ [e]) ++ zs.drop (at_ + 1))) μ := fun μ => add_tup (by simp; omega)
          simp [a1, s2, a2]
          exact ⟨bt_at (by decide) hx hv he, d3.le (by omega)⟩
    | _ => simp [tis] at ht
end K56

set_option maxHeartbeats 4000000
namespace K56
open PySem PySem.Spec PyProof.Rows L2 Dp
def sd0 (c : CF) : ES := S.asg (E.call (c ._law_hands) (A.cons (E.var 0) (A.cons (E.val (.int 6)) (A.nil)))) (G.tup (G.cons (G.name 1) (G.cons (G.name 2) (G.cons (G.name 3) (G.nil)))))
def sd1 (c : CF) : ES := S.asg (E.op2 Op.item (E.lst (A.cons (E.val (.str "one")) (A.cons (E.val (.str "other")) (A.cons (E.val (.str "clash")) (A.cons (E.val (.str "clash")) (A.nil)))))) (E.call (c ._law_draw) (A.cons (E.var 0) (A.cons (E.val (.int 4)) (A.nil))))) (G.name 4)
def sd2 (c : CF) : ES := S.asg (E.call (c ._law_merged) (A.cons (E.var 1) (A.cons (E.var 2) (A.cons (E.var 3) (A.cons (E.var 4) (A.nil)))))) (G.name 5)
def sd3 (c : CF) : ES := S.asg (E.mlst (A.cons (E.var 5) (A.cons (E.call (c ._law_merged) (A.cons (E.var 1) (A.cons (E.var 2) (A.cons (E.var 3) (A.cons (E.val (.str "one")) (A.nil)))))) (A.cons (E.call (c ._law_merged) (A.cons (E.var 1) (A.cons (E.var 2) (A.cons (E.var 3) (A.cons (E.val (.str "other")) (A.nil)))))) (A.cons (E.val .non) (A.nil)))))) (G.name 6)
def sd4 (c : CF) : ES := S.asg (E.op2 Op.madd (E.var 6) (E.lst (A.cons (E.tup (A.cons (E.val (.str "merged")) (A.nil))) (A.cons (E.tup (A.cons (E.val (.str "clash")) (A.cons (E.tup (A.nil)) (A.nil)))) (A.nil))))) (G.name 6)
def sd5_0 (c : CF) : ES := S.expr (E.meth .list Mt.append (E.var 6) (A.cons (E.call (c ._law_bent) (A.cons (E.var 0) (A.cons (E.var 5) (A.nil)))) (A.nil)))
def sd5_b (c : CF) : ES := sd5_0 c
def sd5 (c : CF) : ES := S.for_ (Q.range1 (A.cons (E.val (.int 8)) (A.nil))) (G.name 7) (sd5_b c)
def sd6_0 (c : CF) : ES := S.par2 10 11 (A.cons (E.call (c ._law_same) (A.cons (E.var 8) (A.cons (E.var 5) (A.nil)))) (A.cons (E.call F.repr (A.cons (E.var 8) (A.nil))) (A.nil)))
def sd6_1 (c : CF) : ES := S.asg (E.mlst (A.cons (E.call (c .merge_holds) (A.cons (E.var 1) (A.cons (E.var 2) (A.cons (E.var 3) (A.cons (E.var 4) (A.cons (E.var 8) (A.nil))))))) (A.nil))) (G.name 9)
def sd6_2 (c : CF) : ES := S.expr (E.meth .list Mt.append (E.var 9) (A.cons (E.callK (c .merge_holds) (fun ds es => pick [4, 3, 2, 1, 0] (ds ++ es)) A.nil (A.cons (E.var 8) (A.cons (E.var 4) (A.cons (E.var 3) (A.cons (E.var 2) (A.cons (E.var 1) (A.nil))))))) (A.nil)))
def sd6_3 (c : CF) : ES := S.ite (T.or (T.ofB (E.op2 Op.ne (E.call F.repr (A.cons (E.var 9) (A.nil))) (E.call F.repr (A.cons (E.lst (A.cons (E.var 10) (A.cons (E.var 10) (A.nil)))) (A.nil))))) (T.ofB (E.op2 Op.ne (E.call F.repr (A.cons (E.var 8) (A.nil))) (E.var 11)))) (S.ret (E.val (.bl false))) (S.nil)
def sd6_b (c : CF) : ES := S.seq (sd6_0 c) (S.seq (sd6_1 c) (S.seq (sd6_2 c) (sd6_3 c)))
def sd6 (c : CF) : ES := S.for_ (Q.any (E.var 6)) (G.name 8) (sd6_b c)
def sd7 (c : CF) : ES := S.ret (E.val (.bl true))
theorem sd_eq (c : CF) : B__law_right c = S.seq (sd0 c) (S.seq (sd1 c) (S.seq (sd2 c) (S.seq (sd3 c) (S.seq (sd4 c) (S.seq (sd5 c) (S.seq (sd6 c) (sd7 c))))))) := rfl
theorem val_fine {d : D} (h : valOk d = true) : lfI AA d = true ∧ tis d = true ∧ dpt d = 0 ∧ blk d ≤ 100 := by
  have hA : AA = 1000000000000000000000000000000 := rfl
  cases d with
  | int i =>
    rw [valOk, decide_eq_true_eq] at h
    refine ⟨by rw [lfI_int]; exact decide_eq_true (by omega), rfl, by simp, by simp⟩
  | str x =>
    have g := val_dat h
    have l := g.lf
    rw [lf] at l
    exact ⟨by rw [lfI]; exact l, rfl, by simp, g.bk⟩
  | _ => cases h
structure Fine (n b : Nat) (d : D) : Prop where
  lf : lfI AA d = true
  ti : tis d = true
  dp : dpt d ≤ n
  bk : blk d ≤ b
theorem fine_tup {ds : List D} {n b : Nat} (h : ∀ d ∈ ds, Fine n b d) : Fine (n + 1) ((b + 1) * ds.length) (.tup ds) :=
  ⟨by rw [lfI_tup]; exact lfIAll_iff.mpr fun d hd => (h d hd).lf, by rw [tis]; exact tisAll_of fun d hd => (h d hd).ti, by rw [dpt_tup]; have := dptAll_le fun d hd => (h d hd).dp; omega, by rw [blk_tup]; exact blkAll_le fun d hd => (h d hd).bk⟩
theorem Fine.mono {n b n' b' : Nat} {d : D} (h : Fine n b d) (h1 : n ≤ n') (h2 : b ≤ b') : Fine n' b' d := ⟨h.lf, h.ti, Nat.le_trans h.dp h1, Nat.le_trans h.bk h2⟩
theorem fine_int {i : Int} (h : i.natAbs ≤ 1000000000000) : Fine 0 0 (.int i) := by
  have hA : AA = 1000000000000000000000000000000 := rfl
  exact ⟨by rw [lfI_int]; exact decide_eq_true (by omega), rfl, by simp, by simp⟩
theorem fine_lit (s : String) (h : (Str.ofString s).length ≤ 200 := by decide +kernel) : Fine 0 200 (.str s) := ⟨by rw [lfI]; exact of_ltS s, rfl, by simp, by simp; exact h⟩
theorem merged_fine (one clash : Bool) {a b c : List PR} (h : Th a b c) : Fine 3 20000 (mergedD one clash a b c) := by
  have kl := keys_len a b c
  have hl := h.la
  have two : ∀ x y : D, Fine 2 8000 x → Fine 2 8000 y → Fine 3 20000 (.tup [x, y]) := fun x y hx hy => by
    have := fine_tup (ds := [x, y]) (n := 2) (b := 8000) (fun d hd => by
      simp only [List.mem_cons, List.not_mem_nil, or_false] at hd
      rcases hd with rfl | rfl <;> assumption)
    exact this.mono (by decide) (by simp)
  unfold mergedD
  split
  · refine two _ _ ((fine_lit "clash").mono (by decide) (by decide)) ?_
    have := fine_tup (ds := (clL a b c).map .int) (n := 0) (b := 0) (fun d hd => by
      obtain ⟨k, hk, rfl⟩ := List.mem_map.mp hd
      obtain ⟨k1, k2⟩ := keys_in h (List.mem_filter.mp hk).1
      exact fine_int (by omega))
    have l2 : (clL a b c).length ≤ (keysL a b c).length := List.length_filter_le _ _
    rw [List.length_map] at this
    exact this.mono (by omega) (by omega)
  · refine two _ _ ((fine_lit "merged").mono (by decide) (by decide)) ?_
    have := fine_tup (ds := foundL one a b c) (n := 1) (b := 102) fun d hd => by
      obtain ⟨k, hk, hd⟩ := List.mem_flatMap.mp hd
      obtain ⟨v, hv, rfl⟩ := List.mem_map.mp hd
      have hv : gotO one a b c k = some v := by simpa using hv
      obtain ⟨k1, k2⟩ := keys_in h hk
      obtain ⟨v1, v2, v3, v4⟩ := val_fine (got_okO one h k v hv)
      have f := fine_int (i := k) (by omega)
      exact ⟨by simp [v1]; simpa using f.lf, by simp [tis, tisAll, v2], by simp [v3], by simp; omega⟩
    have fl := flat_len one a b c (keysL a b c)
    have fl : (foundL one a b c).length ≤ (keysL a b c).length := fl
    exact this.mono (by omega) (by omega)
theorem holds_ok (k : Nat) {r : Str} {one clash : Bool} (h1 : ∀ μ, Op.eq (.str r) (.str "one") μ = .ok (.bl one) μ) (h2 : ∀ μ, Op.eq (.str r) (.str "clash") μ = .ok (.bl clash) μ) (hr : ∀ μ, Op.notin (.str r) (.tup [.str "one", .str "other", .str "clash"]) μ = .ok (.bl false) μ)
    {a b c : List PR} (h : Th a b c) {v : D} (hv : Dat 150 200000 v) (μ : Mem) : call (k + 9) .merge_holds [prsD a, prsD b, prsD c, .str r, v] μ = .ok (.bl (sameB v (mergedD one clash a b c))) μ := by
  obtain ⟨na, nb, nc⟩ := h.nr
  have f := merged_fine one clash h
  have n3 := fun μ => merged_ok k h1 h2 hr h μ
  have l : ∀ μ, call (k + 8) .is_like [v, mergedD one clash a b c] μ = .ok (.bl (sameB v (mergedD one clash a b c))) μ := fun μ => by
    have := like_gen 3 (k + 4) v (mergedD one clash a b c) μ hv.lf (lfI_lf (by decide) _ f.lf) f.ti f.dp (by have := f.bk; omega)
    rw [show 3 + (k + 4) + 1 = k + 8 by omega] at this
    exact this
  exact cv (by simp [na, nb, nc, hv.nr]) rfl rfl (by simp [bodyOf, nsOf, B_merge_holds, List.replicate_succ, n3, l])
theorem lsame_ok (k : Nat) (one clash : Bool) {a b c : List PR} (h : Th a b c) {v : D} (hv : Dat 150 200000 v) (μ : Mem) : call (k + 4) ._law_same [v, mergedD one clash a b c] μ = .ok (.bl (sameB v (mergedD one clash a b c))) μ := by
  have f := merged_fine one clash h
  have := same_gen 3 k v (mergedD one clash a b c) μ hv.lf (lfI_lf (by decide) _ f.lf) f.ti f.dp (by have := f.bk; omega)
  rw [show 3 + k + 1 = k + 4 by omega] at this
  exact this
theorem repr_mem {i : Nat} {xs : List D} {μ : Mem} (hi : μ[i]? = some (.lst xs)) (hp : plAll xs = true) : F.repr [.ref i] μ = F.repr [.lst xs] μ := by
  have h1 : view μ (.ref i) = some (.lst xs) := by unfold view; simp only [hi]; rw [if_pos hp]
  have h2 : view μ (.lst xs) = some (.lst xs) := view_of (by rw [D.pl]; exact hp)
  unfold F.repr
  dsimp only
  rw [h1, h2]
theorem bools_dat (x y : Bool) : Dat 150 200000 (.lst [.bl x, .bl y]) := ⟨by simp, by simp, by simp⟩
theorem ne_sameS (s : Str) (μ : Mem) : Op.ne (.str s) (.str s) μ = .ok (.bl false) μ := by rw [Dp.ne_str]; simp
/-- a value is judged -/
theorem value_ok6 (k : Nat) {r : Str} {one clash : Bool} (h1 : ∀ μ, Op.eq (.str r) (.str "one") μ = .ok (.bl one) μ) (h2 : ∀ μ, Op.eq (.str r) (.str "clash") μ = .ok (.bl clash) μ) (hr : ∀ μ, Op.notin (.str r) (.tup [.str "one", .str "other", .str "clash"]) μ = .ok (.bl false) μ)
    {a b c : List PR} (h : Th a b c) {v : D} (hv : Dat 150 200000 v) (x6 x7 x9 x10 x11 : Option D) (μ : Mem) {P : Fl → Mem → Prop} (q : ∀ x9 x10 x11 z, P (.next [some (.ref 0), some (prsD a), some (prsD b), some (prsD c), some (.str r), some (mergedD one clash a b c), x6, x7, some v, x9, x10, x11]) (μ ++ [z])) :
    swp (sd6_b (call (k + 9)) [some (.ref 0), some (prsD a), some (prsD b), some (prsD c), some (.str r), some (mergedD one clash a b c), x6, x7, some v, x9, x10, x11] μ) P := by
  have ho := fun μ => holds_ok k h1 h2 hr h hv μ
  have sa : ∀ μ, call (k + 9) ._law_same [v, mergedD one clash a b c] μ = .ok (.bl (sameB v (mergedD one clash a b c))) μ := fun μ => lsame_ok (k + 5) one clash h hv μ
  obtain ⟨s, hs⟩ := repr_dat hv
  generalize sameB v (mergedD one clash a b c) = y at ho sa
  obtain ⟨z, hz⟩ := repr_dat (bools_dat y y)
  have ns := fun s μ => ne_sameS s μ
  have ok1 : RTy.list.ok (.ref μ.length) (μ ++ [MO.lst [.bl y]]) = true := by simp [RTy.ok, seeQ]
  have ap := append_at (i := μ.length) (ys := [.bl y]) (μ := μ ++ [.lst [.bl y]]) (d := .bl y) (by simp) (by simp)
  have rm := repr_mem (i := μ.length) (xs := [.bl y, .bl y]) (μ := μ ++ [.lst [.bl y, .bl y]]) (by simp) rfl
  unfold sd6_b sd6_0 sd6_1 sd6_2 sd6_3
  simp [sa, hs, ho, pick, ok1]
  rw [ap]
  simp [rm, hz, ns]
  exact q _ _ _ _
end K56

set_option maxHeartbeats 4000000
namespace K56
open PySem PySem.Spec PyProof.Rows L2 Dp
def RuleOk (r : Str) (one clash : Bool) : Prop := (∀ μ, Op.eq (.str r) (.str "one") μ = .ok (.bl one) μ) ∧ (∀ μ, Op.eq (.str r) (.str "clash") μ = .ok (.bl clash) μ) ∧ (∀ μ, Op.notin (.str r) (.tup [.str "one", .str "other", .str "clash"]) μ = .ok (.bl false) μ)
theorem rule_one : RuleOk "one" true false := ⟨fun μ => by simp, fun μ => by simp <;> decide +kernel, fun μ => rfl⟩
theorem rule_other : RuleOk "other" false false := ⟨fun μ => by simp <;> decide +kernel, fun μ => by simp <;> decide +kernel, fun μ => rfl⟩
theorem rule_clash : RuleOk "clash" false true := ⟨fun μ => by simp <;> decide +kernel, fun μ => by simp, fun μ => rfl⟩
abbrev VOk (d : D) : Prop := Dat 150 200000 d
theorem fine_V {d : D} (h : Fine 3 20000 d) : VOk d := ⟨lfI_lf (by decide) d h.lf, by have := h.dp; omega, by have := h.bk; omega⟩
theorem vs_pl {vs : List D} (h : ∀ d ∈ vs, VOk d) : plAll vs = true := plAll_of fun d hd => lf_pl _ (h d hd).lf
structure Hd (a b c : List PR) : Prop where
  pa : PsOk a
  pb : PsOk b
  pc : PsOk c
  la : a.length ≤ 12
  lb : b.length ≤ 17
  lc : c.length ≤ 18
theorem Hd.th {a b c : List PR} (h : Hd a b c) : Th a b c := ⟨h.pa, h.pb, h.pc, by have := h.la; have := h.lb; have := h.lc; omega⟩
def JV (a b c : List PR) (r : Str) (due : D) (x7 : Option D) (u : Int) (ds : List D) (ρ : Dp.Loc) (μ : Mem) : Prop :=
  (∀ d ∈ ds, VOk d) ∧ ∃ x8 x9 x10 x11 xs m, ρ = [some (.ref 0), some (prsD a), some (prsD b), some (prsD c), some (.str r), some due, some (.ref 2), x7, x8, x9, x10, x11] ∧ μ = MO.lst xs :: m ∧ DeckOk u xs
def JB (a b c : List PR) (r : Str) (due : D) (m1 : MO) (u : Int) (ds : List D) (ρ : Dp.Loc) (μ : Mem) : Prop :=
  ds.length ≤ 8 ∧ ∃ x7 xs vs, ρ = [some (.ref 0), some (prsD a), some (prsD b), some (prsD c), some (.str r), some due, some (.ref 2), x7, none, none, none, none] ∧ μ = [.lst xs, m1, .lst vs] ∧ (∀ d ∈ vs, VOk d) ∧ vs.length + ds.length ≤ 20 ∧ DeckOk (u + 20 * (8 - (ds.length : Int))) xs
theorem rest_ok (k : Nat) {r : Str} {one clash : Bool} (hr : RuleOk r one clash) {a b c : List PR} (h : Hd a b c) (u : Int) (hu : u ≤ 700000) {xs : List D} (hd : DeckOk u xs) {P : Fl → Mem → Prop} (q : ∀ xs' m, DeckOk (u + 200) xs' → P (.ret (.bl true)) (.lst xs' :: m)) :
    swp (S.seq (sd2 (call (k + 30))) (S.seq (sd3 (call (k + 30))) (S.seq (sd4 (call (k + 30))) (S.seq (sd5 (call (k + 30))) (S.seq (sd6 (call (k + 30))) (sd7 (call (k + 30))))))) [some (.ref 0), some (prsD a), some (prsD b), some (prsD c), some (.str r), none, none, none, none, none, none, none] [.lst xs]) P := by
  have th := h.th
  have m1 := fun μ => lmerged_ok (k + 28) hr.1 hr.2.1 th μ
  have m2 := fun μ => lmerged_ok (k + 28) rule_one.1 rule_one.2.1 th μ
  have m3 := fun μ => lmerged_ok (k + 28) rule_other.1 rule_other.2.1 th μ
  have f1 := merged_fine one clash th
  have f2 := merged_fine true false th
  have f3 := merged_fine false false th
  have hval := fun (v : D) (hv : VOk v) x6 x7 x9 x10 x11 (μ : Mem) (P : Fl → Mem → Prop) q => value_ok6 (k + 21) hr.1 hr.2.1 hr.2.2 th (v := v) hv x6 x7 x9 x10 x11 μ (P := P) q
  rw [show k + 21 + 9 = k + 30 by omega] at hval
  simp only [sd2, sd3, sd4, sd5, sd6, sd7, sd5_b, sd5_0]
  generalize sd6_b (call (k + 30)) = B6 at hval
  generalize hdue : mergedD one clash a b c = due at *
  generalize mergedD true false a b c = due2 at *
  generalize mergedD false false a b c = due3 at *
  have ma : ∀ (xs ys : List D) (M : Mem), M[1]? = some (.lst xs) → xs.length + ys.length ≤ 100 → Op.madd (.ref 1) (.lst ys) M = .ok (.ref M.length) (M ++ [.lst (xs ++ ys)]) := fun xs ys M hm hl => by
    unfold Op.madd
    have e1 : seeL M (.ref 1) = some xs := by unfold seeL; simp only [hm]
    have e2 : seeL M (.lst ys) = some ys := rfl
    simp only [e1, e2]
    rw [if_pos (by omega)]
  simp [m1, m2, m3]
  rw [ma [due, due2, due3, .non] _ _ rfl (by simp)]
  simp
  rw [show Dp.Q.r1 [.int 8] [.lst xs, .lst [due, due2, due3, .non], .lst [due, due2, due3, .non, .tup [.str "merged"], .tup [.str "clash", .tup []]]] = .ok ((List.range 8).map fun i => D.int (i : Nat)) _ from r1_nat (n := 8) (by decide)]
  simp only [wp_ok]
  have v0 : ∀ d ∈ [due, due2, due3, .non, .tup [.str "merged"], .tup [.str "clash", .tup []]], VOk d := by
    simp only [List.forall_mem_cons, List.forall_mem_nil]
    exact ⟨fine_V f1, fine_V f2, fine_V f3, ⟨by simp, by simp, by simp⟩, ⟨by decide +kernel, by simp, by simp; decide +kernel⟩, ⟨by decide +kernel, by simp, by simp; decide +kernel⟩, fun _ h => by cases h⟩
  refine swp_loop (JB a b c r due (.lst [due, due2, due3, .non]) u) ?_ ?_ _ _ _ ⟨by simp, none, xs, _, rfl, rfl, v0, by simp, hd.le (by simp)⟩
  · rintro ρ μ ⟨_, x7, xs, vs, rfl, rfl, hv, hl, hx⟩
    have ai := anyI_ref (i := 2) (xs := vs) (μ := [.lst xs, .lst [due, due2, due3, .non], .lst vs]) (.inl rfl)
    simp [ai]
    refine swp_loop (JV a b c r due x7 (u + 200)) ?_ ?_ _ _ _ ⟨hv, none, none, none, none, xs, _, rfl, rfl, hx.le (by simp)⟩
    · rintro ρ μ ⟨_, x8, x9, x10, x11, xs, m, rfl, rfl, hx⟩
      simp
      exact q xs m hx
    · rintro d ds ρ μ ⟨hds, x8, x9, x10, x11, xs, m, rfl, rfl, hx⟩
      simp
      refine hval d (hds d List.mem_cons_self) _ _ _ _ _ _ _ fun x9 x10 x11 z => ?_
      exact ⟨fun d h => hds d (List.mem_cons_of_mem _ h), _, _, _, _, xs, _, rfl, rfl, hx⟩
  · rintro d ds ρ μ ⟨hl8, x7, xs, vs, rfl, rfl, hv, hl, hx⟩
    rw [List.length_cons] at hl8 hl hx
    have ok2 : ∀ xs, RTy.list.ok (.ref 2) [MO.lst xs, MO.lst [due, due2, due3, .non], MO.lst vs] = true := fun _ => rfl
    simp [ok2]
    have bg := fun {Q} {X} q => bent_gen 3 (k + 25) due f1.lf f1.ti f1.dp (by have := f1.bk; omega) (u + 20 * (8 - ((ds.length + 1 : Nat) : Int))) (by omega) (by decide) (i := 0) (μ := [.lst xs, .lst [due, due2, due3, .non], .lst vs]) rfl hx (Q := Q) (X := X) q
    rw [show 3 + (k + 25) + 2 = k + 30 by omega] at bg
    refine bg fun e xs' he dx => ?_
    have hB : (BB : Nat) ≤ 10 ^ 55 := by decide
    have ve : VOk e := he.dat hB (by have := f1.dp; omega) (by have := f1.bk; omega)
    have ap := append_at (i := 2) (ys := vs) (μ := [.lst xs', .lst [due, due2, due3, .non], .lst vs]) (d := e) rfl (by omega)
    simp [ap]
    refine ⟨by omega, _, xs', vs ++ [e], rfl, rfl, fun d hd => ?_, by simp; omega, dx.le (by omega)⟩
    rcases List.mem_append.mp hd with g | g
    · exact hv d g
    · rw [List.mem_singleton.mp g]; exact ve
theorem right_body (k : Nat) (t : Int) (ht : t ≤ 300000) (xs : List D) (hd : DeckOk t xs) : swp (B__law_right (call (k + 30)) [some (.ref 0), none, none, none, none, none, none, none, none, none, none, none] [.lst xs]) fun f μ' => match f with
    | .ret d => d = .bl true ∧ ∃ xs' r, μ' = .lst xs' :: r ∧ DeckOk (t + 15000) xs'
    | _ => False := by
  rw [sd_eq]
  have rest := fun {r : Str} {one clash : Bool} (hr : RuleOk r one clash) {a b c : List PR} (h : Hd a b c) (u : Int) (hu : u ≤ 700000) {xs : List D} (hd : DeckOk u xs) {P : Fl → Mem → Prop} (q : ∀ xs' m, DeckOk (u + 200) xs' → P (.ret (.bl true)) (.lst xs' :: m)) => rest_ok k hr h u hu hd q
  generalize S.seq (sd2 (call (k + 30))) (S.seq (sd3 (call (k + 30))) (S.seq (sd4 (call (k + 30))) (S.seq (sd5 (call (k + 30))) (S.seq (sd6 (call (k + 30))) (sd7 (call (k + 30))))))) = R at rest
  simp [sd0, sd1]
  refine hands_wp (k + 26) 6 t (by decide) (by decide) (by omega) (i := 0) rfl hd fun a b c ys2 pa pb pc la lb lc d2 => ?_
  simp [handsD]
  refine draw0 (k + 29) 4 _ (by decide) (by decide) (by omega) d2 fun v ys3 av bv d3 => ?_
  have hm : ∃ (r : Str) (one clash : Bool), (∀ μ, Op.item (.lst [.str "one", .str "other", .str "clash", .str "clash"]) (.int v) μ = .ok (.str r) μ) ∧ RuleOk r one clash := by
    have hc : v = 0 ∨ v = 1 ∨ v = 2 ∨ v = 3 := by omega
    rcases hc with rfl | rfl | rfl | rfl
    · exact ⟨_, _, _, fun μ => item_l20, rule_one⟩
    · exact ⟨_, _, _, fun μ => item_l21, rule_other⟩
    · exact ⟨_, _, _, fun μ => item_l22, rule_clash⟩
    · exact ⟨_, _, _, fun μ => item_l23, rule_clash⟩
  obtain ⟨r, one, clash, en, hr⟩ := hm
  simp [en]
  refine rest hr ⟨pa, pb, pc, la, lb, lc⟩ _ (by omega) d3 fun xs' m dx => ?_
  exact ⟨rfl, xs', ⟨m, rfl⟩, dx.le (by omega)⟩
end K56

set_option maxHeartbeats 4000000
namespace K56
open PySem PySem.Spec PyProof.Rows L2 Dp
theorem right_wp (k : Nat) (t : Int) (ht : t ≤ 300000) {i : Nat} {xs : List D} {μ : Mem} (hi : μ[i]? = some (.lst xs)) (hd : DeckOk t xs) {Q : D → Mem → Prop} {X : Exn → Mem → Prop}
    (q : ∀ xs', DeckOk (t + 15000) xs' → Q (.bl true) (μ.set i (.lst xs'))) : wp (call (k + 31) ._law_right [.ref i] μ) Q X :=
  deck_def (R := fun d => d = .bl true) rfl rfl (fun d e => by rw [e]; rfl) (right_body k t ht) hi hd fun d xs' e hd => by subst e; exact q xs' hd
theorem law_ok (ns : List Int) (hn : ns.length ≤ 63) (hb : ∀ z ∈ ns, PySem.Builtin.Int.intBits z ≤ 1048576) : ∃ μ', call 120 .law [.scr ns] [] = .ok (.bl true) μ' := by
  have h : wp (call 120 .law [.scr ns] []) (fun d _ => d = .bl true) NoX := by
    refine wp_proto (by simp) (wp_runB (Q := fun d μ' => wp (outD false [] μ' [] d) (fun d _ => d = .bl true) NoX) rfl ?_)
    have hr : ∃ r : Nat, (if (if (ns.length : Int) < 3 then (ns.length : Int) else 3) > 1 then (if (ns.length : Int) < 3 then (ns.length : Int) else 3) else 1) = (r : Int) ∧ r ≤ 3 := by
      by_cases h1 : (ns.length : Int) < 3
      · rw [if_pos h1]
        by_cases h2 : (ns.length : Int) > 1
        · rw [if_pos h2]; exact ⟨ns.length, rfl, by omega⟩
        · rw [if_neg h2]; exact ⟨1, rfl, by omega⟩
      · rw [if_neg h1]; exact ⟨3, rfl, by omega⟩
    obtain ⟨r, er, hr⟩ := hr
    have e1 : ∀ μ, F.min [.int 3, .int ns.length] μ = .ok (.int (if (ns.length : Int) < 3 then (ns.length : Int) else 3)) μ := fun μ => min_int
    have e2 : ∀ μ, F.max [.int 1, .int (if (ns.length : Int) < 3 then (ns.length : Int) else 3)] μ = .ok (.int r) μ := fun μ => by rw [max_int, er]
    simp only [bodyOf, nsOf, B_law, swp_seq, swp_for, q_range1, a_cons, e_call, e_val, e_var, a_nil, res_bind_ok, List.map_cons, List.map_nil, List.length_cons, List.length_nil]
    simp [e1, e2]
    rw [r1_nat (by omega)]
    simp only [wp_ok]
    refine swp_loop (fun ds ρ μ => (∀ d ∈ ds, isRg d) ∧ ∃ x1, ρ = [some (.scr ns), x1]) ?_ ?_ _ _ _ ?_
    · rintro ρ μ ⟨_, x1, rfl⟩
      simp [outD]
    · rintro d ds ρ μ ⟨hds, x1, rfl⟩
      obtain ⟨j, rfl, hj⟩ := hds d List.mem_cons_self
      simp
      refine pot_wp 118 ns j hj hb fun xs hx => ?_
      refine right_wp 88 0 (by decide) (by simp) hx fun xs' hx' => ?_
      simp
      exact fun d hd => hds d (List.mem_cons_of_mem _ hd)
    · exact ⟨fun d hd => by obtain ⟨i, hi, rfl⟩ := List.mem_map.mp hd; exact ⟨i, rfl, by have := List.mem_range.mp hi; omega⟩, none, rfl⟩
  obtain ⟨a, μ', e, rfl⟩ := wp_iff h fun _ _ h => h
  exact ⟨μ', e⟩
end K56


open PySem PySem.W PyProof.Rows
set_option maxHeartbeats 0 in
theorem PySem.Challenge.cw_rootsagree_k56_merges_judged_holds : PySem.Challenge.rw_rootsagree_k56_merges_judged.Holds := by
  w_on; o_law; k_head; (case hw => w_witness2)
  k_fill
  refine Dp.walk_ofD (l := PySem.Challenge.rw_rootsagree_k56_merges_judged) (n := 63) (k := 120) (x := "script") (st := K56.topS 48) (fn := K56.call 120 .law) rfl (by decide) rfl ⟨rfl, by decide, by decide⟩ (fun w h Y => PySem.W.kIn_of Y) ?F (fun _ _ _ _ _ _ us hl => match us, hl with | [_], _ => rfl) K56.law_ok
  case F =>
    intro w mg h XP KX G base hb gb
    refine' Dp.with_def (x := "_law_draw") (st := K56.topS 36) KX ?a ?l ?c ?k fun D__law_draw => ?_
    (case a => k_is); (case l => k_is); (case c => k_is); (case k => k_is)
    refine' Dp.with_def (x := "_law_value") (st := K56.topS 38) KX ?a ?l ?c ?k fun D__law_value => ?_
    (case a => k_is); (case l => k_is); (case c => k_is); (case k => k_is)
    refine' Dp.with_def (x := "_law_key") (st := K56.topS 37) KX ?a ?l ?c ?k fun D__law_key => ?_
    (case a => k_is); (case l => k_is); (case c => k_is); (case k => k_is)
    refine' Dp.with_def (x := "_law_pairs") (st := K56.topS 39) KX ?a ?l ?c ?k fun D__law_pairs => ?_
    (case a => k_is); (case l => k_is); (case c => k_is); (case k => k_is)
    refine' Dp.with_def (x := "_law_changed") (st := K56.topS 40) KX ?a ?l ?c ?k fun D__law_changed => ?_
    (case a => k_is); (case l => k_is); (case c => k_is); (case k => k_is)
    refine' Dp.with_def (x := "_law_hands") (st := K56.topS 44) KX ?a ?l ?c ?k fun D__law_hands => ?_
    (case a => k_is); (case l => k_is); (case c => k_is); (case k => k_is)
    refine' Dp.with_def (x := "_law_three") (st := K56.topS 42) KX ?a ?l ?c ?k fun D__law_three => ?_
    (case a => k_is); (case l => k_is); (case c => k_is); (case k => k_is)
    refine' Dp.with_def (x := "_law_chosen") (st := K56.topS 41) KX ?a ?l ?c ?k fun D__law_chosen => ?_
    (case a => k_is); (case l => k_is); (case c => k_is); (case k => k_is)
    refine' Dp.with_def (x := "_law_merged") (st := K56.topS 43) KX ?a ?l ?c ?k fun D__law_merged => ?_
    (case a => k_is); (case l => k_is); (case c => k_is); (case k => k_is)
    refine' Dp.with_def (x := "_law_bent") (st := K56.topS 46) KX ?a ?l ?c ?k fun D__law_bent => ?_
    (case a => k_is); (case l => k_is); (case c => k_is); (case k => k_is)
    refine' Dp.with_def (x := "_law_same") (st := K56.topS 45) KX ?a ?l ?c ?k fun D__law_same => ?_
    (case a => k_is); (case l => k_is); (case c => k_is); (case k => k_is)
    refine' Dp.with_def (x := "is_like") (st := K56.topS 32) KX ?a ?l ?c ?k fun D_is_like => ?_
    (case a => k_is); (case l => k_is); (case c => k_is); (case k => k_is)
    refine' Dp.with_def (x := "are_rising") (st := K56.topS 17) KX ?a ?l ?c ?k fun D_are_rising => ?_
    (case a => k_is); (case l => k_is); (case c => k_is); (case k => k_is)
    refine' Dp.with_def (x := "is_tuple_of") (st := K56.topS 7) KX ?a ?l ?c ?k fun D_is_tuple_of => ?_
    (case a => k_is); (case l => k_is); (case c => k_is); (case k => k_is)
    refine' Dp.with_def (x := "is_integer") (st := K56.topS 5) KX ?a ?l ?c ?k fun D_is_integer => ?_
    (case a => k_is); (case l => k_is); (case c => k_is); (case k => k_is)
    refine' Dp.with_def (x := "is_between") (st := K56.topS 6) KX ?a ?l ?c ?k fun D_is_between => ?_
    (case a => k_is); (case l => k_is); (case c => k_is); (case k => k_is)
    refine' Dp.with_def (x := "is_key") (st := K56.topS 13) KX ?a ?l ?c ?k fun D_is_key => ?_
    (case a => k_is); (case l => k_is); (case c => k_is); (case k => k_is)
    refine' Dp.with_def (x := "is_short_text") (st := K56.topS 14) KX ?a ?l ?c ?k fun D_is_short_text => ?_
    (case a => k_is); (case l => k_is); (case c => k_is); (case k => k_is)
    refine' Dp.with_def (x := "is_value") (st := K56.topS 15) KX ?a ?l ?c ?k fun D_is_value => ?_
    (case a => k_is); (case l => k_is); (case c => k_is); (case k => k_is)
    refine' Dp.with_def (x := "is_a_pair") (st := K56.topS 16) KX ?a ?l ?c ?k fun D_is_a_pair => ?_
    (case a => k_is); (case l => k_is); (case c => k_is); (case k => k_is)
    refine' Dp.with_def (x := "is_a_pairs") (st := K56.topS 18) KX ?a ?l ?c ?k fun D_is_a_pairs => ?_
    (case a => k_is); (case l => k_is); (case c => k_is); (case k => k_is)
    refine' Dp.with_def (x := "need_pairs") (st := K56.topS 19) KX ?a ?l ?c ?k fun D_need_pairs => ?_
    (case a => k_is); (case l => k_is); (case c => k_is); (case k => k_is)
    refine' Dp.with_def (x := "need_three") (st := K56.topS 26) KX ?a ?l ?c ?k fun D_need_three => ?_
    (case a => k_is); (case l => k_is); (case c => k_is); (case k => k_is)
    refine' Dp.with_def (x := "need_rule") (st := K56.topS 25) KX ?a ?l ?c ?k fun D_need_rule => ?_
    (case a => k_is); (case l => k_is); (case c => k_is); (case k => k_is)
    refine' Dp.with_def (x := "three_ways") (st := K56.topS 27) KX ?a ?l ?c ?k fun D_three_ways => ?_
    (case a => k_is); (case l => k_is); (case c => k_is); (case k => k_is)
    refine' Dp.with_def (x := "chosen") (st := K56.topS 28) KX ?a ?l ?c ?k fun D_chosen => ?_
    (case a => k_is); (case l => k_is); (case c => k_is); (case k => k_is)
    refine' Dp.with_def (x := "clashes_of") (st := K56.topS 29) KX ?a ?l ?c ?k fun D_clashes_of => ?_
    (case a => k_is); (case l => k_is); (case c => k_is); (case k => k_is)
    refine' Dp.with_def (x := "merge") (st := K56.topS 30) KX ?a ?l ?c ?k fun D_merge => ?_
    (case a => k_is); (case l => k_is); (case c => k_is); (case k => k_is)
    refine' Dp.with_def (x := "merged") (st := K56.topS 31) KX ?a ?l ?c ?k fun D_merged => ?_
    (case a => k_is); (case l => k_is); (case c => k_is); (case k => k_is)
    refine' Dp.with_def (x := "merge_holds") (st := K56.topS 33) KX ?a ?l ?c ?k fun D_merge_holds => ?_
    (case a => k_is); (case l => k_is); (case c => k_is); (case k => k_is)
    refine' Dp.with_def (x := "_law_right") (st := K56.topS 47) KX ?a ?l ?c ?k fun D__law_right => ?_
    (case a => k_is); (case l => k_is); (case c => k_is); (case k => k_is)
    refine' Dp.with_def (x := "_law_pot") (st := K56.topS 35) KX ?a ?l ?c ?k fun D__law_pot => ?_
    (case a => k_is); (case l => k_is); (case c => k_is); (case k => k_is)
    refine' Dp.with_def (x := "law") (st := K56.topS 48) KX ?a ?l ?c ?k fun D_law => ?_
    (case a => k_is); (case l => k_is); (case c => k_is); (case k => k_is)
    exact (K56.all_ok hb gb ⟨PySem.W.mg_none_of KX G (by k_is), PySem.W.mg_none_of KX G (by k_is), PySem.W.mg_none_of KX G (by k_is), PySem.W.mg_none_of KX G (by k_is), PySem.W.mg_none_of KX G (by k_is), PySem.W.mg_none_of KX G (by k_is), PySem.W.mg_none_of KX G (by k_is), PySem.W.mg_none_of KX G (by k_is), PySem.W.mg_none_of KX G (by k_is), PySem.W.mg_none_of KX G (by k_is), PySem.W.mg_none_of KX G (by k_is), PySem.W.mg_none_of KX G (by k_is), PySem.W.mg_none_of KX G (by k_is), PySem.W.mg_none_of KX G (by k_is), PySem.W.mg_none_of KX G (by k_is), PySem.W.mg_none_of KX G (by k_is), ⟨_, PySem.W.mg_of KX G (by k_is)⟩, ⟨_, PySem.W.mg_of KX G (by k_is)⟩, ⟨_, PySem.W.mg_of KX G (by k_is)⟩, ⟨_, PySem.W.mg_of KX G (by k_is)⟩, ⟨_, PySem.W.mg_of KX G (by k_is)⟩, ⟨_, PySem.W.mg_of KX G (by k_is)⟩, ⟨_, PySem.W.mg_of KX G (by k_is)⟩, ⟨_, PySem.W.mg_of KX G (by k_is)⟩⟩ D__law_draw D__law_value D__law_key D__law_pairs D__law_changed D__law_hands D__law_three D__law_chosen D__law_merged D__law_bent D__law_same D_is_like D_are_rising D_is_tuple_of D_is_integer D_is_between D_is_key D_is_short_text D_is_value D_is_a_pair D_is_a_pairs D_need_pairs D_need_three D_need_rule D_three_ways D_chosen D_clashes_of D_merge D_merged D_merge_holds D__law_right D__law_pot D_law 120).law
