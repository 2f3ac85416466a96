import PyProof.Rows.All
import Wide.All
import OpenK.AllK
import Wide.FinOn
import HandS.ForMost
import HandS.Lambda
import HandS.Star
import HandS.Style
import HandS.Conv
import HandS.Zip
import HandS.TupAny
import KE.DataEq
import KE.DataFind
import KE.DataMinKey
import KE.SortKeyHeap
import HandS.IsInst
import HandS.Defaults
import HandS.SetFor
import HandS.Strs
import KE.SortData
import KE.GoesEnum
import KE.KLam
import HandS.HeadHook4
import HandS.HeadWalk
import PyProof.Rows.SeqMore
import HandS.EndTab
import KE.KStateDown
import Lean
import HandS.Ends
import HandS.More
import HandS.Words
import HandS.WordsExc
import HandS.Head0
import HandS.Head1
import HandS.Head2
import HandS.HeadEnd
import HandS.HeadHook1
import HandS.HeadHook2
import HandS.HeadHook3
import PySem.Challenge.RW_leastendwithcuts_k42_whole_most_in_time
set_option Elab.async false
section
set_option Elab.async false
set_option linter.all false
set_option autoImplicit false
set_option maxRecDepth 100000
set_option maxHeartbeats 4000000
/-! Q0: a small functional semantics over data, and its tie to the judgements of the hand layer. -/
namespace QL
open PySem PySem.Spec PyProof.Rows L2

/-! ### values, cells, stores -/
inductive Cell where
  | lst (xs : List PyData)
inductive Vl where
  | d (x : PyData)
  | loc (n : Nat)
abbrev Sto := List (Option Cell)
abbrev Rho := List (Option Vl)
abbrev Ev := Rho → Sto → Option (Vl × Sto)

/-- a list that nobody changes -/
def FzL (K : PySem.W.Frag) (H : Hp) (a : Addr) (xs : List V) : Prop :=
  (∃ o, H a = some (.frz o (.lst xs))) ∨
    ∃ (o : Obj) (its : Array Value) (n : Nat), K.lookup a = some o ∧ o.cls = .type "list" ∧ o.dict = none ∧ o.data = .seq its n ∧ its.size ≤ sizeLine ∧ Vals xs its.toList
theorem FzL.sq {K : PySem.W.Frag} {H : Hp} {a : Addr} {xs : List V} (h : FzL K H a xs) : SqL K H a xs := by
  rcases h with h | h
  · exact .inl (.inr h)
  · exact .inr h

mutual
inductive Rep (K : PySem.W.Frag) (H : Hp) : V → PyData → Prop
  | non : Rep K H .non .none
  | bl (b : Bool) : Rep K H (.bl b) (.bool b)
  | int (i : Int) : Rep K H (.int i) (.int i)
  | str (x : Str) : Rep K H (.str x) (.str x)
  | lst {a : Addr} {xs : List V} {ds : List PyData} : FzL K H a xs → RepAll K H xs ds → Rep K H (.ref a) (.list ds)
  | tup {a : Addr} {xs : List V} {ds : List PyData} : SqT K H a xs → RepAll K H xs ds → Rep K H (.ref a) (.tuple ds)
inductive RepAll (K : PySem.W.Frag) (H : Hp) : List V → List PyData → Prop
  | nil : RepAll K H [] []
  | cons {v : V} {vs : List V} {d : PyData} {ds : List PyData} : Rep K H v d → RepAll K H vs ds → RepAll K H (v :: vs) (d :: ds)
end

/-- tuples and what is locked stay -/
structure Ext (H H' : Hp) : Prop where
  tups : ∀ b xs, H b = some (.tup xs) → H' b = some (.tup xs)
  frzs : ∀ b o u, H b = some (.frz o u) → H' b = some (.frz o u)
theorem Ext.refl (H : Hp) : Ext H H := ⟨fun _ _ h => h, fun _ _ _ h => h⟩
theorem Ext.trans {H H1 H2 : Hp} (a : Ext H H1) (b : Ext H1 H2) : Ext H H2 := ⟨fun c x h => b.tups c x (a.tups c x h), fun c o u h => b.frzs c o u (a.frzs c o u h)⟩
theorem Ext.same {H H' : Hp} (h : Same H H') : Ext H H' := ⟨fun b xs e => h b _ e, fun b o u e => h b _ e⟩
theorem same_upd {H : Hp} {p : Addr} {o : HO} (h : H p = none) : Same H (upd H p o) := fun b x e => by
  rw [upd_ne (ne_of_none e h)]
  exact e

section
variable {K : PySem.W.Frag} {H H' : Hp}
theorem Rd.ext {a : Addr} {xs : List V} (e : Ext H H') (h : Rd H a (.tup xs)) : Rd H' a (.tup xs) := by
  rcases h with h | ⟨o, h⟩
  · exact .inl (e.tups _ _ h)
  · exact .inr ⟨o, e.frzs _ _ _ h⟩
theorem sqT_ext {a : Addr} {xs : List V} (e : Ext H H') (h : SqT K H a xs) : SqT K H' a xs := by
  rcases h with h | h
  · exact .inl (Rd.ext e h)
  · exact .inr h
theorem fzL_ext {a : Addr} {xs : List V} (e : Ext H H') (h : FzL K H a xs) : FzL K H' a xs := by
  rcases h with ⟨o, h⟩ | h
  · exact .inl ⟨o, e.frzs _ _ _ h⟩
  · exact .inr h
mutual
theorem Rep.ext (e : Ext H H') : ∀ (d : PyData) (v : V), Rep K H v d → Rep K H' v d
  | .none, _, h => by cases h; exact .non
  | .bool b, _, h => by cases h; exact .bl b
  | .int i, _, h => by cases h; exact .int i
  | .str x, _, h => by cases h; exact .str x
  | .list ds, _, h => by
    cases h with
    | lst h1 h2 => exact .lst (fzL_ext e h1) (RepAll.ext e ds _ h2)
  | .tuple ds, _, h => by
    cases h with
    | tup h1 h2 => exact .tup (sqT_ext e h1) (RepAll.ext e ds _ h2)
  | .dict _, _, h => by cases h
theorem RepAll.ext (e : Ext H H') : ∀ (ds : List PyData) (vs : List V), RepAll K H vs ds → RepAll K H' vs ds
  | [], _, h => by cases h; exact .nil
  | d :: ds, _, h => by
    cases h with
    | cons h1 h2 => exact .cons (Rep.ext e d _ h1) (RepAll.ext e ds _ h2)
end
mutual
theorem Rep.dp : ∀ (d : PyData) (v : V), Rep K H v d → Dp K H v d
  | .none, _, h => by cases h; exact .non
  | .bool b, _, h => by cases h; exact .bl b
  | .int i, _, h => by cases h; exact .int i
  | .str x, _, h => by cases h; exact .str x
  | .list ds, _, h => by
    cases h with
    | lst h1 h2 => exact .lst h1.sq (RepAll.dp ds _ h2)
  | .tuple ds, _, h => by
    cases h with
    | tup h1 h2 => exact .tup h1 (RepAll.dp ds _ h2)
  | .dict _, _, h => by cases h
theorem RepAll.dp : ∀ (ds : List PyData) (vs : List V), RepAll K H vs ds → DpAll K H vs ds
  | [], _, h => by cases h; exact .nil
  | d :: ds, _, h => by
    cases h with
    | cons h1 h2 => exact .cons (Rep.dp d _ h1) (RepAll.dp ds _ h2)
end
theorem RepAll.len {vs : List V} {ds : List PyData} : RepAll K H vs ds → vs.length = ds.length := fun h => by
  induction ds generalizing vs with
  | nil => cases h; rfl
  | cons d ds ih => cases h with
    | cons h1 h2 => rw [List.length_cons, List.length_cons, ih h2]
theorem RepAll.get {vs : List V} {ds : List PyData} (h : RepAll K H vs ds) : ∀ {i : Nat} {v : V}, vs[i]? = some v → ∃ d, ds[i]? = some d ∧ Rep K H v d := by
  induction ds generalizing vs with
  | nil => cases h; intro i v e; simp at e
  | cons d ds ih => cases h with
    | cons h1 h2 =>
      intro i v e
      cases i with
      | zero => simp at e; subst e; exact ⟨d, rfl, h1⟩
      | succ i => simp at e; obtain ⟨d', e', r⟩ := ih h2 e; exact ⟨d', by simpa using e', r⟩
theorem RepAll.get' {vs : List V} {ds : List PyData} (h : RepAll K H vs ds) : ∀ {i : Nat} {d : PyData}, ds[i]? = some d → ∃ v, vs[i]? = some v ∧ Rep K H v d := by
  induction ds generalizing vs with
  | nil => cases h; intro i v e; simp at e
  | cons d ds ih => cases h with
    | cons h1 h2 =>
      intro i v e
      cases i with
      | zero => simp at e; subst e; exact ⟨_, rfl, h1⟩
      | succ i => simp at e; obtain ⟨d', e', r⟩ := ih h2 e; exact ⟨d', by simpa using e', r⟩
theorem RepAll.app {vs ws : List V} {ds es : List PyData} (h : RepAll K H vs ds) (h' : RepAll K H ws es) : RepAll K H (vs ++ ws) (ds ++ es) := by
  induction ds generalizing vs with
  | nil => cases h; exact h'
  | cons d ds ih => cases h with
    | cons h1 h2 => exact .cons h1 (ih h2)
theorem RepAll.take {vs : List V} {ds : List PyData} (h : RepAll K H vs ds) : ∀ n : Nat, RepAll K H (vs.take n) (ds.take n) := by
  induction ds generalizing vs with
  | nil => cases h; intro n; simp; exact .nil
  | cons d ds ih => cases h with
    | cons h1 h2 =>
      intro n
      cases n with
      | zero => exact .nil
      | succ n => exact .cons h1 (ih h2 n)
theorem RepAll.drop {vs : List V} {ds : List PyData} (h : RepAll K H vs ds) : ∀ n : Nat, RepAll K H (vs.drop n) (ds.drop n) := by
  induction ds generalizing vs with
  | nil => cases h; intro n; simp; exact .nil
  | cons d ds ih => cases h with
    | cons h1 h2 =>
      intro n
      cases n with
      | zero => exact .cons h1 h2
      | succ n => exact ih h2 n
theorem RepAll.set {vs : List V} {ds : List PyData} {v : V} {d : PyData} (h : RepAll K H vs ds) (r : Rep K H v d) : ∀ n : Nat, RepAll K H (vs.set n v) (ds.set n d) := by
  induction ds generalizing vs with
  | nil => cases h; intro n; simp; exact .nil
  | cons d ds ih => cases h with
    | cons h1 h2 =>
      intro n
      cases n with
      | zero => exact .cons r h2
      | succ n => exact .cons h1 (ih h2 n)
theorem RepAll.rev {vs : List V} {ds : List PyData} (h : RepAll K H vs ds) : RepAll K H vs.reverse ds.reverse := by
  induction ds generalizing vs with
  | nil => cases h; exact .nil
  | cons d ds ih => cases h with
    | cons h1 h2 => rw [List.reverse_cons, List.reverse_cons]; exact (ih h2).app (.cons h1 .nil)
theorem RepAll.erase {vs : List V} {ds : List PyData} (h : RepAll K H vs ds) : ∀ n : Nat, RepAll K H (vs.eraseIdx n) (ds.eraseIdx n) := by
  induction ds generalizing vs with
  | nil => cases h; intro n; simp; exact .nil
  | cons d ds ih => cases h with
    | cons h1 h2 =>
      intro n
      cases n with
      | zero => exact h2
      | succ n => exact .cons h1 (ih h2 n)
theorem RepAll.ints {vs : List V} {ns : List Int} (h : RepAll K H vs (ns.map .int)) : vs = ns.map V.int := by
  induction ns generalizing vs with
  | nil => cases h; rfl
  | cons n ns ih =>
    cases h with
    | cons h1 h2 => cases h1; rw [ih h2]; rfl
theorem RepAll.ofInts {ns : List Int} : RepAll K H (ns.map V.int) (ns.map .int) := by
  induction ns with
  | nil => exact .nil
  | cons n ns ih => exact .cons (.int n) ih
theorem RepAll.bools {vs : List V} {bs : List Bool} (h : RepAll K H vs (bs.map .bool)) : vs = bs.map V.bl := by
  induction bs generalizing vs with
  | nil => cases h; rfl
  | cons n ns ih =>
    cases h with
    | cons h1 h2 => cases h1; rw [ih h2]; rfl
end

/-! ### the store and the heap -/
def CellOk (K : PySem.W.Frag) (H : Hp) (a : Addr) : Cell → Prop
  | .lst ds => ∃ vs, H a = some (.lst vs) ∧ RepAll K H vs ds
/-- from one state to a later one: tuples and what is locked stay; so does all that is no cell; cells are added, at addresses that were free -/
structure Le (H : Hp) (ι : List Addr) (H' : Hp) (ι' : List Addr) : Prop where
  ext : Ext H H'
  pre : ι <+: ι'
  fr : ∀ b o, H b = some o → (∀ ps, o ≠ .tbl ps) → b ∉ ι → H' b = some o
  tb : ∀ b ps, H b = some (.tbl ps) → ∃ ps', H' b = some (.tbl ps')
  new : ∀ b, b ∈ ι' → b ∉ ι → H b = none
theorem Le.refl (H : Hp) (ι : List Addr) : Le H ι H ι := ⟨Ext.refl H, List.prefix_refl ι, fun _ _ h _ _ => h, fun _ ps h => ⟨ps, h⟩, fun _ h h' => absurd h h'⟩
theorem Le.trans {H H1 H2 : Hp} {ι ι1 ι2 : List Addr} (a : Le H ι H1 ι1) (b : Le H1 ι1 H2 ι2) : Le H ι H2 ι2 where
  ext := a.ext.trans b.ext
  pre := a.pre.trans b.pre
  fr := fun c o h nt hn => b.fr c o (a.fr c o h nt hn) nt fun hm => by
    have := a.new c hm hn
    rw [h] at this; cases this
  tb := fun c ps h => by
    obtain ⟨ps', h'⟩ := a.tb c ps h
    exact b.tb c ps' h'
  new := fun c h hn => by
    by_cases hm : c ∈ ι1
    · exact a.new c hm hn
    · cases q : H c with
      | none => rfl
      | some o =>
        have := b.new c h hm
        by_cases ht : ∃ ps, o = .tbl ps
        · obtain ⟨ps, rfl⟩ := ht
          obtain ⟨ps', e⟩ := a.tb c ps q
          rw [e] at this; cases this
        · rw [a.fr c o q (fun ps e => ht ⟨ps, e⟩) hn] at this; cases this
abbrev Tb := List (Addr × Str)
structure SR (K : PySem.W.Frag) (T : Tb) (H : Hp) (ι : List Addr) (st : Sto) : Prop where
  len : ι.length = st.length
  nd : ι.Nodup
  trk : ∀ a ∈ ι, H a ≠ none
  cell : ∀ (i : Nat) (c : Cell), st[i]? = some (some c) → ∃ a, ι[i]? = some a ∧ CellOk K H a c
  tabs : LamX.Tabs T H
def VlR (K : PySem.W.Frag) (H : Hp) (ι : List Addr) (v : V) : Vl → Prop
  | .d x => Rep K H v x
  | .loc n => ∃ a, ι[n]? = some a ∧ v = .ref a
structure EnvR (K : PySem.W.Frag) (H : Hp) (ι : List Addr) (σ : L2.St) (ρ : Rho) : Prop where
  len : ρ.length = σ.length
  val : ∀ (i : Nat) (x : Vl), ρ[i]? = some (some x) → ∃ v, σ[i]? = some (some v) ∧ VlR K H ι v x
section
variable {K : PySem.W.Frag} {T : Tb} {H H' : Hp} {ι ι' : List Addr} {st st' : Sto} {σ : L2.St} {ρ : Rho}
theorem pre_get {α : Type} {l l' : List α} (h : l <+: l') {n : Nat} {a : α} (e : l[n]? = some a) : l'[n]? = some a := by
  obtain ⟨t, rfl⟩ := h
  rw [List.getElem?_append_left (List.getElem?_eq_some_iff.mp e).1]
  exact e
theorem VlR.le {v : V} {x : Vl} (e : Le H ι H' ι') (h : VlR K H ι v x) : VlR K H' ι' v x := by
  cases x with
  | d x => exact Rep.ext e.ext x v h
  | loc n => obtain ⟨a, h1, h2⟩ := h; exact ⟨a, pre_get e.pre h1, h2⟩
theorem EnvR.le (e : Le H ι H' ι') (h : EnvR K H ι σ ρ) : EnvR K H' ι' σ ρ := ⟨h.len, fun i x hx => by
  obtain ⟨v, h1, h2⟩ := h.val i x hx
  exact ⟨v, h1, h2.le e⟩⟩
theorem CellOk.same {a : Addr} {c : Cell} (e : Same H H') (h : CellOk K H a c) : CellOk K H' a c := by
  cases c with
  | lst ds => obtain ⟨vs, h1, h2⟩ := h; exact ⟨vs, e _ _ h1, RepAll.ext (Ext.same e) ds vs h2⟩
theorem SR.same (e : Same H H') (h : SR K T H ι st) : SR K T H' ι st where
  len := h.len
  nd := h.nd
  trk := fun a ha z => by
    cases q : H a with
    | none => exact h.trk a ha q
    | some o => rw [e a o q] at z; cases z
  cell := fun i c hc => by
    obtain ⟨a, h1, h2⟩ := h.cell i c hc
    exact ⟨a, h1, h2.same e⟩
  tabs := h.tabs.ext e
theorem Le.same (e : Same H H') : Le H ι H' ι := ⟨Ext.same e, List.prefix_refl ι, fun b o h _ _ => e b o h, fun b ps h => ⟨ps, e b _ h⟩, fun _ h h' => absurd h h'⟩
theorem SR.take (h : SR K T H ι st) (n : Nat) : SR K T H (ι.take n) (st.take n) where
  len := by rw [List.length_take, List.length_take, h.len]
  nd := h.nd.sublist (List.take_sublist n ι)
  trk := fun a ha => h.trk a (List.mem_of_mem_take ha)
  cell := fun i c hc => by
    rw [List.getElem?_take] at hc
    split at hc
    · rename_i hi
      obtain ⟨a, h1, h2⟩ := h.cell i c hc
      exact ⟨a, by rw [List.getElem?_take, if_pos hi]; exact h1, h2⟩
    · cases hc
  tabs := h.tabs
theorem nmem_of {p : Addr} (h : SR K T H ι st) (hp : H p = none) : p ∉ ι := fun hm => h.trk p hm hp
/-- what is free later was free -/
theorem Le.free {p : Addr} (l : Le H ι H' ι') (S : SR K T H' ι' st') (hp : H' p = none) : H p = none := by
  cases q : H p with
  | none => rfl
  | some o =>
    by_cases hm : p ∈ ι
    · obtain ⟨t, e⟩ := l.pre
      exact absurd hp (S.trk p (by rw [← e]; exact List.mem_append_left _ hm))
    · by_cases ht : ∃ ps, o = .tbl ps
      · obtain ⟨ps, rfl⟩ := ht
        obtain ⟨ps', e⟩ := l.tb p ps q
        rw [e] at hp; cases hp
      · rw [l.fr p o q (fun ps e => ht ⟨ps, e⟩) hm] at hp; cases hp
/-- a new object is laid, or changed once more -/
theorem Le.upd {p : Addr} {o : HO} (l : Le H ι H' ι') (hp : H p = none) : Le H ι (L2.upd H' p o) ι' where
  ext := ⟨fun b xs e => by rw [upd_ne (ne_of_none e hp)]; exact l.ext.tups b xs e, fun b q u e => by rw [upd_ne (ne_of_none e hp)]; exact l.ext.frzs b q u e⟩
  pre := l.pre
  fr := fun b q e nt hb => by rw [upd_ne (ne_of_none e hp)]; exact l.fr b q e nt hb
  tb := fun b ps e => by rw [upd_ne (ne_of_none e hp)]; exact l.tb b ps e
  new := l.new
/-- a cell's list is changed -/
theorem Le.put {a : Addr} {vs : List V} {o : HO} (l : Le H ι H' ι') (ha : a ∈ ι') (hv : H' a = some (.lst vs)) : Le H ι (L2.upd H' a o) ι' where
  ext := ⟨fun b xs e => by rw [upd_ne (ne_of (l.ext.tups b xs e) hv (fun z => by cases z))]; exact l.ext.tups b xs e, fun b q u e => by rw [upd_ne (ne_of (l.ext.frzs b q u e) hv (fun z => by cases z))]; exact l.ext.frzs b q u e⟩
  pre := l.pre
  fr := fun b q e nt hb => by
    have ne : b ≠ a := fun z => by
      subst z
      have := l.new b ha hb
      rw [e] at this; cases this
    rw [upd_ne ne]; exact l.fr b q e nt hb
  tb := fun b ps e => by
    obtain ⟨ps', e'⟩ := l.tb b ps e
    exact ⟨ps', by rw [upd_ne (ne_of e' hv (fun z => by cases z))]; exact e'⟩
  new := l.new
/-- a new cell -/
theorem Le.own {p : Addr} (l : Le H ι H' ι') (hp : H p = none) : Le H ι H' (ι' ++ [p]) where
  ext := l.ext
  pre := l.pre.trans (List.prefix_append _ _)
  fr := l.fr
  tb := l.tb
  new := fun b hb hn => by
    rcases List.mem_append.mp hb with h | h
    · exact l.new b h hn
    · simp at h; subst h; exact hp
theorem pre_take {l l' : List Addr} (h : l <+: l') : l <+: l'.take l.length := by
  obtain ⟨t, rfl⟩ := h
  rw [List.take_left]
  exact List.prefix_refl l
theorem Le.take {n : Nat} (l : Le H ι H' ι') (hn : ι.length = n) : Le H ι H' (ι'.take n) where
  ext := l.ext
  pre := by rw [← hn]; exact pre_take l.pre
  fr := l.fr
  tb := l.tb
  new := fun b hb hm => l.new b (List.mem_of_mem_take hb) hm
/-- a value read at a store -/
def rd : Vl → Sto → Option PyData
  | .d x, _ => some x
  | .loc n, st => match st[n]? with
    | some (some (.lst ds)) => some (.list ds)
    | _ => none
/-- .. and its place in the heap: a list may be one that changes -/
def RepR (K : PySem.W.Frag) (H : Hp) (v : V) (d : PyData) : Prop := Rep K H v d ∨ ∃ a vs ds, v = .ref a ∧ H a = some (.lst vs) ∧ RepAll K H vs ds ∧ d = .list ds
theorem rd_rep {v : V} {x : Vl} {d : PyData} (s : SR K T H ι st) (r : VlR K H ι v x) (e : rd x st = some d) : RepR K H v d := by
  cases x with
  | d x => cases e; exact .inl r
  | loc n =>
    obtain ⟨a, h1, rfl⟩ := r
    unfold rd at e
    simp only at e
    split at e
    · rename_i ds q
      obtain ⟨b, h2, vs, h3, h4⟩ := s.cell n _ q
      rw [h1] at h2; cases h2
      cases e
      exact .inr ⟨a, vs, ds, rfl, h3, h4, rfl⟩
    · cases e
theorem RepR.dp {v : V} {d : PyData} (h : RepR K H v d) : Dp K H v d := by
  rcases h with h | ⟨a, vs, ds, rfl, h1, h2, rfl⟩
  · exact Rep.dp d v h
  · exact .lst (SqL.of h1) (RepAll.dp ds vs h2)
theorem RepR.list {v : V} {ds : List PyData} (h : RepR K H v (.list ds)) : ∃ a vs, v = .ref a ∧ SqL K H a vs ∧ RepAll K H vs ds := by
  rcases h with h | ⟨a, vs, ds', rfl, h1, h2, e⟩
  · cases h with
    | lst h1 h2 => exact ⟨_, _, rfl, h1.sq, h2⟩
  · cases e; exact ⟨a, vs, rfl, SqL.of h1, h2⟩
theorem RepR.tuple {v : V} {ds : List PyData} (h : RepR K H v (.tuple ds)) : ∃ a vs, v = .ref a ∧ SqT K H a vs ∧ RepAll K H vs ds := by
  rcases h with h | ⟨a, vs, ds', rfl, h1, h2, e⟩
  · cases h with
    | tup h1 h2 => exact ⟨_, _, rfl, h1, h2⟩
  · cases e
theorem RepR.int {v : V} {i : Int} (h : RepR K H v (.int i)) : v = .int i := by
  rcases h with h | ⟨a, vs, ds', rfl, h1, h2, e⟩
  · cases h; rfl
  · cases e
theorem RepR.bool {v : V} {i : Bool} (h : RepR K H v (.bool i)) : v = .bl i := by
  rcases h with h | ⟨a, vs, ds', rfl, h1, h2, e⟩
  · cases h; rfl
  · cases e
theorem RepR.str {v : V} {i : Str} (h : RepR K H v (.str i)) : v = .str i := by
  rcases h with h | ⟨a, vs, ds', rfl, h1, h2, e⟩
  · cases h; rfl
  · cases e
theorem RepR.none {v : V} (h : RepR K H v .none) : v = .non := by
  rcases h with h | ⟨a, vs, ds', rfl, h1, h2, e⟩
  · cases h; rfl
  · cases e
end

/-! ### the judgements -/
def tEv (K : PySem.W.Frag) (T : Tb) (f : Ev) : TE := fun σ H Q => ∃ ρ ι st r st', EnvR K H ι σ ρ ∧ SR K T H ι st ∧ f ρ st = some (r, st') ∧
  ∀ v H' ι', Le H ι H' ι' → SR K T H' ι' st' → VlR K H' ι' v r → Q v H'
structure QE (X : Cx) (T : Tb) (e : Expr) (f : Ev) : Prop where
  pe : PE X e (tEv X.K T f)
theorem PE.imp {X : Cx} {e : Expr} {t t' : TE} (h : PE X e t) (i : ∀ σ H Q, t' σ H Q → t σ H Q) : PE X e t' := ⟨fun pins s σ H Q I q => h.run pins s σ H Q I (i σ H Q q)⟩
theorem PT.imp {X : Cx} {e : Expr} {t t' : TT} (h : PT X e t) (i : ∀ σ H Q, t' σ H Q → t σ H Q) : PT X e t' := ⟨fun pins s σ H Q I q => h.run pins s σ H Q I (i σ H Q q)⟩
theorem PA.imp {X : Cx} {e : List Expr} {t t' : TA} (h : PA X e t) (i : ∀ σ H Q, t' σ H Q → t σ H Q) : PA X e t' := ⟨fun pos pins s σ H Q I q => h.run pos pins s σ H Q I (i σ H Q q)⟩
theorem PS.imp {X : Cx} {e : Stmt} {t t' : TS} (h : PS X e t) (i : ∀ σ H D, t' D σ H → t D σ H) : PS X e t' := ⟨fun pins s σ H D I q => h.run pins s σ H D I (i σ H D q)⟩
theorem PSs.imp {X : Cx} {e : List Stmt} {t t' : TS} (h : PSs X e t) (i : ∀ σ H D, t' D σ H → t D σ H) : PSs X e t' := ⟨fun pins s σ H D I q => h.run pins s σ H D I (i σ H D q)⟩
/-- a less defined reading will do -/
theorem QE.imp {X : Cx} {T : Tb} {e : Expr} {f g : Ev} (h : QE X T e f) (i : ∀ ρ st r, g ρ st = some r → f ρ st = some r) : QE X T e g := ⟨PE.imp h.pe fun σ H Q ⟨ρ, ι, st, r, st', h1, h2, h3, h4⟩ => ⟨ρ, ι, st, r, st', h1, h2, i _ _ _ h3, h4⟩⟩

/-- an argument list -/
abbrev Evs := Rho → Sto → Option (List Vl × Sto)
inductive VlsR (K : PySem.W.Frag) (H : Hp) (ι : List Addr) : List V → List Vl → Prop
  | nil : VlsR K H ι [] []
  | cons {v : V} {x : Vl} {vs : List V} {xs : List Vl} : VlR K H ι v x → VlsR K H ι vs xs → VlsR K H ι (v :: vs) (x :: xs)
theorem VlsR.le {K : PySem.W.Frag} {H H' : Hp} {ι ι' : List Addr} (e : Le H ι H' ι') {vs : List V} {xs : List Vl} (h : VlsR K H ι vs xs) : VlsR K H' ι' vs xs := by
  induction h with
  | nil => exact .nil
  | cons h1 h2 ih => exact .cons (h1.le e) ih
theorem VlsR.len {K : PySem.W.Frag} {H : Hp} {ι : List Addr} {vs : List V} {xs : List Vl} (h : VlsR K H ι vs xs) : vs.length = xs.length := by
  induction h with
  | nil => rfl
  | cons h1 h2 ih => rw [List.length_cons, List.length_cons, ih]
def tEvs (K : PySem.W.Frag) (T : Tb) (f : Evs) : TA := fun σ H Q => ∃ ρ ι st r st', EnvR K H ι σ ρ ∧ SR K T H ι st ∧ f ρ st = some (r, st') ∧
  ∀ vs H' ι', Le H ι H' ι' → SR K T H' ι' st' → VlsR K H' ι' vs r → Q vs H'
structure QA (X : Cx) (T : Tb) (es : List Expr) (f : Evs) : Prop where
  pa : PA X es (tEvs X.K T f)
def aNil : Evs := fun _ st => some ([], st)
def aCons (f : Ev) (g : Evs) : Evs := fun ρ st => do
  let (x, s1) ← f ρ st
  let (xs, s2) ← g ρ s1
  some (x :: xs, s2)
theorem qa_nil {X : Cx} {T : Tb} : QA X T [] aNil := ⟨PA.imp pa_nil fun σ H Q ⟨ρ, ι, st, r, st', h1, h2, h3, h4⟩ => by
  cases h3
  exact h4 [] H ι (Le.refl H ι) h2 .nil⟩
/-- the binds of an Option, taken apart -/
theorem bnd {α β : Type} {o : Option α} {k : α → Option β} {r : β} (h : (o >>= k) = some r) : ∃ a, o = some a ∧ k a = some r := Option.bind_eq_some_iff.mp h
theorem qa_cons {X : Cx} {T : Tb} {e : Expr} {es : List Expr} {f : Ev} {g : Evs} (h1 : QE X T e f) (h2 : QA X T es g) (hs : starEach (e :: es) X.env = (false, eval e X.env) :: starEach es X.env := by rfl) : QA X T (e :: es) (aCons f g) := ⟨PA.imp (pa_cons h1.pe h2.pa hs) fun σ H Q ⟨ρ, ι, st, r, st', hE, hS, hf, hk⟩ => by
  obtain ⟨⟨x, s1⟩, e1, hf⟩ := bnd hf
  obtain ⟨⟨xs, s2⟩, e2, hf⟩ := bnd hf
  cases hf
  exact ⟨ρ, ι, st, x, s1, hE, hS, e1, fun v H1 ι1 l1 S1 r1 => ⟨ρ, ι1, s1, xs, _, hE.le l1, S1, e2, fun vs H2 ι2 l2 S2 r2 => hk _ H2 ι2 (l1.trans l2) S2 (.cons (r1.le l2) r2)⟩⟩⟩
end QL

end
section
set_option Elab.async false
set_option linter.all false
set_option autoImplicit false
set_option maxRecDepth 100000
set_option maxHeartbeats 4000000
/-! Q1: rules for expressions. -/
namespace QL
open PySem PySem.Spec PyProof.Rows L2

section
variable {X : Cx} {T : Tb} {e a b c : Expr} {f g h : Ev} {pos : Pos}

/-! ### names, constants -/
def eVar (i : Nat) : Ev := fun ρ st => match ρ[i]? with
  | some (some v) => some (v, st)
  | _ => none
def eC (d : PyData) : Ev := fun _ st => some (.d d, st)
theorem qe_var {i : Nat} {x : Str} (hN : X.N[i]? = some x) (hv : Vis X.env.scope x) (hd : (x == ("__debug__" : Str)) = false := by decide) (hcd : (x == ("__classdict__" : Str)) = false := by decide) : QE X T (.Name x pos) (eVar i) :=
  ⟨PE.imp (pe_var hN hv hd hcd) fun σ H Q ⟨ρ, ι, st, r, st', hE, hS, hf, hk⟩ => by
    unfold eVar at hf
    split at hf
    · rename_i x' q
      obtain ⟨w, h1, h2⟩ := hE.val i x' q
      cases hf
      exact ⟨w, h1, hk w H ι (Le.refl H ι) hS h2⟩
    · cases hf⟩
theorem qe_c {v : V} {d : PyData} (hp : PE X e (tC v)) (hr : ∀ H, Rep X.K H v d) : QE X T e (eC d) :=
  ⟨PE.imp hp fun σ H Q ⟨ρ, ι, st, r, st', hE, hS, hf, hk⟩ => by
    cases hf
    exact hk v H ι (Le.refl H ι) hS (hr H)⟩
theorem qe_int {i : Int} {j : Nat} : QE X T (.Constant (.int i) j pos) (eC (.int i)) := qe_c pe_int fun _ => .int i
theorem qe_bl {i : Bool} {j : Nat} : QE X T (.Constant (.bool i) j pos) (eC (.bool i)) := qe_c pe_bl fun _ => .bl i
theorem qe_non {j : Nat} : QE X T (.Constant .none j pos) (eC .none) := qe_c pe_non fun _ => .non
theorem qe_str {i : Str} {j : Nat} : QE X T (.Constant (.str i) j pos) (eC (.str i)) := qe_c pe_str fun _ => .str i
theorem qe_gint {x : Str} {i : Int} (hm : ∃ t, X.mg x = some (.int i t)) (hg : Gl X x) (hd : (x == ("__debug__" : Str)) = false := by decide) : QE X T (.Name x pos) (eC (.int i)) := by
  obtain ⟨t, hm⟩ := hm
  exact qe_c (pe_glob hg hm (v := .int i) ⟨t, rfl⟩ hd) fun _ => .int i
theorem qe_gstr {x : Str} {i : Str} (hm : ∃ t, X.mg x = some (.str i t)) (hg : Gl X x) (hd : (x == ("__debug__" : Str)) = false := by decide) : QE X T (.Name x pos) (eC (.str i)) := by
  obtain ⟨t, hm⟩ := hm
  exact qe_c (pe_glob hg hm (v := .str i) ⟨t, rfl⟩ hd) fun _ => .str i

/-! ### operations by values -/
abbrev G1 := PyData → Option PyData
abbrev G2 := PyData → PyData → Option PyData
def eOp1 (g : G1) (f : Ev) : Ev := fun ρ st => do
  let (x, s1) ← f ρ st
  let d ← rd x s1
  let z ← g d
  some (.d z, s1)
def eOp2 (g : G2) (f1 f2 : Ev) : Ev := fun ρ st => do
  let (x, s1) ← f1 ρ st
  let (y, s2) ← f2 ρ s1
  let a ← rd x s2
  let b ← rd y s2
  let z ← g a b
  some (.d z, s2)
def Step1 (K : PySem.W.Frag) (r : V → Hp → VK → Prop) (g : G1) : Prop := ∀ (H : Hp) (v : V) (x z : PyData) (Q : VK), RepR K H v x → g x = some z → (∀ v' H', Same H H' → Rep K H' v' z → Q v' H') → r v H Q
def Step2 (K : PySem.W.Frag) (r : R2) (g : G2) : Prop := ∀ (H : Hp) (v u : V) (x y z : PyData) (Q : VK), RepR K H v x → RepR K H u y → g x y = some z → (∀ v' H', Same H H' → Rep K H' v' z → Q v' H') → r v u H Q
theorem fin1 {K : PySem.W.Frag} {H : Hp} {ι : List Addr} {st : Sto} {Q : VK} {z : PyData} (hS : SR K T H ι st) (hk : ∀ v H' ι', Le H ι H' ι' → SR K T H' ι' st → VlR K H' ι' v (.d z) → Q v H') : ∀ v' H', Same H H' → Rep K H' v' z → Q v' H' :=
  fun v' H' hs hr => hk v' H' ι (Le.same hs) (hS.same hs) hr
theorem qe_op1 {r : V → Hp → VK → Prop} {g : G1} (mk : ∀ {ta : TE}, PE X a ta → PE X e (fun σ H Q => ta σ H fun x H1 => r x H1 Q)) (hg : Step1 X.K r g) (ha : QE X T a f) : QE X T e (eOp1 g f) :=
  ⟨PE.imp (mk ha.pe) fun σ H Q ⟨ρ, ι, st, r', st', hE, hS, hf, hk⟩ => by
    obtain ⟨⟨x, s1⟩, e1, hf⟩ := bnd hf
    obtain ⟨d, e2, hf⟩ := bnd hf
    obtain ⟨z, e3, hf⟩ := bnd hf
    cases hf
    exact ⟨ρ, ι, st, x, _, hE, hS, e1, fun v H1 ι1 l1 S1 r1 => hg H1 v d z Q (rd_rep S1 r1 e2) e3 (fin1 S1 fun w H2 ι2 l2 => hk w H2 ι2 (l1.trans l2))⟩⟩
theorem qe_op2 {r : R2} {g : G2} {f1 f2 : Ev} (mk : ∀ {ta tb : TE}, PE X a ta → PE X b tb → PE X e (tOp r ta tb)) (hg : Step2 X.K r g) (ha : QE X T a f1) (hb : QE X T b f2) : QE X T e (eOp2 g f1 f2) :=
  ⟨PE.imp (mk ha.pe hb.pe) fun σ H Q ⟨ρ, ι, st, r', st', hE, hS, hf, hk⟩ => by
    obtain ⟨⟨x, s1⟩, e1, hf⟩ := bnd hf
    obtain ⟨⟨y, s2⟩, e2, hf⟩ := bnd hf
    obtain ⟨p, e3, hf⟩ := bnd hf
    obtain ⟨q, e4, hf⟩ := bnd hf
    obtain ⟨z, e5, hf⟩ := bnd hf
    cases hf
    exact ⟨ρ, ι, st, x, s1, hE, hS, e1, fun v H1 ι1 l1 S1 r1 => ⟨ρ, ι1, s1, y, _, hE.le l1, S1, e2, fun u H2 ι2 l2 S2 r2 =>
      hg H2 v u p q z Q (rd_rep S2 (r1.le l2) e3) (rd_rep S2 r2 e4) e5 (fin1 S2 fun w H3 ι3 l3 => hk w H3 ι3 ((l1.trans l2).trans l3))⟩⟩⟩

/-! ### the operators -/
def gAdd : G2
  | .int i, .int j => some (.int (i + j))
  | .str x, .str y => if x.length + y.length ≤ 16777216 then some (.str (x ++ y)) else none
  | .tuple xs, .tuple ys => if xs.length + ys.length ≤ 16777216 then some (.tuple (xs ++ ys)) else none
  | _, _ => none
def gSub : G2
  | .int i, .int j => some (.int (i - j))
  | _, _ => none
def mulOk (i j : Int) : Bool := (decide (-(2 ^ 64) < i) && decide (i < 2 ^ 64)) || (decide (-(2 ^ 64) < j) && decide (j < 2 ^ 64))
def gMul : G2
  | .int i, .int j => if mulOk i j = true then some (.int (i * j)) else none
  | _, _ => none
def gDiv : G2
  | .int i, .int j => if j ≠ 0 ∧ j.natAbs < 1073741824 then some (.int (i.fdiv j)) else none
  | _, _ => none
def gMod : G2
  | .int i, .int j => if 0 < j then some (.int (i % j)) else none
  | _, _ => none
def gPow : G2
  | .int i, .int j => if 0 ≤ j ∧ j ≤ 1000000 ∧ i.natAbs < 2 ^ 64 then some (.int (i ^ j.toNat)) else none
  | _, _ => none
def gNeg : G1
  | .int i => some (.int (-i))
  | _ => none


section
variable {K : PySem.W.Frag}
def rAddQ (K : PySem.W.Frag) : R2 := fun x y H Q => (rI0 (fun i j => .int (i + j)) x y H Q ∨ ∃ i j, x = .str i ∧ y = .str j ∧ i.length + j.length ≤ sizeLine ∧ Q (.str (i ++ j)) H) ∨ rCatA K x y H Q
theorem st_add : Step2 K (rAddQ K) gAdd := fun H v u x y z Q hx hy hg hk => by
  unfold gAdd at hg
  split at hg
  · cases hg
    rw [hx.int, hy.int]
    exact .inl (.inl ⟨_, _, rfl, rfl, hk _ H (Same.refl H) (.int _)⟩)
  · split at hg
    · rename_i hz
      cases hg
      rw [hx.str, hy.str]
      exact .inl (.inr ⟨_, _, rfl, rfl, hz, hk _ H (Same.refl H) (.str _)⟩)
    · cases hg
  · rename_i xs ys
    split at hg
    · rename_i hz
      cases hg
      obtain ⟨a, vs, rfl, h1, h2⟩ := hx.tuple
      obtain ⟨b, ws, rfl, h3, h4⟩ := hy.tuple
      refine .inr ⟨a, b, vs, ws, rfl, rfl, h1, h3, by rw [h2.len, h4.len]; exact hz, fun e => ?_, fun _ e => ?_, fun _ _ p hp => ?_⟩
      · subst e
        have e0 : xs = [] := List.length_eq_zero_iff.mp h2.len.symm
        subst e0
        exact hk _ H (Same.refl H) (.tup h3 h4)
      · subst e
        have e0 : ys = [] := List.length_eq_zero_iff.mp h4.len.symm
        subst e0
        rw [List.append_nil] at hk
        exact hk _ H (Same.refl H) (.tup h1 h2)
      · have hs := same_upd (o := HO.tup (vs ++ ws)) hp
        exact hk _ _ hs (.tup (SqT.of upd_same) (RepAll.ext (Ext.same hs) _ _ (h2.app h4)))
    · cases hg
  · cases hg
theorem st_sub : Step2 K (rI0 fun i j => .int (i - j)) gSub := fun H v u x y z Q hx hy hg hk => by
  unfold gSub at hg
  split at hg
  · cases hg
    rw [hx.int, hy.int]
    exact ⟨_, _, rfl, rfl, hk _ H (Same.refl H) (.int _)⟩
  · cases hg
theorem mulOk_ok {i j : Int} (h : mulOk i j = true) : CMul i j := by
  unfold mulOk at h
  simp only [Bool.or_eq_true, Bool.and_eq_true, decide_eq_true_eq] at h
  exact h
theorem st_mul : Step2 K (rI CMul fun i j => .int (i * j)) gMul := fun H v u x y z Q hx hy hg hk => by
  unfold gMul at hg
  split at hg
  · split at hg
    · rename_i hm
      cases hg
      rw [hx.int, hy.int]
      exact ⟨_, _, rfl, rfl, mulOk_ok hm, hk _ H (Same.refl H) (.int _)⟩
    · cases hg
  · cases hg
theorem st_div : Step2 K (rI CDivN fun i j => .int (i.fdiv j)) gDiv := fun H v u x y z Q hx hy hg hk => by
  unfold gDiv at hg
  split at hg
  · split at hg
    · rename_i hm
      cases hg
      rw [hx.int, hy.int]
      exact ⟨_, _, rfl, rfl, hm, hk _ H (Same.refl H) (.int _)⟩
    · cases hg
  · cases hg
theorem st_mod : Step2 K (rI (fun _ j => 0 < j) fun i j => .int (i % j)) gMod := fun H v u x y z Q hx hy hg hk => by
  unfold gMod at hg
  split at hg
  · split at hg
    · rename_i hm
      cases hg
      rw [hx.int, hy.int]
      exact ⟨_, _, rfl, rfl, hm, hk _ H (Same.refl H) (.int _)⟩
    · cases hg
  · cases hg
theorem st_pow : Step2 K (rI CPow fun i j => .int (i ^ j.toNat)) gPow := fun H v u x y z Q hx hy hg hk => by
  unfold gPow at hg
  split at hg
  · split at hg
    · rename_i hm
      cases hg
      rw [hx.int, hy.int]
      exact ⟨_, _, rfl, rfl, hm, hk _ H (Same.refl H) (.int _)⟩
    · cases hg
  · cases hg
theorem st_neg : Step1 K (rU fun i => .int (-i)) gNeg := fun H v x z Q hx hg hk => by
  unfold gNeg at hg
  split at hg
  · cases hg
    rw [hx.int]
    exact ⟨_, rfl, hk _ H (Same.refl H) (.int _)⟩
  · cases hg
end
theorem qe_add {f1 f2 : Ev} (ha : QE X T a f1) (hb : QE X T b f2) : QE X T (.BinOp a .Add b pos) (eOp2 gAdd f1 f2) := qe_op2 (fun h1 h2 => pe_op ((op_add.or op_add_str).or op_catA) h1 h2) st_add ha hb
theorem qe_sub {f1 f2 : Ev} (ha : QE X T a f1) (hb : QE X T b f2) : QE X T (.BinOp a .Sub b pos) (eOp2 gSub f1 f2) := qe_op2 (fun h1 h2 => pe_op op_sub h1 h2) st_sub ha hb
theorem qe_mul {f1 f2 : Ev} (ha : QE X T a f1) (hb : QE X T b f2) : QE X T (.BinOp a .Mult b pos) (eOp2 gMul f1 f2) := qe_op2 (fun h1 h2 => pe_op op_mul h1 h2) st_mul ha hb
theorem qe_div {f1 f2 : Ev} (ha : QE X T a f1) (hb : QE X T b f2) : QE X T (.BinOp a .FloorDiv b pos) (eOp2 gDiv f1 f2) := qe_op2 (fun h1 h2 => pe_op op_fdivN h1 h2) st_div ha hb
theorem qe_mod {f1 f2 : Ev} (ha : QE X T a f1) (hb : QE X T b f2) : QE X T (.BinOp a .Mod b pos) (eOp2 gMod f1 f2) := qe_op2 (fun h1 h2 => pe_op op_mod h1 h2) st_mod ha hb
theorem qe_pow {f1 f2 : Ev} (ha : QE X T a f1) (hb : QE X T b f2) : QE X T (.BinOp a .Pow b pos) (eOp2 gPow f1 f2) := qe_op2 (fun h1 h2 => pe_op op_pow h1 h2) st_pow ha hb
theorem qe_neg {f1 : Ev} (ha : QE X T a f1) : QE X T (.UnaryOp .USub a pos) (eOp1 gNeg f1) := qe_op1 (fun h1 => pe_un un_neg h1) st_neg ha

/-! ### comparisons -/
mutual
theorem Rep.plain {K : PySem.W.Frag} {H : Hp} : ∀ (d : PyData) (v : V), Rep K H v d → d.plain = true
  | .none, _, _ => rfl
  | .bool _, _, _ => rfl
  | .int _, _, _ => rfl
  | .str _, _, _ => rfl
  | .list ds, _, h => by
    cases h with
    | lst h1 h2 => simp only [PyData.plain]; exact RepAll.plain ds _ h2
  | .tuple ds, _, h => by
    cases h with
    | tup h1 h2 => simp only [PyData.plain]; exact RepAll.plain ds _ h2
  | .dict _, _, h => by cases h
theorem RepAll.plain {K : PySem.W.Frag} {H : Hp} : ∀ (ds : List PyData) (vs : List V), RepAll K H vs ds → PyData.plainAll ds = true
  | [], _, _ => rfl
  | d :: ds, _, h => by
    cases h with
    | cons h1 h2 => simp only [PyData.plainAll]; rw [Rep.plain d _ h1, RepAll.plain ds _ h2]; rfl
end
theorem RepR.plain {K : PySem.W.Frag} {H : Hp} {v : V} {d : PyData} (h : RepR K H v d) : d.plain = true := by
  rcases h with h | ⟨a, vs, ds, rfl, h1, h2, rfl⟩
  · exact Rep.plain d v h
  · simp only [PyData.plain]; exact RepAll.plain ds vs h2
def rEqQ (K : PySem.W.Frag) : R2 := fun x y H Q => ∃ d e, Dp K H x d ∧ Dp K H y e ∧ d.plain = true ∧ e.plain = true ∧ min d.depth e.depth ≤ 64 ∧ Q (.bl (PyData.eqv d e)) H
def rNeQ (K : PySem.W.Frag) : R2 := fun x y H Q => ∃ d e, Dp K H x d ∧ Dp K H y e ∧ d.plain = true ∧ e.plain = true ∧ min d.depth e.depth ≤ 64 ∧ Q (.bl (!PyData.eqv d e)) H
theorem op_eqQ (hu : X.A.units + 64 < cLine) : OpR X (compareOp .Eq) (rEqQ X.K) := by
  intro pins s σ H x y v u Q I rx ry h
  obtain ⟨d, e, h1, h2, p1, p2, hd, q⟩ := h
  obtain ⟨as, r1⟩ := Dp.reads I d x v h1 rx
  obtain ⟨bs, r2⟩ := Dp.reads I e y u h2 ry
  exact PySem.SeqAt.eq_plain r1 r2 p1 p2 (by omega) (fin_bl I q rfl)
theorem op_neQ (hu : X.A.units + 64 < cLine) : OpR X (compareOp .NotEq) (rNeQ X.K) := by
  intro pins s σ H x y v u Q I rx ry h
  obtain ⟨d, e, h1, h2, p1, p2, hd, q⟩ := h
  obtain ⟨as, r1⟩ := Dp.reads I d x v h1 rx
  obtain ⟨bs, r2⟩ := Dp.reads I e y u h2 ry
  exact PySem.SeqAt.ne_plain r1 r2 p1 p2 (by omega) (fin_bl I q rfl)
/-- a comparison: what it tells of two values -/
abbrev GB := PyData → PyData → Option Bool
def gB (p : GB) : G2 := fun x y => (p x y).map .bool
def pEq : GB := fun x y => if min x.depth y.depth ≤ 64 then some (PyData.eqv x y) else none
def pNe : GB := fun x y => if min x.depth y.depth ≤ 64 then some (!PyData.eqv x y) else none
def pLt : GB
  | .int i, .int j => some (decide (i < j))
  | _, _ => none
def pLe : GB
  | .int i, .int j => some (decide (i ≤ j))
  | _, _ => none
def pGt : GB
  | .int i, .int j => some (decide (j < i))
  | _, _ => none
def pGe : GB
  | .int i, .int j => some (decide (j ≤ i))
  | _, _ => none
def isN : PyData → Bool
  | .none => true
  | _ => false
def pIs : GB
  | x, .none => some (isN x)
  | .bool a, .bool b => some (decide (a = b))
  | _, _ => none
def pIsNot : GB
  | x, .none => some (!isN x)
  | .bool a, .bool b => some (!decide (a = b))
  | _, _ => none
def StepB (K : PySem.W.Frag) (r : R2) (p : GB) : Prop := ∀ (H : Hp) (v u : V) (x y : PyData) (z : Bool) (Q : VK), RepR K H v x → RepR K H u y → p x y = some z → Q (.bl z) H → r v u H Q
theorem StepB.two {K : PySem.W.Frag} {r : R2} {p : GB} (h : StepB K r p) : Step2 K r (gB p) := fun H v u x y z Q hx hy hg hk => by
  obtain ⟨c, e1, e2⟩ := Option.map_eq_some_iff.mp hg
  subst e2
  exact h H v u x y c Q hx hy e1 (hk _ H (Same.refl H) (.bl c))
section
variable {K : PySem.W.Frag}
theorem sb_eq : StepB K (rEqQ K) pEq := fun H v u x y z Q hx hy hg hk => by
  unfold pEq at hg
  split at hg
  · rename_i hd
    cases hg
    exact ⟨x, y, hx.dp, hy.dp, hx.plain, hy.plain, hd, hk⟩
  · cases hg
theorem sb_ne : StepB K (rNeQ K) pNe := fun H v u x y z Q hx hy hg hk => by
  unfold pNe at hg
  split at hg
  · rename_i hd
    cases hg
    exact ⟨x, y, hx.dp, hy.dp, hx.plain, hy.plain, hd, hk⟩
  · cases hg
theorem sb_lt : StepB K (rI0 fun i j => .bl (decide (i < j))) pLt := fun H v u x y z Q hx hy hg hk => by
  unfold pLt at hg
  split at hg
  · cases hg
    rw [hx.int, hy.int]
    exact ⟨_, _, rfl, rfl, hk⟩
  · cases hg
theorem sb_le : StepB K (rI0 fun i j => .bl (decide (i ≤ j))) pLe := fun H v u x y z Q hx hy hg hk => by
  unfold pLe at hg
  split at hg
  · cases hg
    rw [hx.int, hy.int]
    exact ⟨_, _, rfl, rfl, hk⟩
  · cases hg
theorem sb_gt : StepB K (rI0 fun i j => .bl (decide (j < i))) pGt := fun H v u x y z Q hx hy hg hk => by
  unfold pGt at hg
  split at hg
  · cases hg
    rw [hx.int, hy.int]
    exact ⟨_, _, rfl, rfl, hk⟩
  · cases hg
theorem sb_ge : StepB K (rI0 fun i j => .bl (decide (j ≤ i))) pGe := fun H v u x y z Q hx hy hg hk => by
  unfold pGe at hg
  split at hg
  · cases hg
    rw [hx.int, hy.int]
    exact ⟨_, _, rfl, rfl, hk⟩
  · cases hg
theorem isN_v {H : Hp} {v : V} {x : PyData} (hx : RepR K H v x) : decide (v = .non) = isN x := by
  cases x with
  | none => rw [hx.none]; rfl
  | bool b => rw [hx.bool]; rfl
  | int b => rw [hx.int]; rfl
  | str b => rw [hx.str]; rfl
  | list b => obtain ⟨a, vs, rfl, _⟩ := hx.list; rfl
  | tuple b => obtain ⟨a, vs, rfl, _⟩ := hx.tuple; rfl
  | dict b =>
    rcases hx with h | ⟨a, vs, ds', rfl, h1, h2, e⟩
    · cases h
    · cases e
def rIsQ : R2 := fun x y H Q => (y = .non ∧ Q (.bl (decide (x = .non))) H) ∨ rIsB x y H Q
def rIsNotQ : R2 := fun x y H Q => (y = .non ∧ Q (.bl (!decide (x = .non))) H) ∨ rNotB x y H Q
theorem sb_is : StepB K rIsQ pIs := fun H v u x y z Q hx hy hg hk => by
  unfold pIs at hg
  split at hg
  · cases hg
    exact .inl ⟨hy.none, by rw [isN_v hx]; exact hk⟩
  · cases hg
    exact .inr ⟨_, _, hx.bool, hy.bool, hk⟩
  · cases hg
theorem sb_isnot : StepB K rIsNotQ pIsNot := fun H v u x y z Q hx hy hg hk => by
  unfold pIsNot at hg
  split at hg
  · cases hg
    exact .inl ⟨hy.none, by rw [isN_v hx]; exact hk⟩
  · cases hg
    exact .inr ⟨_, _, hx.bool, hy.bool, hk⟩
  · cases hg
end
/-- how an operator compares -/
structure CmpQ (X : Cx) (op : CmpOp) (r : R2) (p : GB) : Prop where
  op : OpR X (compareOp op) r
  st : StepB X.K r p
theorem c_eq (hu : X.A.units + 64 < cLine) : CmpQ X .Eq (rEqQ X.K) pEq := ⟨op_eqQ hu, sb_eq⟩
theorem c_ne (hu : X.A.units + 64 < cLine) : CmpQ X .NotEq (rNeQ X.K) pNe := ⟨op_neQ hu, sb_ne⟩
theorem c_lt : CmpQ X .Lt (rI0 fun i j => .bl (decide (i < j))) pLt := ⟨op_lt, sb_lt⟩
theorem c_le : CmpQ X .LtE (rI0 fun i j => .bl (decide (i ≤ j))) pLe := ⟨op_le, sb_le⟩
theorem c_gt : CmpQ X .Gt (rI0 fun i j => .bl (decide (j < i))) pGt := ⟨op_gt, sb_gt⟩
theorem c_ge : CmpQ X .GtE (rI0 fun i j => .bl (decide (j ≤ i))) pGe := ⟨op_ge, sb_ge⟩
theorem c_is : CmpQ X .Is rIsQ pIs := ⟨op_isN.or op_isBl, sb_is⟩
theorem c_isnot : CmpQ X .IsNot rIsNotQ pIsNot := ⟨op_notN.or op_notBl, sb_isnot⟩

/-! ### tests -/
abbrev Tv := Rho → Sto → Option (Bool × Sto)
def tTs (K : PySem.W.Frag) (T : Tb) (f : Tv) : TT := fun σ H Q => ∃ ρ ι st r st', EnvR K H ι σ ρ ∧ SR K T H ι st ∧ f ρ st = some (r, st') ∧
  ∀ H' ι', Le H ι H' ι' → SR K T H' ι' st' → Q r H'
structure QT (X : Cx) (T : Tb) (e : Expr) (f : Tv) : Prop where
  pt : PT X e (tTs X.K T f)
structure QW (X : Cx) (T : Tb) (e : Expr) (f : Tv) : Prop where
  pw : PW X e (tTs X.K T f)
theorem QW.t {f : Tv} (h : QW X T e f) : QT X T e f := ⟨h.pw.pt⟩
def tCmp2 (p : GB) (f1 f2 : Ev) : Tv := fun ρ st => do
  let (x, s1) ← f1 ρ st
  let (y, s2) ← f2 ρ s1
  let a ← rd x s2
  let b ← rd y s2
  let z ← p a b
  some (z, s2)
theorem qe_cmp {op : CmpOp} {r : R2} {p : GB} {f1 f2 : Ev} (hc : CmpQ X op r p) (ha : QE X T a f1) (hb : QE X T b f2) (hm : behindInMarks op b = false) : QE X T (.Compare a [op] [b] pos) (eOp2 (gB p) f1 f2) :=
  qe_op2 (fun h1 h2 => pe_cmpR hc.op h1 h2 hm) hc.st.two ha hb
theorem qt_cmp {op : CmpOp} {r : R2} {p : GB} {f1 f2 : Ev} (hc : CmpQ X op r p) (ha : QE X T a f1) (hb : QE X T b f2) (hm : behindInMarks op b = false) : QT X T (.Compare a [op] [b] pos) (tCmp2 p f1 f2) :=
  ⟨PT.imp (pt_cmpR hc.op ha.pe hb.pe hm) fun σ H Q ⟨ρ, ι, st, r', st', hE, hS, hf, hk⟩ => by
    obtain ⟨⟨x, s1⟩, e1, hf⟩ := bnd hf
    obtain ⟨⟨y, s2⟩, e2, hf⟩ := bnd hf
    obtain ⟨p', e3, hf⟩ := bnd hf
    obtain ⟨q', e4, hf⟩ := bnd hf
    obtain ⟨z, e5, hf⟩ := bnd hf
    cases hf
    exact ⟨ρ, ι, st, x, s1, hE, hS, e1, fun v H1 ι1 l1 S1 r1 => ⟨ρ, ι1, s1, y, _, hE.le l1, S1, e2, fun u H2 ι2 l2 S2 r2 =>
      hc.st H2 v u p' q' _ _ (rd_rep S2 (r1.le l2) e3) (rd_rep S2 r2 e4) e5 ⟨_, rfl, hk H2 ι2 (l1.trans l2) S2⟩⟩⟩⟩
def tChn (p p' : GB) (f1 f2 f3 : Ev) : Tv := fun ρ st => do
  let (x, s1) ← f1 ρ st
  let (y, s2) ← f2 ρ s1
  let a ← rd x s2
  let b ← rd y s2
  let z ← p a b
  if z = true then do
    let (w, s3) ← f3 ρ s2
    let b' ← rd y s3
    let c ← rd w s3
    let z' ← p' b' c
    some (z', s3)
  else some (false, s2)
theorem chain_step {op op' : CmpOp} {r r' : R2} {p p' : GB} {f1 f2 f3 : Ev} (hc : CmpQ X op r p) (hc' : CmpQ X op' r' p') {σ : L2.St} {H : Hp} {Q : VK} (h : tTs X.K T (tChn p p' f1 f2 f3) σ H (fun b H' => Q (.bl b) H')) :
    tChain r r' (tEv X.K T f1) (tEv X.K T f2) (tEv X.K T f3) σ H Q := by
  obtain ⟨ρ, ι, st, z', st', hE, hS, hf, hk⟩ := h
  obtain ⟨⟨x, s1⟩, e1, hf⟩ := bnd hf
  obtain ⟨⟨y, s2⟩, e2, hf⟩ := bnd hf
  obtain ⟨pp, e3, hf⟩ := bnd hf
  obtain ⟨qq, e4, hf⟩ := bnd hf
  obtain ⟨z, e5, hf⟩ := bnd hf
  refine ⟨ρ, ι, st, x, s1, hE, hS, e1, fun v H1 ι1 l1 S1 r1 => ⟨ρ, ι1, s1, y, _, hE.le l1, S1, e2, fun u H2 ι2 l2 S2 r2 => ?_⟩⟩
  refine hc.st H2 v u pp qq z _ (rd_rep S2 (r1.le l2) e3) (rd_rep S2 r2 e4) e5 ⟨z, rfl, ?_⟩
  cases z with
  | false =>
    rw [if_neg Bool.false_ne_true]
    have hf' : some (false, s2) = some (z', st') := hf
    cases hf'
    exact hk H2 ι2 (l1.trans l2) S2
  | true =>
    rw [if_pos rfl]
    have hf' : (f3 ρ s2 >>= fun q => rd y q.2 >>= fun b' => rd q.1 q.2 >>= fun c => p' b' c >>= fun z' => some (z', q.2)) = some (z', st') := hf
    obtain ⟨⟨w, s3⟩, e6, hf'⟩ := bnd hf'
    obtain ⟨b', e7, hf'⟩ := bnd hf'
    obtain ⟨c', e8, hf'⟩ := bnd hf'
    obtain ⟨z2, e9, hf'⟩ := bnd hf'
    cases hf'
    exact ⟨ρ, ι2, s2, w, _, hE.le (l1.trans l2), S2, e6, fun w' H3 ι3 l3 S3 r3 => hc'.st H3 u w' b' c' z' _ (rd_rep S3 (r2.le l3) e7) (rd_rep S3 r3 e8) e9 (hk H3 ι3 ((l1.trans l2).trans l3) S3)⟩
/-- a test as a value -/
def eT (f : Tv) : Ev := fun ρ st => do
  let (z, s1) ← f ρ st
  some (.d (.bool z), s1)
theorem tTs_of {K : PySem.W.Frag} {f : Tv} {σ : L2.St} {H : Hp} {Q : VK} (h : tEv K T (eT f) σ H Q) : tTs K T f σ H (fun b H' => Q (.bl b) H') := by
  obtain ⟨ρ, ι, st, r, st', hE, hS, hf, hk⟩ := h
  obtain ⟨⟨z, s1⟩, e1, hf⟩ := bnd hf
  cases hf
  exact ⟨ρ, ι, st, z, _, hE, hS, e1, fun H' ι' l S => hk _ H' ι' l S (.bl z)⟩
theorem qe_chain {op op' : CmpOp} {r r' : R2} {p p' : GB} {f1 f2 f3 : Ev} (hc : CmpQ X op r p) (hc' : CmpQ X op' r' p') (ha : QE X T a f1) (hb : QE X T b f2) (hd : QE X T c f3)
    (hm : lastMarks [op, op'] [b, c] = false := by with_unfolding_all rfl) : QE X T (.Compare a [op, op'] [b, c] pos) (eT (tChn p p' f1 f2 f3)) :=
  ⟨PE.imp (pe_chain hc.op hc'.op ha.pe hb.pe hd.pe hm) fun σ H Q h => chain_step hc hc' (tTs_of h)⟩
theorem qt_chain {op op' : CmpOp} {r r' : R2} {p p' : GB} {f1 f2 f3 : Ev} (hc : CmpQ X op r p) (hc' : CmpQ X op' r' p') (ha : QE X T a f1) (hb : QE X T b f2) (hd : QE X T c f3)
    (hm : lastMarks [op, op'] [b, c] = false := by with_unfolding_all rfl) : QT X T (.Compare a [op, op'] [b, c] pos) (tChn p p' f1 f2 f3) :=
  ⟨PT.imp (pt_chain hc.op hc'.op ha.pe hb.pe hd.pe hm) fun σ H Q h => chain_step hc hc' (Q := fun x H' => ∃ k, x = .bl k ∧ Q k H') (by
    obtain ⟨ρ, ι, st, r, st', hE, hS, hf, hk⟩ := h
    exact ⟨ρ, ι, st, r, st', hE, hS, hf, fun H' ι' l S => ⟨r, rfl, hk H' ι' l S⟩⟩)⟩
/-- a value as a test: a bool -/
def tV (f : Ev) : Tv := fun ρ st => do
  let (x, s1) ← f ρ st
  match x with
  | .d (.bool z) => some (z, s1)
  | _ => none
theorem qt_val {f : Ev} (h : QE X T e f) (he : ∀ whole, isTrue e X.env whole = (do let v ← whole; standAt e.pos; holding [v] (truthy v)) := by intro _; rfl) : QT X T e (tV f) :=
  ⟨PT.imp (pt_val h.pe he) fun σ H Q ⟨ρ, ι, st, r, st', hE, hS, hf, hk⟩ => by
    obtain ⟨⟨x, s1⟩, e1, hf⟩ := bnd hf
    refine ⟨ρ, ι, st, x, s1, hE, hS, e1, fun v H1 ι1 l1 S1 r1 => ?_⟩
    cases x with
    | loc n => cases hf
    | d x =>
      cases x with
      | bool z => cases hf; cases r1; exact ⟨r, rfl, hk H1 ι1 l1 S1⟩
      | _ => cases hf⟩
def tAndQ (f g : Tv) : Tv := fun ρ st => do
  let (z, s1) ← f ρ st
  if z = true then g ρ s1 else some (false, s1)
def tOrQ (f g : Tv) : Tv := fun ρ st => do
  let (z, s1) ← f ρ st
  if z = true then some (true, s1) else g ρ s1
def tNotQ (f : Tv) : Tv := fun ρ st => do
  let (z, s1) ← f ρ st
  some (!z, s1)
theorem qw_and1 {f : Tv} (h : QT X T a f) : QW X T (.BoolOp .And [a] pos) f := ⟨pw_and1 h.pt⟩
theorem qw_or1 {f : Tv} (h : QT X T a f) : QW X T (.BoolOp .Or [a] pos) f := ⟨pw_or1 h.pt⟩
theorem PW.imp {X : Cx} {e : Expr} {t t' : TT} (h : PW X e t) (i : ∀ σ H Q, t' σ H Q → t σ H Q) : PW X e t' := ⟨fun wh pins s σ H Q I q => h.run wh pins s σ H Q I (i σ H Q q)⟩
theorem qw_and {f g : Tv} {rest : List Expr} (ha : QT X T a f) (hb : QW X T (.BoolOp .And (b :: rest) pos) g) : QW X T (.BoolOp .And (a :: b :: rest) pos) (tAndQ f g) :=
  ⟨PW.imp (pw_and ha.pt hb.pw) fun σ H Q ⟨ρ, ι, st, r, st', hE, hS, hf, hk⟩ => by
    obtain ⟨⟨z, s1⟩, e1, hf⟩ := bnd hf
    refine ⟨ρ, ι, st, z, s1, hE, hS, e1, fun H1 ι1 l1 S1 => ?_⟩
    cases z with
    | true => exact iteT ⟨ρ, ι1, s1, r, st', hE.le l1, S1, hf, fun H2 ι2 l2 S2 => hk H2 ι2 (l1.trans l2) S2⟩
    | false =>
      have hf' : some (false, s1) = some (r, st') := hf
      cases hf'
      exact iteF (hk H1 ι1 l1 S1)⟩
theorem qw_or {f g : Tv} {rest : List Expr} (ha : QT X T a f) (hb : QW X T (.BoolOp .Or (b :: rest) pos) g) : QW X T (.BoolOp .Or (a :: b :: rest) pos) (tOrQ f g) :=
  ⟨PW.imp (pw_or ha.pt hb.pw) fun σ H Q ⟨ρ, ι, st, r, st', hE, hS, hf, hk⟩ => by
    obtain ⟨⟨z, s1⟩, e1, hf⟩ := bnd hf
    refine ⟨ρ, ι, st, z, s1, hE, hS, e1, fun H1 ι1 l1 S1 => ?_⟩
    cases z with
    | false => exact iteF ⟨ρ, ι1, s1, r, st', hE.le l1, S1, hf, fun H2 ι2 l2 S2 => hk H2 ι2 (l1.trans l2) S2⟩
    | true =>
      have hf' : some (true, s1) = some (r, st') := hf
      cases hf'
      exact iteT (hk H1 ι1 l1 S1)⟩
theorem qt_not {f : Tv} (h : QT X T a f) : QT X T (.UnaryOp .Not a pos) (tNotQ f) :=
  ⟨PT.imp (pt_not h.pt) fun σ H Q ⟨ρ, ι, st, r, st', hE, hS, hf, hk⟩ => by
    obtain ⟨⟨z, s1⟩, e1, hf⟩ := bnd hf
    cases hf
    exact ⟨ρ, ι, st, z, _, hE, hS, e1, fun H1 ι1 l1 S1 => hk H1 ι1 l1 S1⟩⟩
/-- and, or, not as values, all but the last a bool -/
def eAnd (f g : Ev) : Ev := fun ρ st => do
  let (z, s1) ← tV f ρ st
  if z = true then g ρ s1 else some (.d (.bool false), s1)
def eOr (f g : Ev) : Ev := fun ρ st => do
  let (z, s1) ← tV f ρ st
  if z = true then some (.d (.bool true), s1) else g ρ s1
def eNot (f : Ev) : Ev := eT (tNotQ (tV f))
theorem tV_ex {f : Ev} {ρ : Rho} {st s1 : Sto} {z : Bool} (h : tV f ρ st = some (z, s1)) : f ρ st = some (.d (.bool z), s1) := by
  obtain ⟨⟨x, s⟩, e1, hf⟩ := bnd h
  cases x with
  | loc n => cases hf
  | d x =>
    cases x with
    | bool z' => cases hf; exact e1
    | _ => cases hf
theorem qe_one {op : BoolOp} {f : Ev} (h : QE X T a f) : QE X T (.BoolOp op [a] pos) f := ⟨pe_one h.pe⟩
theorem qe_and {f g : Ev} {rest : List Expr} (ha : QE X T a f) (hb : QE X T (.BoolOp .And (b :: rest) pos) g) : QE X T (.BoolOp .And (a :: b :: rest) pos) (eAnd f g) :=
  ⟨PE.imp (pe_and ha.pe hb.pe) fun σ H Q ⟨ρ, ι, st, r, st', hE, hS, hf, hk⟩ => by
    obtain ⟨⟨z, s1⟩, e1, hf⟩ := bnd hf
    refine ⟨ρ, ι, st, _, s1, hE, hS, tV_ex e1, fun v H1 ι1 l1 S1 r1 => ?_⟩
    cases r1
    refine ⟨z, rfl, ?_⟩
    cases z with
    | true => exact iteT ⟨ρ, ι1, s1, r, st', hE.le l1, S1, hf, fun w H2 ι2 l2 S2 r2 => hk w H2 ι2 (l1.trans l2) S2 r2⟩
    | false =>
      have hf' : some (Vl.d (.bool false), s1) = some (r, st') := hf
      cases hf'
      exact iteF (hk _ H1 ι1 l1 S1 (.bl false))⟩
theorem qe_or {f g : Ev} {rest : List Expr} (ha : QE X T a f) (hb : QE X T (.BoolOp .Or (b :: rest) pos) g) : QE X T (.BoolOp .Or (a :: b :: rest) pos) (eOr f g) :=
  ⟨PE.imp (pe_or ha.pe hb.pe) fun σ H Q ⟨ρ, ι, st, r, st', hE, hS, hf, hk⟩ => by
    obtain ⟨⟨z, s1⟩, e1, hf⟩ := bnd hf
    refine ⟨ρ, ι, st, _, s1, hE, hS, tV_ex e1, fun v H1 ι1 l1 S1 r1 => ?_⟩
    cases r1
    refine ⟨z, rfl, ?_⟩
    cases z with
    | false => exact iteF ⟨ρ, ι1, s1, r, st', hE.le l1, S1, hf, fun w H2 ι2 l2 S2 r2 => hk w H2 ι2 (l1.trans l2) S2 r2⟩
    | true =>
      have hf' : some (Vl.d (.bool true), s1) = some (r, st') := hf
      cases hf'
      exact iteT (hk _ H1 ι1 l1 S1 (.bl true))⟩
theorem qe_not {f : Ev} (ha : QE X T a f) : QE X T (.UnaryOp .Not a pos) (eNot f) :=
  ⟨PE.imp (pe_not ha.pe) fun σ H Q ⟨ρ, ι, st, r, st', hE, hS, hf, hk⟩ => by
    obtain ⟨⟨z, s1⟩, e1, hf⟩ := bnd hf
    obtain ⟨⟨z', s2⟩, e2, e1⟩ := bnd e1
    cases e1
    cases hf
    refine ⟨ρ, ι, st, _, _, hE, hS, tV_ex e2, fun v H1 ι1 l1 S1 r1 => ?_⟩
    cases r1
    exact ⟨z', rfl, hk _ H1 ι1 l1 S1 (.bl _)⟩⟩
def eIf (t : Tv) (f g : Ev) : Ev := fun ρ st => do
  let (z, s1) ← t ρ st
  if z = true then f ρ s1 else g ρ s1
theorem qe_if {t : Tv} {f g : Ev} (hc : QT X T c t) (ha : QE X T a f) (hb : QE X T b g) : QE X T (.IfExp c a b pos) (eIf t f g) :=
  ⟨PE.imp (pe_ifExp hc.pt ha.pe hb.pe) fun σ H Q ⟨ρ, ι, st, r, st', hE, hS, hf, hk⟩ => by
    obtain ⟨⟨z, s1⟩, e1, hf⟩ := bnd hf
    refine ⟨ρ, ι, st, z, s1, hE, hS, e1, fun H1 ι1 l1 S1 => ?_⟩
    cases z with
    | true => exact iteT ⟨ρ, ι1, s1, r, st', hE.le l1, S1, hf, fun w H2 ι2 l2 S2 r2 => hk w H2 ι2 (l1.trans l2) S2 r2⟩
    | false => exact iteF ⟨ρ, ι1, s1, r, st', hE.le l1, S1, hf, fun w H2 ι2 l2 S2 r2 => hk w H2 ι2 (l1.trans l2) S2 r2⟩⟩
end
end QL

end
section
set_option Elab.async false
set_option linter.all false
set_option autoImplicit false
set_option maxRecDepth 100000
set_option maxHeartbeats 4000000
/-! Q2: new lists, displays, subscripts, built-ins, walks, comprehensions, statements, calls. -/
namespace QL
open PySem PySem.Spec PyProof.Rows L2

/-! ### what changes under a mutable address -/
section
variable {K : PySem.W.Frag} {T : Tb} {H H' : Hp} {ι ι' : List Addr} {st st' : Sto}
theorem codeO_lst {c : Addr} {q : Str} (vs : List V) : LamX.CodeO c q ≠ .lst vs := fun z => by
  unfold LamX.CodeO at z
  cases z
theorem tabs_but {p : Addr} {vs : List V} {o : HO} (t : LamX.Tabs T H) (hp : H p = some (.lst vs)) : LamX.Tabs T (upd H p o) := fun q hq => by
  obtain ⟨ps, h1, h2, h3⟩ := t q hq
  refine ⟨ps, ?_, h2, fun pos cv e => ?_⟩
  · rw [upd_ne (ne_of h1 hp (fun z => by cases z))]; exact h1
  · obtain ⟨c, e1, e2⟩ := h3 pos cv e
    exact ⟨c, e1, by rw [upd_ne (ne_of e2 hp (codeO_lst vs))]; exact e2⟩
theorem ext_but {p : Addr} {vs : List V} {o : HO} (hp : H p = some (.lst vs)) : Ext H (upd H p o) := ⟨fun b xs e => by
  rw [upd_ne (ne_of e hp (fun z => by cases z))]; exact e, fun b q u e => by
  rw [upd_ne (ne_of e hp (fun z => by cases z))]; exact e⟩
theorem CellOk.but {p a : Addr} {vs : List V} {o : HO} {c : Cell} (hp : H p = some (.lst vs)) (ne : a ≠ p) (h : CellOk K H a c) : CellOk K (upd H p o) a c := by
  cases c with
  | lst ds => obtain ⟨ws, h1, h2⟩ := h; exact ⟨ws, by rw [upd_ne ne]; exact h1, RepAll.ext (ext_but hp) ds ws h2⟩
/-- an address that no cell stands for is changed -/
theorem SR.but {p : Addr} {vs : List V} {o : HO} (h : SR K T H ι st) (hp : H p = some (.lst vs)) (np : p ∉ ι) : SR K T (upd H p o) ι st where
  len := h.len
  nd := h.nd
  trk := fun a ha z => by
    have ne : a ≠ p := fun e => np (e ▸ ha)
    rw [upd_ne ne] at z
    exact h.trk a ha z
  cell := fun i c hc => by
    obtain ⟨a, h1, h2⟩ := h.cell i c hc
    exact ⟨a, h1, h2.but hp fun e => np (e ▸ List.mem_of_getElem? h1)⟩
  tabs := tabs_but h.tabs hp
/-- .. becomes a cell -/
theorem SR.own {p : Addr} {vs : List V} {ds : List PyData} (h : SR K T H ι st) (hp : H p = some (.lst vs)) (np : p ∉ ι) (ra : RepAll K H vs ds) : SR K T H (ι ++ [p]) (st ++ [some (.lst ds)]) where
  len := by rw [List.length_append, List.length_append, h.len]; rfl
  nd := by
    rw [List.nodup_append]
    exact ⟨h.nd, by simp, fun a ha b hb e => np (by simp at hb; rw [← hb, ← e]; exact ha)⟩
  trk := fun a ha => by
    rcases List.mem_append.mp ha with h1 | h1
    · exact h.trk a h1
    · simp at h1; subst h1; rw [hp]; exact fun z => by cases z
  cell := fun i c hc => by
    by_cases hi : i < st.length
    · rw [List.getElem?_append_left hi] at hc
      obtain ⟨a, h1, h2⟩ := h.cell i c hc
      exact ⟨a, by rw [List.getElem?_append_left (by rw [h.len]; exact hi)]; exact h1, h2⟩
    · rw [List.getElem?_append_right (by omega)] at hc
      have e0 : i - st.length = 0 := by
        cases q : i - st.length with
        | zero => rfl
        | succ k => rw [q] at hc; simp at hc
      rw [e0] at hc
      simp at hc
      subst hc
      have hl := h.len
      exact ⟨p, by rw [List.getElem?_append_right (by omega), show i - ι.length = 0 by omega]; rfl, vs, hp, ra⟩
  tabs := h.tabs
/-- a cell's list is changed -/
theorem SR.put {n : Nat} {a : Addr} {vs ws : List V} {ds es : List PyData} (h : SR K T H ι st) (ha : ι[n]? = some a) (hp : H a = some (.lst vs)) (ra : RepAll K H ws es) : SR K T (upd H a (.lst ws)) ι (st.set n (some (.lst es))) where
  len := by rw [List.length_set]; exact h.len
  nd := h.nd
  trk := fun b hb z => by
    by_cases e : b = a
    · subst e; rw [upd_same] at z; cases z
    · rw [upd_ne e] at z; exact h.trk b hb z
  cell := fun i c hc => by
    by_cases hi : i = n
    · subst hi
      by_cases hl : i < st.length
      · rw [List.getElem?_set_self hl] at hc
        cases hc
        exact ⟨a, ha, ws, upd_same, RepAll.ext (ext_but hp) _ _ ra⟩
      · rw [List.getElem?_eq_none (by rw [List.length_set]; omega)] at hc; cases hc
    · rw [List.getElem?_set_ne (Ne.symm hi)] at hc
      obtain ⟨b, h1, h2⟩ := h.cell i c hc
      refine ⟨b, h1, h2.but hp fun e => hi ?_⟩
      subst e
      obtain ⟨l1, e1⟩ := List.getElem?_eq_some_iff.mp h1
      obtain ⟨l2, e2⟩ := List.getElem?_eq_some_iff.mp ha
      exact (List.getElem_inj h.nd).mp (e1.trans e2.symm)
  tabs := tabs_but h.tabs hp
/-- a cell is given up -/
theorem SR.kill {n : Nat} {a : Addr} {vs : List V} {o : HO} (h : SR K T H ι st) (ha : ι[n]? = some a) (hp : H a = some (.lst vs)) : SR K T (upd H a o) ι (st.set n none) where
  len := by rw [List.length_set]; exact h.len
  nd := h.nd
  trk := fun b hb z => by
    by_cases e : b = a
    · subst e; rw [upd_same] at z; cases z
    · rw [upd_ne e] at z; exact h.trk b hb z
  cell := fun i c hc => by
    by_cases hi : i = n
    · subst hi
      by_cases hl : i < st.length
      · rw [List.getElem?_set_self hl] at hc; cases hc
      · rw [List.getElem?_eq_none (by rw [List.length_set]; omega)] at hc; cases hc
    · rw [List.getElem?_set_ne (Ne.symm hi)] at hc
      obtain ⟨b, h1, h2⟩ := h.cell i c hc
      refine ⟨b, h1, h2.but hp fun e => hi ?_⟩
      subst e
      obtain ⟨l1, e1⟩ := List.getElem?_eq_some_iff.mp h1
      obtain ⟨l2, e2⟩ := List.getElem?_eq_some_iff.mp ha
      exact (List.getElem_inj h.nd).mp (e1.trans e2.symm)
  tabs := tabs_but h.tabs hp
theorem EnvR.but {σ : L2.St} {ρ : Rho} (e : Le H ι H' ι') (h : EnvR K H ι σ ρ) : EnvR K H' ι' σ ρ := h.le e
end

/-! ### new lists -/
abbrev Lv := Rho → Sto → Option (List PyData × Sto)
def tFr (K : PySem.W.Frag) (T : Tb) (f : Lv) : TE := fun σ H Q => ∃ ρ ι st ds st', EnvR K H ι σ ρ ∧ SR K T H ι st ∧ f ρ st = some (ds, st') ∧
  ∀ p vs H' ι', H p = none → Le H ι H' ι' → SR K T H' ι' st' → H' p = some (.lst vs) → p ∉ ι' → RepAll K H' vs ds → Q (.ref p) H'
structure QL (X : Cx) (T : Tb) (e : Expr) (f : Lv) : Prop where
  pe : PE X e (tFr X.K T f)
/-- .. locked -/
def eFz (f : Lv) : Ev := fun ρ st => do
  let (ds, s1) ← f ρ st
  some (.d (.list ds), s1)
/-- .. kept as a cell -/
def eOwn (f : Lv) : Ev := fun ρ st => do
  let (ds, s1) ← f ρ st
  some (.loc s1.length, s1 ++ [some (.lst ds)])
section
variable {X : Cx} {T : Tb} {e a b c : Expr} {pos : Pos}
theorem qe_fz {f : Lv} (h : QL X T e f) : QE X T e (eFz f) := ⟨⟨fun pins s σ H Q I ⟨ρ, ι, st, r, st', hE, hS, hf, hk⟩ => by
  obtain ⟨⟨ds, s1⟩, e1, hf⟩ := bnd hf
  cases hf
  have w := h.pe.run pins s σ H (fun v H' => ∃ p vs ι', v = .ref p ∧ H p = none ∧ H' p = some (.lst vs) ∧ Le H ι H' ι' ∧ SR X.K T H' ι' _ ∧ p ∉ ι' ∧ RepAll X.K H' vs ds) I ⟨ρ, ι, st, ds, _, hE, hS, e1, fun p vs H' ι' h0 l S hp np ra => ⟨p, vs, ι', rfl, h0, hp, l, S, np, ra⟩⟩
  refine thn w fun u s1 ⟨v, H1, I1, r1, ⟨p, vs, ι1, ev, h0, hp, l1, S1, np, ra⟩⟩ => ?_
  subst ev
  obtain ⟨od, I2⟩ := I1.lock hp trivial
  have x : Ext H1 (upd H1 p (.frz od (.lst vs))) := ext_but hp
  exact ⟨.ref p, _, I2, r1, hk _ _ ι1 (l1.upd h0) (S1.but hp np) (Rep.lst (.inl ⟨od, upd_same⟩) (RepAll.ext x _ _ ra))⟩⟩⟩
theorem qe_own {f : Lv} (h : QL X T e f) : QE X T e (eOwn f) := ⟨PE.imp h.pe fun σ H Q ⟨ρ, ι, st, r, st', hE, hS, hf, hk⟩ => by
  obtain ⟨⟨ds, s1⟩, e1, hf⟩ := bnd hf
  cases hf
  refine ⟨ρ, ι, st, ds, s1, hE, hS, e1, fun p vs H' ι' h0 l S hp np ra => hk _ H' (ι' ++ [p]) (l.own h0) (S.own hp np ra) ⟨p, ?_, rfl⟩⟩
  rw [← S.len, List.getElem?_append_right (Nat.le_refl _)]
  simp⟩

/-! ### displays -/
def datV : Vl → Option PyData
  | .d x => some x
  | _ => none
def dats : List Vl → Option (List PyData)
  | [] => some []
  | x :: xs => do
    let d ← datV x
    let ds ← dats xs
    some (d :: ds)
theorem dats_rep {K : PySem.W.Frag} {H : Hp} {ι : List Addr} {vs : List V} {xs : List Vl} (h : VlsR K H ι vs xs) : ∀ {ds : List PyData}, dats xs = some ds → RepAll K H vs ds := by
  induction h with
  | nil => intro ds e; cases e; exact .nil
  | @cons v x vs xs h1 h2 ih =>
    intro ds e
    obtain ⟨d, e1, e⟩ := bnd e
    obtain ⟨es, e2, e⟩ := bnd e
    cases e
    cases x with
    | loc n => cases e1
    | d y => cases e1; exact .cons h1 (ih e2)
def lDisp (g : Evs) : Lv := fun ρ st => do
  let (xs, s1) ← g ρ st
  let ds ← dats xs
  if ds.length ≤ 16777216 then some (ds, s1) else none
def eTup (g : Evs) : Ev := fun ρ st => do
  let (ds, s1) ← lDisp g ρ st
  some (.d (.tuple ds), s1)
theorem size_ok {n : Nat} (h : n ≤ 16777216) : n ≤ sizeLine := h
theorem ql_lst {es : List Expr} {g : Evs} (h : QA X T es g) : QL X T (.List es pos) (lDisp g) := ⟨PE.imp (pe_lst h.pa) fun σ H Q ⟨ρ, ι, st, ds, st', hE, hS, hf, hk⟩ => by
  obtain ⟨⟨xs, s1⟩, e1, hf⟩ := bnd hf
  obtain ⟨ds', e2, hf⟩ := bnd hf
  have hf' : (if ds'.length ≤ 16777216 then some (ds', s1) else none) = some (ds, st') := hf
  split at hf'
  · rename_i hz
    cases hf'
    refine ⟨ρ, ι, st, xs, _, hE, hS, e1, fun vs H1 ι1 l1 S1 r1 => ?_⟩
    have ra := dats_rep r1 e2
    refine ⟨by rw [ra.len]; exact size_ok hz, fun p hp => ?_⟩
    have hs := same_upd (o := HO.lst vs) hp
    exact hk p vs _ ι1 (l1.free S1 hp) (l1.trans (Le.same hs)) (S1.same hs) upd_same (nmem_of S1 hp) (RepAll.ext (Ext.same hs) _ _ ra)
  · cases hf'⟩
theorem qe_tup {es : List Expr} {g : Evs} {k : Nat} (h : QA X T es g) : QE X T (.Tuple es k pos) (eTup g) := ⟨PE.imp (pe_tup h.pa) fun σ H Q ⟨ρ, ι, st, ds, st', hE, hS, hf, hk⟩ => by
  obtain ⟨⟨ds', s1⟩, e0, hf⟩ := bnd hf
  cases hf
  obtain ⟨⟨xs, s1⟩, e1, e0⟩ := bnd e0
  obtain ⟨ds2, e2, e0⟩ := bnd e0
  have hf' : (if ds2.length ≤ 16777216 then some (ds2, s1) else none) = some (ds', st') := e0
  split at hf'
  · rename_i hz
    cases hf'
    refine ⟨ρ, ι, st, xs, _, hE, hS, e1, fun vs H1 ι1 l1 S1 r1 => ?_⟩
    have ra := dats_rep r1 e2
    refine ⟨by rw [ra.len]; exact size_ok hz, fun p hp => ?_⟩
    have hs := same_upd (o := HO.tup vs) hp
    exact hk _ _ ι1 (l1.trans (Le.same hs)) (S1.same hs) (Rep.tup (SqT.of upd_same) (RepAll.ext (Ext.same hs) _ _ ra))
  · cases hf'⟩
/-- *e among arguments -/
def seqOf : PyData → Option (List PyData)
  | .list xs => some xs
  | .tuple xs => some xs
  | _ => none
def aStar (f : Ev) (g : Evs) : Evs := fun ρ st => do
  let (x, s1) ← f ρ st
  let d ← datV x
  let ds ← seqOf d
  let (ys, s2) ← g ρ s1
  some (ds.map .d ++ ys, s2)
theorem VlsR.app {K : PySem.W.Frag} {H : Hp} {ι : List Addr} {vs ws : List V} {xs : List PyData} {ys : List Vl} (h : RepAll K H vs xs) (h' : VlsR K H ι ws ys) : VlsR K H ι (vs ++ ws) (xs.map .d ++ ys) := by
  induction xs generalizing vs with
  | nil => cases h; exact h'
  | cons d ds ih => cases h with
    | cons h1 h2 => exact .cons h1 (ih h2)
theorem rep_seq {K : PySem.W.Frag} {H : Hp} {v : V} {d : PyData} {ds : List PyData} (h : Rep K H v d) (e : seqOf d = some ds) : ∃ p vs, v = .ref p ∧ (SqT K H p vs ∨ SqL K H p vs) ∧ RepAll K H vs ds := by
  cases d with
  | list xs => cases e; cases h with
    | lst h1 h2 => exact ⟨_, _, rfl, .inr h1.sq, h2⟩
  | tuple xs => cases e; cases h with
    | tup h1 h2 => exact ⟨_, _, rfl, .inl h1, h2⟩
  | _ => cases e
theorem qa_star {es : List Expr} {f : Ev} {g : Evs} {p : Pos} (h1 : QE X T e f) (h2 : QA X T es g) (hs : starEach (.Starred e p :: es) X.env = (true, eval e X.env) :: starEach es X.env := by rfl) : QA X T (.Starred e p :: es) (aStar f g) :=
  ⟨PA.imp (StX.pa_star h1.pe h2.pa hs) fun σ H Q ⟨ρ, ι, st, r, st', hE, hS, hf, hk⟩ => by
    obtain ⟨⟨x, s1⟩, e1, hf⟩ := bnd hf
    obtain ⟨d, e2, hf⟩ := bnd hf
    obtain ⟨ds, e3, hf⟩ := bnd hf
    obtain ⟨⟨ys, s2⟩, e4, hf⟩ := bnd hf
    cases hf
    refine ⟨ρ, ι, st, x, s1, hE, hS, e1, fun v H1 ι1 l1 S1 r1 => ?_⟩
    cases x with
    | loc n => cases e2
    | d y =>
      cases e2
      obtain ⟨p, vs, ev, hq, ra⟩ := rep_seq (show Rep X.K H1 v d from r1) e3
      exact ⟨p, vs, ev, hq, ρ, ι1, s1, ys, _, hE.le l1, S1, e4, fun ws H2 ι2 l2 S2 r2 => hk _ H2 ι2 (l1.trans l2) S2 (VlsR.app (RepAll.ext l2.ext _ _ ra) r2)⟩⟩

/-! ### subscripts, slices -/
def gIx : G2
  | .list xs, .int i => atI xs i
  | .tuple xs, .int i => atI xs i
  | .str z, .int i => if z.length ≤ 16777216 then (atI z.cps.toList i).map fun c => .str ⟨#[c]⟩ else none
  | _, _ => none
theorem atI_rep {K : PySem.W.Frag} {H : Hp} {vs : List V} {ds : List PyData} {i : Int} {d : PyData} (h : RepAll K H vs ds) (e : atI ds i = some d) : ∃ v, atI vs i = some v ∧ Rep K H v d := by
  unfold atI at e ⊢
  rw [h.len]
  obtain ⟨j, e1, e2⟩ := Option.bind_eq_some_iff.mp e
  obtain ⟨v, h1, h2⟩ := h.get' e2
  exact ⟨v, by rw [e1]; exact h1, h2⟩
theorem st_ix {K : PySem.W.Frag} : Step2 K (rIx K) gIx := fun H v u x y z Q hx hy hg hk => by
  unfold gIx at hg
  split at hg
  · obtain ⟨p, vs, rfl, h1, h2⟩ := hx.list
    obtain ⟨w, e1, e2⟩ := atI_rep h2 hg
    exact .inl ⟨p, vs, _, w, rfl, hy.int, h1, e1, hk w H (Same.refl H) e2⟩
  · obtain ⟨p, vs, rfl, h1, h2⟩ := hx.tuple
    obtain ⟨w, e1, e2⟩ := atI_rep h2 hg
    exact .inr (.inl ⟨p, vs, _, w, rfl, hy.int, h1, e1, hk w H (Same.refl H) e2⟩)
  · split at hg
    · rename_i hz
      obtain ⟨c, e1, e2⟩ := Option.map_eq_some_iff.mp hg
      subst e2
      exact .inr (.inr ⟨_, _, c, hx.str, hy.int, size_ok hz, e1, hk _ H (Same.refl H) (.str _)⟩)
    · cases hg
  · cases hg
theorem qe_ix {f g : Ev} (ha : QE X T a f) (hb : QE X T b g) (hs : PlainIx b) : QE X T (.Subscript a b pos) (eOp2 gIx f g) := qe_op2 (fun h1 h2 => pe_ix ix_seq h1 h2 hs) st_ix ha hb
/-- a slice of a tuple; of a list: a new one -/
abbrev Ov := Rho → Sto → Option (Option Int × Sto)
def tOv (K : PySem.W.Frag) (T : Tb) (f : Ov) : TO := fun σ H Q => ∃ ρ ι st r st', EnvR K H ι σ ρ ∧ SR K T H ι st ∧ f ρ st = some (r, st') ∧ ∀ H' ι', Le H ι H' ι' → SR K T H' ι' st' → Q r H'
structure QO (X : Cx) (T : Tb) (e : Option Expr) (f : Ov) : Prop where
  po : PO X e (tOv X.K T f)
def oNone : Ov := fun _ st => some (none, st)
def oSome (f : Ev) : Ov := fun ρ st => do
  let (x, s1) ← f ρ st
  match x with
  | .d (.int i) => some (some i, s1)
  | _ => none
theorem PO.imp {e : Option Expr} {t t' : TO} (h : PO X e t) (i : ∀ σ H Q, t' σ H Q → t σ H Q) : PO X e t' := ⟨fun pins s σ H Q I q => h.run pins s σ H Q I (i σ H Q q)⟩
theorem qo_none : QO X T none oNone := ⟨PO.imp po_none fun σ H Q ⟨ρ, ι, st, r, st', hE, hS, hf, hk⟩ => by
  cases hf
  exact hk H ι (Le.refl H ι) hS⟩
theorem qo_some {f : Ev} (h : QE X T e f) : QO X T (some e) (oSome f) := ⟨PO.imp (po_some h.pe) fun σ H Q ⟨ρ, ι, st, r, st', hE, hS, hf, hk⟩ => by
  obtain ⟨⟨x, s1⟩, e1, hf⟩ := bnd hf
  refine ⟨ρ, ι, st, x, s1, hE, hS, e1, fun v H1 ι1 l1 S1 r1 => ?_⟩
  cases x with
  | loc n => cases hf
  | d y =>
    cases y with
    | int i => cases hf; cases r1; exact ⟨i, rfl, hk H1 ι1 l1 S1⟩
    | _ => cases hf⟩
def cutD {α : Type} (xs : List α) (lo hi : Option Int) : List α := (xs.drop (HT.sIx xs.length 0 lo)).take (HT.sIx xs.length xs.length hi - HT.sIx xs.length 0 lo)
theorem cut_rep {K : PySem.W.Frag} {H : Hp} {vs : List V} {ds : List PyData} (h : RepAll K H vs ds) (lo hi : Option Int) : RepAll K H (cutV vs lo hi) (cutD ds lo hi) := by
  unfold cutV cutD
  rw [h.len]
  exact (h.drop _).take _
theorem cut_whole {α : Type} {xs : List α} {lo hi : Option Int} (h : HT.sIx xs.length 0 lo = 0 ∧ HT.sIx xs.length xs.length hi = xs.length) : cutD xs lo hi = xs := by
  unfold cutD
  rw [h.1, h.2]
  simp
def eSlT (f : Ev) (lo hi : Ov) : Ev := fun ρ st => do
  let (x, s1) ← f ρ st
  let (l, s2) ← lo ρ s1
  let (u, s3) ← hi ρ s2
  match x with
  | .d (.tuple ds) => some (.d (.tuple (cutD ds l u)), s3)
  | _ => none
theorem qe_slT {f : Ev} {lo hi : Option Expr} {fl fh : Ov} {p2 : Pos} (ha : QE X T a f) (hl : QO X T lo fl) (hu : QO X T hi fh) : QE X T (.Subscript a (.Slice lo hi none p2) pos) (eSlT f fl fh) :=
  ⟨PE.imp (pe_slice sl_tupA ha.pe hl.po hu.po) fun σ H Q ⟨ρ, ι, st, r, st', hE, hS, hf, hk⟩ => by
    obtain ⟨⟨x, s1⟩, e1, hf⟩ := bnd hf
    obtain ⟨⟨l, s2⟩, e2, hf⟩ := bnd hf
    obtain ⟨⟨u, s3⟩, e3, hf⟩ := bnd hf
    refine ⟨ρ, ι, st, x, s1, hE, hS, e1, fun v H1 ι1 l1 S1 r1 => ⟨ρ, ι1, s1, l, s2, hE.le l1, S1, e2, fun H2 ι2 l2 S2 => ⟨ρ, ι2, s2, u, s3, hE.le (l1.trans l2), S2, e3, fun H3 ι3 l3 S3 => ?_⟩⟩⟩
    cases x with
    | loc n => cases hf
    | d y =>
      cases y with
      | tuple ds =>
        cases hf
        have r3 : VlR X.K H3 ι3 v (.d (.tuple ds)) := (VlR.le l2 r1).le l3
        obtain ⟨p0, vs, ev, h1, h2⟩ := RepR.tuple (.inl r3)
        subst ev
        refine ⟨p0, vs, rfl, h1, fun hw => ?_, fun _ p hp => ?_⟩
        · have hw' := hw
          rw [h2.len] at hw'
          rw [cut_whole hw'] at hk
          exact hk _ H3 ι3 ((l1.trans l2).trans l3) S3 r3
        · have hs := same_upd (o := HO.tup (cutV vs l u)) hp
          exact hk _ _ ι3 (((l1.trans l2).trans l3).trans (Le.same hs)) (S3.same hs) (Rep.tup (SqT.of upd_same) (RepAll.ext (Ext.same hs) _ _ (cut_rep h2 l u)))
      | _ => cases hf⟩
def lSlL (f : Ev) (lo hi : Ov) : Lv := fun ρ st => do
  let (x, s1) ← f ρ st
  let (l, s2) ← lo ρ s1
  let (u, s3) ← hi ρ s2
  match rd x s3 with
  | some (.list ds) => some (cutD ds l u, s3)
  | _ => none
theorem ql_slL {f : Ev} {lo hi : Option Expr} {fl fh : Ov} {p2 : Pos} (ha : QE X T a f) (hl : QO X T lo fl) (hu : QO X T hi fh) : QL X T (.Subscript a (.Slice lo hi none p2) pos) (lSlL f fl fh) :=
  ⟨PE.imp (pe_slice sl_list ha.pe hl.po hu.po) fun σ H Q ⟨ρ, ι, st, r, st', hE, hS, hf, hk⟩ => by
    obtain ⟨⟨x, s1⟩, e1, hf⟩ := bnd hf
    obtain ⟨⟨l, s2⟩, e2, hf⟩ := bnd hf
    obtain ⟨⟨u, s3⟩, e3, hf⟩ := bnd hf
    refine ⟨ρ, ι, st, x, s1, hE, hS, e1, fun v H1 ι1 l1 S1 r1 => ⟨ρ, ι1, s1, l, s2, hE.le l1, S1, e2, fun H2 ι2 l2 S2 => ⟨ρ, ι2, s2, u, s3, hE.le (l1.trans l2), S2, e3, fun H3 ι3 l3 S3 => ?_⟩⟩⟩
    have hf' : (match rd x s3 with
      | some (.list ds) => some (cutD ds l u, s3)
      | _ => none) = some (r, st') := hf
    split at hf'
    · rename_i ds q
      cases hf'
      obtain ⟨p, vs, rfl, h1, h2⟩ := (rd_rep S3 ((VlR.le l2 r1).le l3) q).list
      refine ⟨p, vs, rfl, h1, fun p' hp => ?_⟩
      have hs := same_upd (o := HO.lst (cutV vs l u)) hp
      exact hk p' _ _ ι3 (((l1.trans l2).trans l3).free S3 hp) (((l1.trans l2).trans l3).trans (Le.same hs)) (S3.same hs) upd_same (nmem_of S3 hp) (RepAll.ext (Ext.same hs) _ _ (cut_rep h2 l u))
    · cases hf'⟩
def lRevL (f : Ev) : Lv := fun ρ st => do
  let (x, s1) ← f ρ st
  match rd x s1 with
  | some (.list ds) => some (ds.reverse, s1)
  | _ => none
theorem ql_revL {f : Ev} {k : Nat} {p1 p2 p3 : Pos} (ha : QE X T a f) : QL X T (.Subscript a (.Slice none none (some (.UnaryOp .USub (.Constant (.int 1) k p1) p2)) p3) pos) (lRevL f) :=
  ⟨PE.imp (pe_revL ha.pe) fun σ H Q ⟨ρ, ι, st, r, st', hE, hS, hf, hk⟩ => by
    obtain ⟨⟨x, s1⟩, e1, hf⟩ := bnd hf
    refine ⟨ρ, ι, st, x, s1, hE, hS, e1, fun v H1 ι1 l1 S1 r1 => ?_⟩
    have hf' : (match rd x s1 with
      | some (.list ds) => some (ds.reverse, s1)
      | _ => none) = some (r, st') := hf
    split at hf'
    · rename_i ds q
      cases hf'
      obtain ⟨p, vs, rfl, h1, h2⟩ := (rd_rep S1 r1 q).list
      refine ⟨p, vs, rfl, h1, fun p' hp => ?_⟩
      have hs := same_upd (o := HO.lst vs.reverse) hp
      exact hk p' _ _ ι1 (l1.free S1 hp) (l1.trans (Le.same hs)) (S1.same hs) upd_same (nmem_of S1 hp) (RepAll.ext (Ext.same hs) _ _ h2.rev)
    · cases hf'⟩
end
end QL

end
section
set_option Elab.async false
set_option linter.all false
set_option autoImplicit false
set_option maxRecDepth 100000
set_option maxHeartbeats 4000000
/-! Q3: built-ins. -/
namespace QL
open PySem PySem.Spec PyProof.Rows L2
/-- no built-in of these is shadowed -/
structure Bls (mg : Str → Option Value) : Prop where
  len : mg "len" = none
  int : mg "int" = none
  abs : mg "abs" = none
  sum : mg "sum" = none
  max : mg "max" = none
  min : mg "min" = none
  all : mg "all" = none
  any : mg "any" = none
  sorted : mg "sorted" = none
  list : mg "list" = none
  tuple : mg "tuple" = none
  set : mg "set" = none
  range : mg "range" = none
  enumerate : mg "enumerate" = none
  zip : mg "zip" = none
  repr : mg "repr" = none
  isinstance : mg "isinstance" = none
  bool : mg "bool" = none
  str : mg "str" = none

section
variable {X : Cx} {T : Tb} {e a b c : Expr} {pos p : Pos}
def StepC1 (K : PySem.W.Frag) (r : List V → Hp → VK → Prop) (g : G1) : Prop := ∀ (H : Hp) (v : V) (x z : PyData) (Q : VK), RepR K H v x → g x = some z → (∀ v' H', Same H H' → Rep K H' v' z → Q v' H') → r [v] H Q
def StepC2 (K : PySem.W.Frag) (r : List V → Hp → VK → Prop) (g : G2) : Prop := ∀ (H : Hp) (v u : V) (x y z : PyData) (Q : VK), RepR K H v x → RepR K H u y → g x y = some z → (∀ v' H', Same H H' → Rep K H' v' z → Q v' H') → r [v, u] H Q
theorem qe_c1 {r : List V → Hp → VK → Prop} {g : G1} {f : Ev} (mk : ∀ {t : TA}, PA X [a] t → PE X e (tCB r t)) (hg : StepC1 X.K r g) (ha : QE X T a f) (hs : starEach [a] X.env = (false, eval a X.env) :: starEach [] X.env) : QE X T e (eOp1 g f) :=
  ⟨PE.imp (mk (pa_cons ha.pe pa_nil hs)) fun σ H Q ⟨ρ, ι, st, r', st', hE, hS, hf, hk⟩ => by
    obtain ⟨⟨x, s1⟩, e1, hf⟩ := bnd hf
    obtain ⟨d, e2, hf⟩ := bnd hf
    obtain ⟨z, e3, hf⟩ := bnd hf
    cases hf
    exact ⟨ρ, ι, st, x, _, hE, hS, e1, fun v H1 ι1 l1 S1 r1 => hg H1 v d z Q (rd_rep S1 r1 e2) e3 (fin1 S1 fun w H2 ι2 l2 => hk w H2 ι2 (l1.trans l2))⟩⟩
theorem qe_c2 {r : List V → Hp → VK → Prop} {g : G2} {f1 f2 : Ev} (mk : ∀ {t : TA}, PA X [a, b] t → PE X e (tCB r t)) (hg : StepC2 X.K r g) (ha : QE X T a f1) (hb : QE X T b f2) (hs : starEach [a, b] X.env = (false, eval a X.env) :: starEach [b] X.env) (hs2 : starEach [b] X.env = (false, eval b X.env) :: starEach [] X.env) : QE X T e (eOp2 g f1 f2) :=
  ⟨PE.imp (mk (pa_cons ha.pe (pa_cons hb.pe pa_nil hs2) hs)) fun σ H Q ⟨ρ, ι, st, r', st', hE, hS, hf, hk⟩ => by
    obtain ⟨⟨x, s1⟩, e1, hf⟩ := bnd hf
    obtain ⟨⟨y, s2⟩, e2, hf⟩ := bnd hf
    obtain ⟨p, e3, hf⟩ := bnd hf
    obtain ⟨q, e4, hf⟩ := bnd hf
    obtain ⟨z, e5, hf⟩ := bnd hf
    cases hf
    exact ⟨ρ, ι, st, x, s1, hE, hS, e1, fun v H1 ι1 l1 S1 r1 => ⟨ρ, ι1, s1, y, _, hE.le l1, S1, e2, fun u H2 ι2 l2 S2 r2 =>
      hg H2 v u p q z Q (rd_rep S2 (r1.le l2) e3) (rd_rep S2 r2 e4) e5 (fin1 S2 fun w H3 ι3 l3 => hk w H3 ι3 ((l1.trans l2).trans l3))⟩⟩⟩

/-! ### len, int, abs, max, min of two -/
def gLen : G1
  | .list xs => some (.int xs.length)
  | .tuple xs => some (.int xs.length)
  | .str x => if x.length ≤ 16777216 then some (.int x.length) else none
  | _ => none
theorem st_len {K : PySem.W.Frag} : StepC1 K (fun xs H Q => ∃ x n, xs = [x] ∧ LenV K x H n ∧ Q (.int n) H) gLen := fun H v x z Q hx hg hk => by
  cases x with
  | list xs =>
    cases hg
    obtain ⟨p, vs, rfl, h1, h2⟩ := hx.list
    exact ⟨_, _, rfl, .inl ⟨vs, h1, h2.len.symm⟩, hk _ H (Same.refl H) (.int _)⟩
  | tuple xs =>
    cases hg
    obtain ⟨p, vs, rfl, h1, h2⟩ := hx.tuple
    exact ⟨_, _, rfl, .inr ⟨vs, h1, h2.len.symm⟩, hk _ H (Same.refl H) (.int _)⟩
  | str y =>
    unfold gLen at hg
    simp only at hg
    split at hg
    · rename_i hz
      cases hg
      have ev := hx.str
      subst ev
      exact ⟨_, _, rfl, ⟨size_ok hz, rfl⟩, hk _ H (Same.refl H) (.int _)⟩
    · cases hg
  | _ => cases hg
theorem qe_len {f : Ev} (B : Bls X.mg) (hg : Gl X "len") (ha : QE X T a f) (hs : starEach [a] X.env = (false, eval a X.env) :: starEach [] X.env := by rfl) : QE X T (.Call (.Name "len" p) [a] [] pos) (eOp1 gLen f) :=
  qe_c1 (fun h => pe_callB call_len hg B.len boot_len h (he := hs) (hpl := rfl)) st_len ha hs
def gInt : G1
  | .int i => some (.int i)
  | .bool b => some (.int (if b then 1 else 0))
  | _ => none
theorem st_int {K : PySem.W.Frag} : StepC1 K (fun xs H Q => (∃ i, xs = [.int i] ∧ Q (.int i) H) ∨ ∃ k, xs = [.bl k] ∧ Q (.int (if k then 1 else 0)) H) gInt := fun H v x z Q hx hg hk => by
  cases x with
  | int i => cases hg; rw [hx.int]; exact .inl ⟨i, rfl, hk _ H (Same.refl H) (.int _)⟩
  | bool i => cases hg; rw [hx.bool]; exact .inr ⟨i, rfl, hk _ H (Same.refl H) (.int _)⟩
  | _ => cases hg
theorem qe_intC {f : Ev} (B : Bls X.mg) (hg : Gl X "int") (ha : QE X T a f) (hs : starEach [a] X.env = (false, eval a X.env) :: starEach [] X.env := by rfl) : QE X T (.Call (.Name "int" p) [a] [] pos) (eOp1 gInt f) :=
  qe_c1 (fun h => pe_callTy call_int1 hg B.int (by decide +kernel) h (he := hs) (hpl := rfl)) st_int ha hs
def gAbs : G1
  | .int i => some (.int (if i < 0 then -i else i))
  | _ => none
theorem st_abs {K : PySem.W.Frag} : StepC1 K (fun xs H Q => ∃ i, xs = [.int i] ∧ Q (.int (if i < 0 then -i else i)) H) gAbs := fun H v x z Q hx hg hk => by
  cases x with
  | int i => cases hg; rw [hx.int]; exact ⟨i, rfl, hk _ H (Same.refl H) (.int _)⟩
  | _ => cases hg
theorem qe_abs {f : Ev} (B : Bls X.mg) (hg : Gl X "abs") (ha : QE X T a f) (hs : starEach [a] X.env = (false, eval a X.env) :: starEach [] X.env := by rfl) : QE X T (.Call (.Name "abs" p) [a] [] pos) (eOp1 gAbs f) :=
  qe_c1 (fun h => pe_callB call_abs hg B.abs (by decide +kernel) h (he := hs) (hpl := rfl)) st_abs ha hs
def gMax2 : G2
  | .int i, .int j => some (.int (if j > i then j else i))
  | _, _ => none
def gMin2 : G2
  | .int i, .int j => some (.int (if j < i then j else i))
  | _, _ => none
theorem st_max2 {K : PySem.W.Frag} : StepC2 K (fun xs H Q => ∃ i j, xs = [.int i, .int j] ∧ Q (.int (if j > i then j else i)) H) gMax2 := fun H v u x y z Q hx hy hg hk => by
  unfold gMax2 at hg
  split at hg
  · cases hg; rw [hx.int, hy.int]; exact ⟨_, _, rfl, hk _ H (Same.refl H) (.int _)⟩
  · cases hg
theorem st_min2 {K : PySem.W.Frag} : StepC2 K (fun xs H Q => ∃ i j, xs = [.int i, .int j] ∧ Q (.int (if j < i then j else i)) H) gMin2 := fun H v u x y z Q hx hy hg hk => by
  unfold gMin2 at hg
  split at hg
  · cases hg; rw [hx.int, hy.int]; exact ⟨_, _, rfl, hk _ H (Same.refl H) (.int _)⟩
  · cases hg
theorem qe_max2 {f1 f2 : Ev} (hc : X.calm = true) (B : Bls X.mg) (hg : Gl X "max") (ha : QE X T a f1) (hb : QE X T b f2) (hs : starEach [a, b] X.env = (false, eval a X.env) :: starEach [b] X.env := by rfl) (hs2 : starEach [b] X.env = (false, eval b X.env) :: starEach [] X.env := by rfl) : QE X T (.Call (.Name "max" p) [a, b] [] pos) (eOp2 gMax2 f1 f2) :=
  qe_c2 (fun h => pe_callB (call_max2 hc) hg B.max (by decide +kernel) h (he := hs) (hpl := by rw [hs2]; rfl)) st_max2 ha hb hs hs2
theorem qe_min2 {f1 f2 : Ev} (hc : X.calm = true) (B : Bls X.mg) (hg : Gl X "min") (ha : QE X T a f1) (hb : QE X T b f2) (hs : starEach [a, b] X.env = (false, eval a X.env) :: starEach [b] X.env := by rfl) (hs2 : starEach [b] X.env = (false, eval b X.env) :: starEach [] X.env := by rfl) : QE X T (.Call (.Name "min" p) [a, b] [] pos) (eOp2 gMin2 f1 f2) :=
  qe_c2 (fun h => pe_callB (call_min2 hc) hg B.min (by decide +kernel) h (he := hs) (hpl := by rw [hs2]; rfl)) st_min2 ha hb hs hs2

/-! ### tuple(x), list(x) -/
def gTuple : G1
  | .list xs => some (.tuple xs)
  | .tuple xs => some (.tuple xs)
  | _ => none
theorem st_tuple {K : PySem.W.Frag} : StepC1 K (fun xs H Q => ∃ p ys, xs = [.ref p] ∧ ((SqL K H p ys ∧ ∀ l, H l = none → Q (.ref l) (upd H l (.tup ys))) ∨ (SqT K H p ys ∧ Q (.ref p) H))) gTuple := fun H v x z Q hx hg hk => by
  cases x with
  | list xs =>
    cases hg
    obtain ⟨p, vs, rfl, h1, h2⟩ := hx.list
    refine ⟨p, vs, rfl, .inl ⟨h1, fun l hl => ?_⟩⟩
    have hs := same_upd (o := HO.tup vs) hl
    exact hk _ _ hs (Rep.tup (SqT.of upd_same) (RepAll.ext (Ext.same hs) _ _ h2))
  | tuple xs =>
    cases hg
    obtain ⟨p, vs, rfl, h1, h2⟩ := hx.tuple
    exact ⟨p, vs, rfl, .inr ⟨h1, hk _ H (Same.refl H) (Rep.tup h1 h2)⟩⟩
  | _ => cases hg
theorem qe_tuple {f : Ev} (B : Bls X.mg) (hg : Gl X "tuple") (ha : QE X T a f) (hs : starEach [a] X.env = (false, eval a X.env) :: starEach [] X.env := by rfl) : QE X T (.Call (.Name "tuple" p) [a] [] pos) (eOp1 gTuple f) :=
  qe_c1 (fun h => pe_callTy call_tuple_of hg B.tuple (by decide +kernel) h (he := hs) (hpl := rfl)) st_tuple ha hs
/-- an operation that makes a new list -/
abbrev GL := PyData → Option (List PyData)
def lOp1 (g : GL) (f : Ev) : Lv := fun ρ st => do
  let (x, s1) ← f ρ st
  let d ← rd x s1
  let z ← g d
  some (z, s1)
def StepL1 (K : PySem.W.Frag) (r : List V → Hp → VK → Prop) (g : GL) : Prop := ∀ (H : Hp) (v : V) (x : PyData) (z : List PyData) (Q : VK), RepR K H v x → g x = some z → (∀ l vs, H l = none → RepAll K H vs z → Q (.ref l) (upd H l (.lst vs))) → r [v] H Q
theorem finL {K : PySem.W.Frag} {T : Tb} {H : Hp} {ι : List Addr} {st : Sto} {Q : VK} {z : List PyData} (hS : SR K T H ι st) (hk : ∀ p vs H' ι', H p = none → Le H ι H' ι' → SR K T H' ι' st → H' p = some (.lst vs) → p ∉ ι' → RepAll K H' vs z → Q (.ref p) H') : ∀ l vs, H l = none → RepAll K H vs z → Q (.ref l) (upd H l (.lst vs)) := fun l vs hl ra => by
  have hs := same_upd (o := HO.lst vs) hl
  exact hk l vs _ ι hl (Le.same hs) (hS.same hs) upd_same (nmem_of hS hl) (RepAll.ext (Ext.same hs) _ _ ra)
theorem ql_c1 {r : List V → Hp → VK → Prop} {g : GL} {f : Ev} (mk : ∀ {t : TA}, PA X [a] t → PE X e (tCB r t)) (hg : StepL1 X.K r g) (ha : QE X T a f) (hs : starEach [a] X.env = (false, eval a X.env) :: starEach [] X.env) : QL X T e (lOp1 g f) :=
  ⟨PE.imp (mk (pa_cons ha.pe pa_nil hs)) fun σ H Q ⟨ρ, ι, st, r', st', hE, hS, hf, hk⟩ => by
    obtain ⟨⟨x, s1⟩, e1, hf⟩ := bnd hf
    obtain ⟨d, e2, hf⟩ := bnd hf
    obtain ⟨z, e3, hf⟩ := bnd hf
    cases hf
    exact ⟨ρ, ι, st, x, _, hE, hS, e1, fun v H1 ι1 l1 S1 r1 => hg H1 v d _ Q (rd_rep S1 r1 e2) e3 (finL S1 fun p vs H2 ι2 h0 l2 => hk p vs H2 ι2 (l1.free S1 h0) (l1.trans l2))⟩⟩
theorem st_list {K : PySem.W.Frag} : StepL1 K (fun xs H Q => ∃ p ys, xs = [.ref p] ∧ (SqL K H p ys ∨ SqT K H p ys) ∧ ∀ l, H l = none → Q (.ref l) (upd H l (.lst ys))) seqOf := fun H v x z Q hx hg hk => by
  cases x with
  | list xs =>
    cases hg
    obtain ⟨p, vs, rfl, h1, h2⟩ := hx.list
    exact ⟨p, vs, rfl, .inl h1, fun l hl => hk l vs hl h2⟩
  | tuple xs =>
    cases hg
    obtain ⟨p, vs, rfl, h1, h2⟩ := hx.tuple
    exact ⟨p, vs, rfl, .inr h1, fun l hl => hk l vs hl h2⟩
  | _ => cases hg
theorem ql_list {f : Ev} (B : Bls X.mg) (hg : Gl X "list") (ha : QE X T a f) (hs : starEach [a] X.env = (false, eval a X.env) :: starEach [] X.env := by rfl) : QL X T (.Call (.Name "list" p) [a] [] pos) (lOp1 seqOf f) :=
  ql_c1 (fun h => pe_callTy call_list_of hg B.list (by decide +kernel) h (he := hs) (hpl := rfl)) st_list ha hs

/-! ### sums, greatest, least, all, any -/
def intsOf : List PyData → Option (List Int)
  | [] => some []
  | .int i :: r => (intsOf r).map (i :: ·)
  | _ :: _ => none
theorem intsOf_eq : ∀ {xs : List PyData} {ns : List Int}, intsOf xs = some ns → xs = ns.map .int
  | [], ns, h => by cases h; rfl
  | .int i :: r, ns, h => by
    obtain ⟨ms, e1, e2⟩ := Option.map_eq_some_iff.mp h
    subst e2
    rw [intsOf_eq e1]; rfl
  | .none :: _, _, h => by cases h
  | .bool _ :: _, _, h => by cases h
  | .str _ :: _, _, h => by cases h
  | .list _ :: _, _, h => by cases h
  | .tuple _ :: _, _, h => by cases h
  | .dict _ :: _, _, h => by cases h
theorem intsOf_map (ns : List Int) : intsOf (ns.map .int) = some ns := by
  induction ns with
  | nil => rfl
  | cons n ns ih => simp [intsOf, ih]
def boolsOf : List PyData → Option (List Bool)
  | [] => some []
  | .bool i :: r => (boolsOf r).map (i :: ·)
  | _ :: _ => none
theorem boolsOf_eq : ∀ {xs : List PyData} {ns : List Bool}, boolsOf xs = some ns → xs = ns.map .bool
  | [], ns, h => by cases h; rfl
  | .bool i :: r, ns, h => by
    obtain ⟨ms, e1, e2⟩ := Option.map_eq_some_iff.mp h
    subst e2
    rw [boolsOf_eq e1]; rfl
  | .none :: _, _, h => by cases h
  | .int _ :: _, _, h => by cases h
  | .str _ :: _, _, h => by cases h
  | .list _ :: _, _, h => by cases h
  | .tuple _ :: _, _, h => by cases h
  | .dict _ :: _, _, h => by cases h
theorem boolsOf_map (ns : List Bool) : boolsOf (ns.map .bool) = some ns := by
  induction ns with
  | nil => rfl
  | cons n ns ih => simp [boolsOf, ih]
def gSum : G1
  | .list xs => (intsOf xs).map fun ns => .int ns.sum
  | _ => none
theorem st_sum {K : PySem.W.Frag} : StepC1 K (rSum K) gSum := fun H v x z Q hx hg hk => by
  cases x with
  | list xs =>
    obtain ⟨ns, e1, e2⟩ := Option.map_eq_some_iff.mp hg
    subst e2
    obtain ⟨p, vs, rfl, h1, h2⟩ := hx.list
    rw [intsOf_eq e1] at h2
    rw [h2.ints] at h1
    exact ⟨p, ns, rfl, h1, hk _ H (Same.refl H) (.int _)⟩
  | _ => cases hg
theorem qe_sum {f : Ev} (hc : X.calm = true) (B : Bls X.mg) (hg : Gl X "sum") (ha : QE X T a f) (hs : starEach [a] X.env = (false, eval a X.env) :: starEach [] X.env := by rfl) : QE X T (.Call (.Name "sum" p) [a] [] pos) (eOp1 gSum f) :=
  qe_c1 (fun h => pe_callB (cr_sum hc) hg B.sum (by decide +kernel) h (he := hs) (hpl := rfl)) st_sum ha hs
/-- the greatest, the least of ints -/
def maxL : List Int → Option Int
  | [] => none
  | n :: r => some (r.foldl (fun a b => if a < b then b else a) n)
def minL : List Int → Option Int
  | [] => none
  | n :: r => some (r.foldl (fun a b => if b < a then b else a) n)
theorem maxF_spec : ∀ (r : List Int) (n : Int), (r.foldl (fun a b => if a < b then b else a) n = n ∨ r.foldl (fun a b => if a < b then b else a) n ∈ r) ∧ n ≤ r.foldl (fun a b => if a < b then b else a) n ∧ ∀ y ∈ r, y ≤ r.foldl (fun a b => if a < b then b else a) n
  | [], n => ⟨.inl rfl, Int.le_refl _, fun y hy => by cases hy⟩
  | b :: r, n => by
    rw [List.foldl_cons]
    obtain ⟨h1, h2, h3⟩ := maxF_spec r (if n < b then b else n)
    refine ⟨?_, ?_, fun y hy => ?_⟩
    · rcases h1 with h1 | h1
      · rw [h1]
        split
        · exact .inr (by simp)
        · exact .inl rfl
      · exact .inr (List.mem_cons_of_mem _ h1)
    · refine Int.le_trans ?_ h2
      split <;> omega
    · rcases List.mem_cons.mp hy with e | e
      · subst e
        refine Int.le_trans ?_ h2
        split <;> omega
      · exact h3 y e
theorem minF_spec : ∀ (r : List Int) (n : Int), (r.foldl (fun a b => if b < a then b else a) n = n ∨ r.foldl (fun a b => if b < a then b else a) n ∈ r) ∧ r.foldl (fun a b => if b < a then b else a) n ≤ n ∧ ∀ y ∈ r, r.foldl (fun a b => if b < a then b else a) n ≤ y
  | [], n => ⟨.inl rfl, Int.le_refl _, fun y hy => by cases hy⟩
  | b :: r, n => by
    rw [List.foldl_cons]
    obtain ⟨h1, h2, h3⟩ := minF_spec r (if b < n then b else n)
    refine ⟨?_, ?_, fun y hy => ?_⟩
    · rcases h1 with h1 | h1
      · rw [h1]
        split
        · exact .inr (by simp)
        · exact .inl rfl
      · exact .inr (List.mem_cons_of_mem _ h1)
    · refine Int.le_trans h2 ?_
      split <;> omega
    · rcases List.mem_cons.mp hy with e | e
      · subst e
        refine Int.le_trans h2 ?_
        split <;> omega
      · exact h3 y e
theorem maxL_spec {ns : List Int} {m : Int} (h : maxL ns = some m) : m ∈ ns ∧ ∀ y ∈ ns, y ≤ m := by
  cases ns with
  | nil => cases h
  | cons n r =>
    cases h
    obtain ⟨h1, h2, h3⟩ := maxF_spec r n
    refine ⟨?_, fun y hy => ?_⟩
    · rcases h1 with h1 | h1
      · rw [h1]; simp
      · exact List.mem_cons_of_mem _ h1
    · rcases List.mem_cons.mp hy with e | e
      · rw [e]; exact h2
      · exact h3 y e
theorem minL_spec {ns : List Int} {m : Int} (h : minL ns = some m) : m ∈ ns ∧ ∀ y ∈ ns, m ≤ y := by
  cases ns with
  | nil => cases h
  | cons n r =>
    cases h
    obtain ⟨h1, h2, h3⟩ := minF_spec r n
    refine ⟨?_, fun y hy => ?_⟩
    · rcases h1 with h1 | h1
      · rw [h1]; simp
      · exact List.mem_cons_of_mem _ h1
    · rcases List.mem_cons.mp hy with e | e
      · rw [e]; exact h2
      · exact h3 y e
def gMaxI : G1
  | .list xs => (intsOf xs).bind fun ns => (maxL ns).map .int
  | _ => none
def gMinI : G1
  | .list xs => (intsOf xs).bind fun ns => (minL ns).map .int
  | _ => none
theorem st_maxI {K : PySem.W.Frag} : StepC1 K (rMax K) gMaxI := fun H v x z Q hx hg hk => by
  cases x with
  | list xs =>
    obtain ⟨ns, e1, e4⟩ := Option.bind_eq_some_iff.mp hg
    obtain ⟨m, e5, e3⟩ := Option.map_eq_some_iff.mp e4
    subst e3
    obtain ⟨p, vs, rfl, h1, h2⟩ := hx.list
    rw [intsOf_eq e1] at h2
    rw [h2.ints] at h1
    obtain ⟨s1, s2⟩ := maxL_spec e5
    refine ⟨p, ns, rfl, h1, List.length_pos_of_mem s1, fun m' h1 h2 => ?_⟩
    have : m' = m := Int.le_antisymm (s2 m' h1) (h2 m s1)
    subst this
    exact hk _ H (Same.refl H) (.int _)
  | _ => cases hg
theorem st_minI {K : PySem.W.Frag} : StepC1 K (rMin K) gMinI := fun H v x z Q hx hg hk => by
  cases x with
  | list xs =>
    obtain ⟨ns, e1, e4⟩ := Option.bind_eq_some_iff.mp hg
    obtain ⟨m, e5, e3⟩ := Option.map_eq_some_iff.mp e4
    subst e3
    obtain ⟨p, vs, rfl, h1, h2⟩ := hx.list
    rw [intsOf_eq e1] at h2
    rw [h2.ints] at h1
    obtain ⟨s1, s2⟩ := minL_spec e5
    refine ⟨p, ns, rfl, h1, List.length_pos_of_mem s1, fun m' h1 h2 => ?_⟩
    have : m' = m := Int.le_antisymm (h2 m s1) (s2 m' h1)
    subst this
    exact hk _ H (Same.refl H) (.int _)
  | _ => cases hg
theorem qe_maxI {f : Ev} (hc : X.calm = true) (B : Bls X.mg) (hg : Gl X "max") (ha : QE X T a f) (hs : starEach [a] X.env = (false, eval a X.env) :: starEach [] X.env := by rfl) : QE X T (.Call (.Name "max" p) [a] [] pos) (eOp1 gMaxI f) :=
  qe_c1 (fun h => pe_callB (cr_max hc) hg B.max (by decide +kernel) h (he := hs) (hpl := rfl)) st_maxI ha hs
theorem qe_minI {f : Ev} (hc : X.calm = true) (B : Bls X.mg) (hg : Gl X "min") (ha : QE X T a f) (hs : starEach [a] X.env = (false, eval a X.env) :: starEach [] X.env := by rfl) : QE X T (.Call (.Name "min" p) [a] [] pos) (eOp1 gMinI f) :=
  qe_c1 (fun h => pe_callB (cr_min hc) hg B.min (by decide +kernel) h (he := hs) (hpl := rfl)) st_minI ha hs
def gAll : G1
  | .list xs => (boolsOf xs).map fun bs => .bool (bs.all id)
  | _ => none
def gAny : G1
  | .list xs => (boolsOf xs).map fun bs => .bool (bs.any id)
  | _ => none
theorem st_all {K : PySem.W.Frag} : StepC1 K (rAll K) gAll := fun H v x z Q hx hg hk => by
  cases x with
  | list xs =>
    obtain ⟨ns, e1, e2⟩ := Option.map_eq_some_iff.mp hg
    subst e2
    obtain ⟨p, vs, rfl, h1, h2⟩ := hx.list
    rw [boolsOf_eq e1] at h2
    rw [h2.bools] at h1
    exact ⟨p, ns, rfl, h1, hk _ H (Same.refl H) (.bl _)⟩
  | _ => cases hg
theorem st_any {K : PySem.W.Frag} : StepC1 K (rAny K) gAny := fun H v x z Q hx hg hk => by
  cases x with
  | list xs =>
    obtain ⟨ns, e1, e2⟩ := Option.map_eq_some_iff.mp hg
    subst e2
    obtain ⟨p, vs, rfl, h1, h2⟩ := hx.list
    rw [boolsOf_eq e1] at h2
    rw [h2.bools] at h1
    exact ⟨p, ns, rfl, h1, hk _ H (Same.refl H) (.bl _)⟩
  | _ => cases hg
theorem qe_all {f : Ev} (hc : X.calm = true) (B : Bls X.mg) (hg : Gl X "all") (ha : QE X T a f) (hs : starEach [a] X.env = (false, eval a X.env) :: starEach [] X.env := by rfl) : QE X T (.Call (.Name "all" p) [a] [] pos) (eOp1 gAll f) :=
  qe_c1 (fun h => pe_callB (cr_all hc) hg B.all (by decide +kernel) h (he := hs) (hpl := rfl)) st_all ha hs
theorem qe_any {f : Ev} (hc : X.calm = true) (B : Bls X.mg) (hg : Gl X "any") (ha : QE X T a f) (hs : starEach [a] X.env = (false, eval a X.env) :: starEach [] X.env := by rfl) : QE X T (.Call (.Name "any" p) [a] [] pos) (eOp1 gAny f) :=
  qe_c1 (fun h => pe_callB (cr_any hc) hg B.any (by decide +kernel) h (he := hs) (hpl := rfl)) st_any ha hs

/-! ### isinstance -/
def tyN : PyData → String
  | .none => "NoneType"
  | .bool _ => "bool"
  | .int _ => "int"
  | .str _ => "str"
  | .list _ => "list"
  | .tuple _ => "tuple"
  | .dict _ => "dict"
theorem ty_rep {K : PySem.W.Frag} {H : Hp} {v : V} {d : PyData} (h : RepR K H v d) : TyX K H v (.type (tyN d)) := by
  cases d with
  | none => rw [h.none]; exact .base .non
  | bool b => rw [h.bool]; exact .base (.bl b)
  | int b => rw [h.int]; exact .base (.int b)
  | str b => rw [h.str]; exact .base (.str b)
  | list b =>
    obtain ⟨p, vs, rfl, h1, h2⟩ := h.list
    rcases h1 with (h1 | ⟨o, h1⟩) | ⟨o, its, n, h1, h3, _⟩
    · exact .base (.lst h1)
    · exact .base (.frz h1)
    · exact .kList h1 h3
  | tuple b =>
    obtain ⟨p, vs, rfl, h1, h2⟩ := h.tuple
    rcases h1 with (h1 | ⟨o, h1⟩) | ⟨o, its, n, h1, h3, _⟩
    · exact .base (.tup h1)
    · exact .fTuple h1
    · exact .kTuple h1 h3
  | dict b =>
    rcases h with h | ⟨a, vs, ds', rfl, h1, h2, e⟩
    · cases h
    · cases e
def isiB (C : String) (d : PyData) : Bool := match C, d with
  | "int", .int _ => true
  | "int", .bool _ => true
  | "bool", .bool _ => true
  | "str", .str _ => true
  | "list", .list _ => true
  | "tuple", .tuple _ => true
  | "dict", .dict _ => true
  | _, _ => false
def gIsi (C : String) : G1 := fun d => some (.bool (isiB C d))
theorem kit_all (C : String) (hC : C ∈ ["int", "bool", "str", "list", "tuple", "dict"]) (d : PyData) : kitB (tyN d) C = some (isiB C d) := by
  simp only [List.mem_cons, List.not_mem_nil, or_false] at hC
  rcases hC with rfl | rfl | rfl | rfl | rfl | rfl <;> cases d <;> (first | rfl | decide +kernel)
theorem qe_isi {f : Ev} (C : String) {x : Str} (B : Bls X.mg) (hC : C ∈ ["int", "bool", "str", "list", "tuple", "dict"]) (hg : Gl X "isinstance") (hg2 : Gl X x) (hm : X.mg x = none) (hv : bootBuiltins x = some (.type C)) (ha : QE X T a f) (hn : x ≠ "__name__") (hd : (x == ("__debug__" : Str)) = false)
    {p2 : Pos} (hs : starEach [a, .Name x p2] X.env = (false, eval a X.env) :: starEach [.Name x p2] X.env := by rfl) : QE X T (.Call (.Name "isinstance" p) [a, .Name x p2] [] pos) (eOp1 (gIsi C) f) :=
  ⟨PE.imp (pe_callB call_isi hg B.isinstance (by decide +kernel) (pa_cons ha.pe (pa_cons (pe_bltn hg2 hm hv (v := .ty C) rfl hn hd) pa_nil rfl) hs) (he := hs) (hpl := rfl)) fun σ H Q ⟨ρ, ι, st, r', st', hE, hS, hf, hk⟩ => by
    obtain ⟨⟨x, s1⟩, e1, hf⟩ := bnd hf
    obtain ⟨d, e2, hf⟩ := bnd hf
    obtain ⟨z, e3, hf⟩ := bnd hf
    cases hf
    refine ⟨ρ, ι, st, x, _, hE, hS, e1, fun v H1 ι1 l1 S1 r1 => ?_⟩
    cases e3
    exact ⟨v, .ty C, _, _, isiB C d, rfl, .ty C, ty_rep (rd_rep S1 r1 e2), kit_ty (kit_all C hC d), hk _ H1 ι1 l1 S1 (.bl _)⟩⟩
end
end QL

end
section
set_option Elab.async false
set_option linter.all false
set_option autoImplicit false
set_option maxRecDepth 100000
set_option maxHeartbeats 4000000
/-! Q4: targets, walks, comprehensions, statements, calls. -/
namespace QL
open PySem PySem.Spec PyProof.Rows L2

/-! ### targets: own tells the slots that may change -/
abbrev Bd := Vl → Rho → Sto → Option (Rho × Sto)
def tBd (K : PySem.W.Frag) (T : Tb) (own : List Nat) (b : Bd) : TG := fun v σ H Q => ∃ ρ ι st x ρ' st', EnvR K H ι σ ρ ∧ SR K T H ι st ∧ VlR K H ι v x ∧ b x ρ st = some (ρ', st') ∧
  ∀ σ' H' ι', Le H ι H' ι' → EnvR K H' ι' σ' ρ' → SR K T H' ι' st' → wipe σ' own = wipe σ own → Q σ' H'
structure QG (X : Cx) (T : Tb) (tg : Expr) (own : List Nat) (b : Bd) : Prop where
  pg : PG X tg (tBd X.K T own b)
def tBds (K : PySem.W.Frag) (T : Tb) (own : List Nat) (b : List PyData → Rho → Sto → Option (Rho × Sto)) : TGs := fun vs σ H Q => ∃ ρ ι st xs ρ' st', EnvR K H ι σ ρ ∧ SR K T H ι st ∧ RepAll K H vs xs ∧ b xs ρ st = some (ρ', st') ∧
  ∀ σ' H' ι', Le H ι H' ι' → EnvR K H' ι' σ' ρ' → SR K T H' ι' st' → wipe σ' own = wipe σ own → Q σ' H'
structure QGs (X : Cx) (T : Tb) (tg : List Expr) (own : List Nat) (b : List PyData → Rho → Sto → Option (Rho × Sto)) : Prop where
  pg : PGs X tg (tBds X.K T own b)
def bName (i : Nat) : Bd := fun x ρ st => some (ρ.set i (some x), st)
def bsNil : List PyData → Rho → Sto → Option (Rho × Sto)
  | [], ρ, st => some (ρ, st)
  | _, _, _ => none
def bsCons (b : Bd) (bs : List PyData → Rho → Sto → Option (Rho × Sto)) : List PyData → Rho → Sto → Option (Rho × Sto)
  | d :: ds, ρ, st => do
    let (ρ1, s1) ← b (.d d) ρ st
    bs ds ρ1 s1
  | [], _, _ => none
def bTup (n : Nat) (bs : List PyData → Rho → Sto → Option (Rho × Sto)) : Bd := fun x ρ st => match x with
  | .d (.tuple ds) => if ds.length = n then bs ds ρ st else none
  | _ => none
theorem PG.imp {X : Cx} {tg : Expr} {t t' : TG} (h : PG X tg t) (i : ∀ v σ H Q, t' v σ H Q → t v σ H Q) : PG X tg t' := ⟨fun pins s σ H v u Q I r q => h.run pins s σ H v u Q I r (i v σ H Q q)⟩
theorem PGs.imp {X : Cx} {tg : List Expr} {t t' : TGs} (h : PGs X tg t) (i : ∀ v σ H Q, t' v σ H Q → t v σ H Q) : PGs X tg t' := ⟨fun pins s σ H v u Q I r q => h.run pins s σ H v u Q I r (i v σ H Q q)⟩
theorem wipe_set (σ : L2.St) (i : Nat) (o : Option V) : ∀ (vs : List Nat), i ∈ vs → wipe (σ.set i o) vs = wipe σ vs
  | [], h => by cases h
  | v :: vs, h => by
    unfold wipe
    by_cases e : i = v
    · subst e
      by_cases hm : i ∈ vs
      · rw [wipe_set σ i o vs hm]
      · have gen : ∀ (ws : List Nat), i ∉ ws → wipe (σ.set i o) ws = (wipe σ ws).set i o := fun ws => by
          induction ws with
          | nil => intro _; rfl
          | cons w ws ih =>
            intro hw
            simp only [List.mem_cons, not_or] at hw
            unfold wipe
            rw [ih hw.2, List.set_comm _ _ hw.1]
        rw [gen vs hm, List.set_set]
    · have hm : i ∈ vs := by
        rcases List.mem_cons.mp h with z | z
        · exact absurd z e
        · exact z
      rw [wipe_set σ i o vs hm]
section
variable {K : PySem.W.Frag} {T : Tb} {H H' : Hp} {ι ι' : List Addr} {st st' : Sto} {σ : L2.St} {ρ : Rho}
theorem EnvR.set {i : Nat} {v : V} {x : Vl} (h : EnvR K H ι σ ρ) (r : VlR K H ι v x) : EnvR K H ι (σ.set i (some v)) (ρ.set i (some x)) where
  len := by rw [List.length_set, List.length_set]; exact h.len
  val := fun j y hy => by
    by_cases e : j = i
    · subst e
      by_cases hl : j < ρ.length
      · rw [List.getElem?_set_self hl] at hy
        cases hy
        exact ⟨v, List.getElem?_set_self (by rw [← h.len]; exact hl), r⟩
      · rw [List.getElem?_eq_none (by rw [List.length_set]; omega)] at hy; cases hy
    · rw [List.getElem?_set_ne (Ne.symm e)] at hy
      obtain ⟨w, h1, h2⟩ := h.val j y hy
      exact ⟨w, by rw [List.getElem?_set_ne (Ne.symm e)]; exact h1, h2⟩
end
section
variable {X : Cx} {T : Tb} {e a b c : Expr} {pos p : Pos}
theorem qg_name {i : Nat} {x : Str} {own : List Nat} (hN : X.N.Nodup) (hi : X.N[i]? = some x) (hx : Loc X.env.scope x) (ho : i ∈ own) (hf : X.fn x = true ∨ X.env.scope.names.lookup x = some .local := by first | exact .inl rfl | exact .inr rfl | assumption) : QG X T (.Name x pos) own (bName i) :=
  ⟨PG.imp (pg_name hN hi hx hf) fun v σ H Q ⟨ρ, ι, st, y, ρ', st', hE, hS, hr, hb, hk⟩ => by
    cases hb
    exact hk _ H ι (Le.refl H ι) (hE.set hr) hS (wipe_set σ i _ own ho)⟩
theorem qgs_nil {own : List Nat} : QGs X T [] own bsNil := ⟨PGs.imp pgs_nil fun vs σ H Q ⟨ρ, ι, st, xs, ρ', st', hE, hS, hr, hb, hk⟩ => by
  cases xs with
  | nil => cases hb; cases hr; exact ⟨rfl, hk σ H ι (Le.refl H ι) hE hS rfl⟩
  | cons d ds => cases hb⟩
theorem qgs_cons {es : List Expr} {own : List Nat} {b : Bd} {bs : List PyData → Rho → Sto → Option (Rho × Sto)} (h1 : QG X T e own b) (h2 : QGs X T es own bs)
    (hs : (assignEach (e :: es) X.env).map (·.2) = assign e X.env :: (assignEach es X.env).map (·.2) := by rfl) : QGs X T (e :: es) own (bsCons b bs) := ⟨PGs.imp (pgs_cons h1.pg h2.pg hs) fun vs σ H Q ⟨ρ, ι, st, xs, ρ', st', hE, hS, hr, hb, hk⟩ => by
  cases xs with
  | nil => cases hb
  | cons d ds =>
    obtain ⟨⟨ρ1, s1⟩, e1, hb⟩ := bnd hb
    cases hr with
    | cons r1 r2 =>
      exact ⟨_, _, rfl, ρ, ι, st, .d d, ρ1, s1, hE, hS, r1, e1, fun σ1 H1 ι1 l1 E1 S1 w1 => ⟨ρ1, ι1, s1, ds, ρ', st', E1, S1, RepAll.ext l1.ext _ _ r2, hb, fun σ2 H2 ι2 l2 E2 S2 w2 => hk σ2 H2 ι2 (l1.trans l2) E2 S2 (w2.trans w1)⟩⟩⟩
theorem qg_tup {es : List Expr} {k n : Nat} {own : List Nat} {bs : List PyData → Rho → Sto → Option (Rho × Sto)} (hc : X.calm = true) (h : QGs X T es own bs)
    (hn : (assignEach es X.env).length = n := by rfl) (hst : (assignEach es X.env).findIdx? (·.1) = none := by rfl) : QG X T (.Tuple es k pos) own (bTup n bs) :=
  ⟨PG.imp (pg_tup hc h.pg hn hst) fun v σ H Q ⟨ρ, ι, st, x, ρ', st', hE, hS, hr, hb, hk⟩ => by
    cases x with
    | loc m => cases hb
    | d y =>
      cases y with
      | tuple ds =>
        have hb' : (if ds.length = n then bs ds ρ st else none) = some (ρ', st') := hb
        split at hb'
        · rename_i hl
          obtain ⟨p, vs, ev, h1, h2⟩ := RepR.tuple (.inl (show Rep X.K H v (.tuple ds) from hr))
          exact ⟨p, vs, ev, h1, by rw [h2.len]; exact hl, ρ, ι, st, ds, ρ', st', hE, hS, h2, hb', hk⟩
        · cases hb'
      | _ => cases hb⟩

/-! ### walks -/
structure WalkD (K : PySem.W.Frag) (J : It) (ds : List PyData) (H0 : Hp) : Prop where
  goes : ∀ i H, i < ds.length → Ext H0 H → J.go i H
  stops : ∀ H, Ext H0 H → J.stop ds.length H
  yields : ∀ i H x H' d, ds[i]? = some d → Ext H0 H → J.yld i H x H' → Same H H' ∧ Rep K H' x d
def tIt (K : PySem.W.Frag) (T : Tb) (f : Lv) : TI := fun σ H R => ∃ ρ ι st ds st', EnvR K H ι σ ρ ∧ SR K T H ι st ∧ f ρ st = some (ds, st') ∧ ∀ J H' ι', Le H ι H' ι' → SR K T H' ι' st' → WalkD K J ds H' → R J H'
structure QI (X : Cx) (T : Tb) (tg it : Expr) (f : Lv) : Prop where
  pi : PI X tg it (tIt X.K T f)
theorem PI.imp {tg it : Expr} {t t' : TI} (h : PI X tg it t) (i : ∀ σ H R, t' σ H R → t σ H R) : PI X tg it t' := ⟨fun pins s σ H R I q => h.run pins s σ H R I (i σ H R q)⟩
theorem PI.or {tg it : Expr} {t t' : TI} (h : PI X tg it t) (h' : PI X tg it t') : PI X tg it (fun σ H R => t σ H R ∨ t' σ H R) := ⟨fun pins s σ H R I q => q.elim (h.run pins s σ H R I) (h'.run pins s σ H R I)⟩
theorem walk_lstD {K : PySem.W.Frag} {H0 : Hp} {a : Addr} {vs : List V} {ds : List PyData} (h : FzL K H0 a vs) (ra : RepAll K H0 vs ds) : WalkD K (Itl K a) ds H0 where
  goes := fun i H hi x => by
    have hi' : i < vs.length := by rw [ra.len]; exact hi
    exact ⟨vs, vs[i], (fzL_ext x h).sq, by simp [hi']⟩
  stops := fun H x => ⟨vs, (fzL_ext x h).sq, by rw [ra.len]; exact Nat.le_refl _⟩
  yields := fun i H v H' d e x y => by
    obtain ⟨e1, e2⟩ := y
    subst e1
    obtain ⟨w, h1, h2⟩ := ra.get' e
    have e3 := e2 vs (fzL_ext x h).sq
    rw [h1] at e3
    cases e3
    exact ⟨Same.refl _, Rep.ext x d v h2⟩
theorem walk_tupD {K : PySem.W.Frag} {H0 : Hp} {a : Addr} {vs : List V} {ds : List PyData} (h : SqT K H0 a vs) (ra : RepAll K H0 vs ds) : WalkD K (Itt K a) ds H0 where
  goes := fun i H hi x => by
    have hi' : i < vs.length := by rw [ra.len]; exact hi
    exact ⟨vs, vs[i], sqT_ext x h, by simp [hi']⟩
  stops := fun H x => ⟨vs, sqT_ext x h, by rw [ra.len]; exact Nat.le_refl _⟩
  yields := fun i H v H' d e x y => by
    obtain ⟨e1, e2⟩ := y
    subst e1
    obtain ⟨w, h1, h2⟩ := ra.get' e
    have e3 := e2 vs (sqT_ext x h)
    rw [h1] at e3
    cases e3
    exact ⟨Same.refl _, Rep.ext x d v h2⟩
/-- a list or a tuple that stands still -/
def iSeq (f : Ev) : Lv := fun ρ st => do
  let (x, s1) ← f ρ st
  let d ← datV x
  let ds ← seqOf d
  some (ds, s1)
theorem qi_seq {tg : Expr} {f : Ev} (h : QE X T e f) : QI X T tg e (iSeq f) := ⟨PI.imp (PI.or (pi_list h.pe) (pi_tup h.pe)) fun σ H R ⟨ρ, ι, st, ds, st', hE, hS, hf, hk⟩ => by
  obtain ⟨⟨x, s1⟩, e1, hf⟩ := bnd hf
  obtain ⟨d, e2, hf⟩ := bnd hf
  obtain ⟨ds', e3, hf⟩ := bnd hf
  cases hf
  cases x with
  | loc n => cases e2
  | d y =>
    cases e2
    cases d with
    | list xs =>
      cases e3
      refine .inl ⟨ρ, ι, st, _, _, hE, hS, e1, fun v H1 ι1 l1 S1 r1 => ?_⟩
      have r1' : Rep X.K H1 v (.list ds) := r1
      cases r1' with
      | lst h1 h2 => exact ⟨_, rfl, ⟨_, h1.sq⟩, hk _ H1 ι1 l1 S1 (walk_lstD h1 h2)⟩
    | tuple xs =>
      cases e3
      refine .inr ⟨ρ, ι, st, _, _, hE, hS, e1, fun v H1 ι1 l1 S1 r1 => ?_⟩
      have r1' : Rep X.K H1 v (.tuple ds) := r1
      cases r1' with
      | tup h1 h2 => exact ⟨_, rfl, ⟨_, h1⟩, hk _ H1 ι1 l1 S1 (walk_tupD h1 h2)⟩
    | _ => cases e3⟩
/-- range(..) -/
def rgD (lo : Int) (n : Nat) : List PyData := (List.range n).map fun i => .int (lo + (i : Nat))
theorem walk_rgD {K : PySem.W.Frag} {H0 : Hp} (lo : Int) (n : Nat) : WalkD K (Itr lo n) (rgD lo n) H0 where
  goes := fun i H hi x => by
    unfold rgD at hi
    have : i < n := by simpa using hi
    exact this
  stops := fun H x => by unfold rgD; show n ≤ _; simp
  yields := fun i H v H' d e x y => by
    obtain ⟨e1, e2⟩ := y
    subst e1 e2
    unfold rgD at e
    rw [List.getElem?_map] at e
    obtain ⟨j, e1, e2⟩ := Option.map_eq_some_iff.mp e
    rw [List.getElem?_range] at e1
    · cases e1; subst e2; exact ⟨Same.refl _, .int _⟩
    · obtain ⟨h, _⟩ := List.getElem?_eq_some_iff.mp e1
      simpa using h
def smallI (j : Int) : Bool := decide (-(2 ^ 62) ≤ j) && decide (j < 2 ^ 62)
theorem smallI_ok {j : Int} (h : smallI j = true) : -(2 ^ 62) ≤ j ∧ j < 2 ^ 62 := by
  unfold smallI at h
  simpa using h
def iRg1 (f : Ev) : Lv := fun ρ st => do
  let (x, s1) ← f ρ st
  match x with
  | .d (.int j) => if smallI j = true then some (rgD 0 j.toNat, s1) else none
  | _ => none
def iRg2 (f g : Ev) : Lv := fun ρ st => do
  let (x, s1) ← f ρ st
  let (y, s2) ← g ρ s1
  match x, y with
  | .d (.int i), .d (.int j) => if smallI i = true ∧ smallI j = true then some (rgD i (j - i).toNat, s2) else none
  | _, _ => none
theorem qi_rg1 {tg : Expr} {f : Ev} (B : Bls X.mg) (hg : Gl X "range") (h : QE X T a f) (hs : starEach [a] X.env = [(false, eval a X.env)] := by rfl) : QI X T tg (.Call (.Name "range" p) [a] [] pos) (iRg1 f) :=
  ⟨PI.imp (pi_range1 hg B.range (pa_cons h.pe pa_nil hs) hs) fun σ H R ⟨ρ, ι, st, ds, st', hE, hS, hf, hk⟩ => by
    obtain ⟨⟨x, s1⟩, e1, hf⟩ := bnd hf
    refine ⟨ρ, ι, st, x, s1, hE, hS, e1, fun v H1 ι1 l1 S1 r1 => ?_⟩
    cases x with
    | loc n => cases hf
    | d y =>
      cases y with
      | int j =>
        have hf' : (if smallI j = true then some (rgD 0 j.toNat, s1) else none) = some (ds, st') := hf
        split at hf'
        · rename_i hz
          cases hf'
          cases r1
          exact ⟨j, rfl, (smallI_ok hz).1, (smallI_ok hz).2, hk _ H1 ι1 l1 S1 (walk_rgD 0 j.toNat)⟩
        · cases hf'
      | _ => cases hf⟩
theorem qi_rg2 {tg : Expr} {f g : Ev} (B : Bls X.mg) (hg : Gl X "range") (h : QE X T a f) (h2 : QE X T b g) (hs : starEach [a, b] X.env = [(false, eval a X.env), (false, eval b X.env)] := by rfl) (hs2 : starEach [b] X.env = [(false, eval b X.env)] := by rfl) : QI X T tg (.Call (.Name "range" p) [a, b] [] pos) (iRg2 f g) :=
  ⟨PI.imp (pi_range2 hg B.range (pa_cons h.pe (pa_cons h2.pe pa_nil hs2) (by rw [hs, hs2])) hs hs2) fun σ H R ⟨ρ, ι, st, ds, st', hE, hS, hf, hk⟩ => by
    obtain ⟨⟨x, s1⟩, e1, hf⟩ := bnd hf
    obtain ⟨⟨y, s2⟩, e2, hf⟩ := bnd hf
    refine ⟨ρ, ι, st, x, s1, hE, hS, e1, fun v H1 ι1 l1 S1 r1 => ⟨ρ, ι1, s1, y, s2, hE.le l1, S1, e2, fun w H2 ι2 l2 S2 r2 => ?_⟩⟩
    cases x with
    | loc n => cases hf
    | d x =>
      cases x with
      | int i =>
        cases y with
        | loc n => cases hf
        | d y =>
          cases y with
          | int j =>
            have hf' : (if smallI i = true ∧ smallI j = true then some (rgD i (j - i).toNat, s2) else none) = some (ds, st') := hf
            split at hf'
            · rename_i hz
              cases hf'
              cases r1
              cases r2
              obtain ⟨z1, z2⟩ := smallI_ok hz.1
              obtain ⟨z3, z4⟩ := smallI_ok hz.2
              exact ⟨i, j, rfl, ⟨z1, z2, z3, z4⟩, hk _ H2 ι2 (l1.trans l2) S2 (walk_rgD i (j - i).toNat)⟩
            · cases hf'
          | _ => cases hf
      | _ => cases hf⟩

/-! ### list comprehensions -/
def wipeR (ρ : Rho) : List Nat → Rho
  | [] => ρ
  | v :: vs => (wipeR ρ vs).set v none
theorem EnvR.wipe {K : PySem.W.Frag} {H : Hp} {ι : List Addr} {σ : L2.St} {ρ : Rho} (h : EnvR K H ι σ ρ) : ∀ vs : List Nat, EnvR K H ι (L2.wipe σ vs) (wipeR ρ vs)
  | [] => h
  | v :: vs => by
    have ih := EnvR.wipe h vs
    unfold L2.wipe wipeR
    refine ⟨by rw [List.length_set, List.length_set]; exact ih.len, fun j y hy => ?_⟩
    by_cases e : j = v
    · subst e
      by_cases hl : j < (wipeR ρ vs).length
      · rw [List.getElem?_set_self hl] at hy; cases hy
      · rw [List.getElem?_eq_none (by rw [List.length_set]; omega)] at hy; cases hy
    · rw [List.getElem?_set_ne (Ne.symm e)] at hy
      obtain ⟨w, h1, h2⟩ := ih.val j y hy
      exact ⟨w, by rw [List.getElem?_set_ne (Ne.symm e)]; exact h1, h2⟩
def tYesQ : Tv := fun _ st => some (true, st)
structure QTs (X : Cx) (T : Tb) (ifs : List Expr) (f : Tv) : Prop where
  pt : PTs X ifs (tTs X.K T f)
theorem PTs.imp {ifs : List Expr} {t t' : TT} (h : PTs X ifs t) (i : ∀ σ H Q, t' σ H Q → t σ H Q) : PTs X ifs t' := ⟨fun pins s σ H Q I q => h.run pins s σ H Q I (i σ H Q q)⟩
theorem qts_nil : QTs X T [] tYesQ := ⟨PTs.imp pts_nil fun σ H Q ⟨ρ, ι, st, r, st', hE, hS, hf, hk⟩ => by
  cases hf
  exact hk H ι (Le.refl H ι) hS⟩
theorem qts_one {f : Tv} (h : QT X T c f) : QTs X T [c] f := ⟨pts_one h.pt⟩
def compD (own : List Nat) (b : Bd) (t : Tv) (f : Ev) (ρ : Rho) : List PyData → Sto → Option (List PyData × Sto)
  | [], st => some ([], st)
  | d :: ds, st => do
    let (ρ1, s1) ← b (.d d) (wipeR ρ own) st
    let (z, s2) ← t ρ1 s1
    if z = true then do
      let (x, s3) ← f ρ1 s2
      let y ← datV x
      let (ys, s4) ← compD own b t f ρ ds (s3.take st.length)
      some (y :: ys, s4)
    else compD own b t f ρ ds (s2.take st.length)
def lComp (own : List Nat) (fi : Lv) (b : Bd) (t : Tv) (f : Ev) : Lv := fun ρ st => do
  let (ds, s1) ← fi ρ st
  if ds.length ≤ 16777216 then compD own b t f ρ ds s1 else none
theorem wipe_at (σ : L2.St) : ∀ (vs : List Nat) (i : Nat), i ∈ vs → i < σ.length → (wipe σ vs)[i]? = some none
  | [], _, h, _ => by cases h
  | v :: vs, i, h, hl => by
    unfold wipe
    by_cases e : v = i
    · subst e
      exact List.getElem?_set_self (by rw [wipe_length]; exact hl)
    · rw [List.getElem?_set_ne e]
      rcases List.mem_cons.mp h with z | z
      · exact absurd z.symm e
      · exact wipe_at σ vs i z hl
theorem wipe_wipe (σ : L2.St) (vs : List Nat) : wipe (wipe σ vs) vs = wipe σ vs := by
  apply List.ext_getElem?
  intro i
  by_cases hi : i ∈ vs
  · by_cases hl : i < σ.length
    · rw [wipe_at _ vs i hi (by rw [wipe_length]; exact hl), wipe_at _ vs i hi hl]
    · rw [List.getElem?_eq_none (by rw [wipe_length, wipe_length]; omega), List.getElem?_eq_none (by rw [wipe_length]; omega)]
  · rw [wipe_out hi]
/-- the turns of a comprehension -/
theorem comp_turns {own : List Nat} {b : Bd} {t : Tv} {f : Ev} {K : PySem.W.Frag} {J : It} {ds : List PyData} {H0 : Hp} {ι0 : List Addr} {s0 : Sto} {ρ : Rho} {σ : L2.St} {D : Addr} {Q : VK} {zs : List PyData} {sE : Sto}
    (W : WalkD K J ds H0) (hE : EnvR K H0 ι0 σ ρ) (hS : SR K T H0 ι0 s0) (hD : H0 D = none) (hz : ds.length ≤ 16777216) (hf : compD own b t f ρ ds s0 = some (zs, sE))
    (hk : ∀ vs H' ι', Le H0 ι0 H' ι' → SR K T H' ι' sE → H' D = some (.lst vs) → D ∉ ι' → RepAll K H' vs zs → Q (.ref D) H') :
    ∃ Wd : Nat → Nat → Hp → Prop, (∃ m, Wd 0 m (upd H0 D (.lst []))) ∧ ∀ i m H, Wd i m H →
      (J.stop i H ∧ Q (.ref D) H) ∨ (J.go i H ∧ ∃ Nx : Hp → Prop, (∀ H', Nx H' → ∃ m', m' < m ∧ Wd (i + 1) m' H') ∧ ∀ x H', J.yld i H x H' → tBd K T own b x (wipe σ own) H' fun σ2 H2 => wipe σ2 own = wipe σ own ∧ tTs K T t σ2 H2 fun z H3 =>
        if z = true then tEv K T f σ2 H3 fun y H4 => ∃ acc, H4 D = some (.lst acc) ∧ acc.length < sizeLine ∧ Nx (upd H4 D (.lst (acc ++ [y]))) else Nx H3) := by
  refine ⟨fun i m H => m = ds.length - i ∧ i ≤ ds.length ∧ ∃ (ι : List Addr) (st : Sto) (vs : List V) (ys : List PyData) (rest : List PyData), Le H0 ι0 H ι ∧ SR K T H ι st ∧ H D = some (.lst vs) ∧ D ∉ ι ∧ vs.length ≤ i ∧ RepAll K H vs ys ∧
      compD own b t f ρ (ds.drop i) st = some (rest, sE) ∧ zs = ys ++ rest, ⟨ds.length, by simp, Nat.zero_le _, ι0, s0, [], [], zs, Le.same (same_upd hD), hS.same (same_upd hD), upd_same, nmem_of hS hD, Nat.le_refl _, .nil, hf, rfl⟩, ?_⟩
  rintro i m H ⟨rfl, hi, ι, st, vs, ys, rest, l, S, hH, nD, hv, ra, hc, ez⟩
  by_cases hlt : i < ds.length
  · have hd : ds[i]? = some ds[i] := List.getElem?_eq_getElem hlt
    have hdr : ds.drop i = ds[i] :: ds.drop (i + 1) := List.drop_eq_getElem_cons hlt
    rw [hdr] at hc
    obtain ⟨⟨ρ1, s1⟩, e1, hc⟩ := bnd hc
    obtain ⟨⟨z, s2⟩, e2, hc⟩ := bnd hc
    refine .inr ⟨W.goes i H hlt l.ext, fun H' => ∃ (ι' : List Addr) (st' : Sto) (vs' : List V) (ys' rest' : List PyData), Le H0 ι0 H' ι' ∧ SR K T H' ι' st' ∧ H' D = some (.lst vs') ∧ D ∉ ι' ∧ vs'.length ≤ i + 1 ∧ RepAll K H' vs' ys' ∧
      compD own b t f ρ (ds.drop (i + 1)) st' = some (rest', sE) ∧ zs = ys' ++ rest', fun H' hN => ?_, fun x H' hy => ?_⟩
    · obtain ⟨ι', st', vs', ys', rest', h⟩ := hN
      exact ⟨ds.length - (i + 1), by omega, rfl, by omega, ι', st', vs', ys', rest', h⟩
    · obtain ⟨hs, rx⟩ := W.yields i H x H' _ hd l.ext hy
      have lH : Le H0 ι0 H' ι := l.trans (Le.same hs)
      have SH := S.same hs
      have hH' : H' D = some (.lst vs) := hs _ _ hH
      have step : ∀ {H2 : Hp} {ι2 : List Addr}, Le H' ι H2 ι2 → H2 D = some (.lst vs) ∧ D ∉ ι2 := fun {H2 ι2} l2 => ⟨l2.fr D _ hH' (fun ps z => by cases z) nD, fun hm => by
        have := l2.new D hm nD
        rw [hH'] at this; cases this⟩
      refine ⟨wipeR ρ own, ι, st, .d ds[i], ρ1, s1, (hE.le lH).wipe own, SH, rx, e1, fun σ1 H1 ι1 l1 E1 S1 w1 => ⟨w1.trans (wipe_wipe σ own), ρ1, ι1, s1, z, s2, E1, S1, e2, fun H2 ι2 l2 S2 => ?_⟩⟩
      have l12 := l1.trans l2
      cases z with
      | true =>
        refine iteT ?_
        have hc' : (f ρ1 s2 >>= fun q => datV q.1 >>= fun y => compD own b t f ρ (ds.drop (i + 1)) (q.2.take st.length) >>= fun r => some (y :: r.1, r.2)) = some (rest, sE) := hc
        obtain ⟨⟨y, s3⟩, e3, hc'⟩ := bnd hc'
        obtain ⟨d, e4, hc'⟩ := bnd hc'
        obtain ⟨⟨rest', s4⟩, e5, hc'⟩ := bnd hc'
        cases hc'
        refine ⟨ρ1, ι2, s2, y, s3, E1.le l2, S2, e3, fun v H4 ι4 l4 S4 r4 => ?_⟩
        cases y with
        | loc n => cases e4
        | d y =>
          cases e4
          have l14 := l12.trans l4
          obtain ⟨h4, n4⟩ := step l14
          have hvl : vs.length < 16777216 := by omega
          have x4 : Ext H4 (upd H4 D (.lst (vs ++ [v]))) := ext_but h4
          have xH : Ext H' (upd H4 D (.lst (vs ++ [v]))) := l14.ext.trans x4
          refine ⟨vs, h4, hvl, ι4.take st.length, s3.take st.length, vs ++ [v], ys ++ [d], rest', ?_, ?_, upd_same, ?_, ?_, ?_, e5, ?_⟩
          · have q := (lH.trans l14).upd (o := HO.lst (vs ++ [v])) hD
            refine ⟨q.ext, ?_, q.fr, q.tb, fun b hb hm => q.new b (List.mem_of_mem_take hb) hm⟩
            have p1 : ι <+: ι4 := l14.pre
            have p2 := pre_take p1
            rw [S.len] at p2
            exact l.pre.trans p2
          · exact (S4.but h4 n4).take _
          · exact fun hm => n4 (List.mem_of_mem_take hm)
          · rw [List.length_append]; simp; omega
          · exact (RepAll.ext ((Ext.same hs).trans xH) _ _ ra).app (.cons (Rep.ext x4 _ _ r4) .nil)
          · rw [ez]; simp
      | false =>
        refine iteF ?_
        have hc' : compD own b t f ρ (ds.drop (i + 1)) (s2.take st.length) = some (rest, sE) := hc
        obtain ⟨h2, n2⟩ := step l12
        refine ⟨ι2.take st.length, s2.take st.length, vs, ys, rest, ?_, S2.take _, h2, fun hm => n2 (List.mem_of_mem_take hm), by omega, RepAll.ext ((Ext.same hs).trans l12.ext) _ _ ra, hc', ez⟩
        have q := lH.trans l12
        refine ⟨q.ext, ?_, q.fr, q.tb, fun b hb hm => q.new b (List.mem_of_mem_take hb) hm⟩
        have p2 := pre_take l12.pre
        rw [S.len] at p2
        exact l.pre.trans p2
  · have e : i = ds.length := by omega
    subst e
    rw [List.drop_length] at hc
    cases hc
    rw [List.append_nil] at ez
    subst ez
    exact .inl ⟨W.stops H l.ext, hk vs H ι l S hH nD ra⟩
theorem ql_comp {elt tg iter : Expr} {ifs : List Expr} {scope : Scope} {own : List (Str × Nat)} {fi : Lv} {bd : Bd} {t : Tv} {f : Ev} (hc : X.calm = true) (hN : X.N.Nodup) (ok : BlkOk X.N X.env.scope scope own) (hi : QI X T tg iter fi)
    (hg : ∀ (s : Shared) (H : Hp) (C : Addr) (cl : List (Str × Addr)) (fp : List Addr), QG (X.blk s H scope (compEnvC scope cl C X.env) fp) T tg (own.map (·.2)) bd)
    (ht : ∀ (s : Shared) (H : Hp) (C : Addr) (cl : List (Str × Addr)) (fp : List Addr), QTs (X.blk s H scope (compEnvC scope cl C X.env) fp) T ifs t)
    (he : ∀ (s : Shared) (H : Hp) (C : Addr) (cl : List (Str × Addr)) (fp : List Addr), QE (X.blk s H scope (compEnvC scope cl C X.env) fp) T elt f)
    (hs : ∀ x, foldedSetIterable iter X.env x = pure x := by intro _; rfl) : QL X T (.ListComp elt [⟨tg, iter, ifs, 0⟩] scope pos) (lComp (own.map (·.2)) fi bd t f) :=
  ⟨PE.imp (pe_lc (g := tBd X.K T (own.map (·.2)) bd) (tt := tTs X.K T t) (te := tEv X.K T f) hc hN hi.pi ok (fun s H C cl fp => (hg s H C cl fp).pg) (fun s H C cl fp => (ht s H C cl fp).pt) (fun s H C cl fp => (he s H C cl fp).pe) hs) fun σ H Q ⟨ρ, ι, st, zs, sE, hE, hS, hf, hk⟩ => by
    obtain ⟨⟨ds, s1⟩, e1, hf⟩ := bnd hf
    have hf' : (if ds.length ≤ 16777216 then compD (own.map (·.2)) bd t f ρ ds s1 else none) = some (zs, sE) := hf
    split at hf'
    · rename_i hz
      refine ⟨ρ, ι, st, ds, s1, hE, hS, e1, fun J H1 ι1 l1 S1 W D hD => ?_⟩
      exact comp_turns W (hE.le l1) S1 hD hz hf' fun vs H' ι' l S hH nD ra => hk D vs H' ι' (l1.free S1 hD) (l1.trans l) S hH nD ra
    · cases hf'⟩
end
end QL

end
section
set_option Elab.async false
set_option linter.all false
set_option autoImplicit false
set_option maxRecDepth 100000
set_option maxHeartbeats 4000000
/-! Q5: statements, calls, functions. -/
namespace QL
open PySem PySem.Spec PyProof.Rows L2
inductive Out where
  | nx | bk | ct | rt (v : Vl)
abbrev Ex := Rho → Sto → Option (Out × Rho × Sto)
def OutR (K : PySem.W.Frag) (T : Tb) (D : Ends) (H : Hp) (ι : List Addr) (o : Out) (ρ' : Rho) (st' : Sto) : Prop :=
  match o with
  | .nx => ∀ σ' H' ι', Le H ι H' ι' → EnvR K H' ι' σ' ρ' → SR K T H' ι' st' → D.nx σ' H'
  | .bk => ∀ σ' H' ι', Le H ι H' ι' → EnvR K H' ι' σ' ρ' → SR K T H' ι' st' → D.bk σ' H'
  | .ct => ∀ σ' H' ι', Le H ι H' ι' → EnvR K H' ι' σ' ρ' → SR K T H' ι' st' → D.ct σ' H'
  | .rt r => ∀ v H' ι', Le H ι H' ι' → SR K T H' ι' st' → VlR K H' ι' v r → D.rt v H'
theorem OutR.le {K : PySem.W.Frag} {T : Tb} {D : Ends} {H H1 : Hp} {ι ι1 : List Addr} {o : Out} {ρ' : Rho} {st' : Sto} (l : Le H ι H1 ι1) (h : OutR K T D H ι o ρ' st') : OutR K T D H1 ι1 o ρ' st' := by
  cases o with
  | nx => exact fun σ' H' ι' l1 => h σ' H' ι' (l.trans l1)
  | bk => exact fun σ' H' ι' l1 => h σ' H' ι' (l.trans l1)
  | ct => exact fun σ' H' ι' l1 => h σ' H' ι' (l.trans l1)
  | rt r => exact fun v H' ι' l1 => h v H' ι' (l.trans l1)
def tEx (K : PySem.W.Frag) (T : Tb) (f : Ex) : TS := fun D σ H => ∃ ρ ι st o ρ' st', EnvR K H ι σ ρ ∧ SR K T H ι st ∧ f ρ st = some (o, ρ', st') ∧ OutR K T D H ι o ρ' st'
structure QS (X : Cx) (T : Tb) (s : Stmt) (f : Ex) : Prop where
  ps : PS X s (tEx X.K T f)
structure QSs (X : Cx) (T : Tb) (s : List Stmt) (f : Ex) : Prop where
  ps : PSs X s (tEx X.K T f)
section
variable {X : Cx} {T : Tb} {e a b c : Expr} {pos p : Pos} {s : Stmt} {ss : List Stmt}
def sNil : Ex := fun ρ st => some (.nx, ρ, st)
def sCons (f g : Ex) : Ex := fun ρ st => do
  let (o, ρ1, s1) ← f ρ st
  match o with
  | .nx => g ρ1 s1
  | _ => some (o, ρ1, s1)
theorem qss_nil : QSs X T [] sNil := ⟨PSs.imp pss_nil fun σ H D ⟨ρ, ι, st, o, ρ', st', hE, hS, hf, hk⟩ => by
  cases hf
  exact hk σ H ι (Le.refl H ι) hE hS⟩
theorem qss_cons {f g : Ex} (h1 : QS X T s f) (h2 : QSs X T ss g) : QSs X T (s :: ss) (sCons f g) := ⟨PSs.imp (pss_cons h1.ps h2.ps) fun σ H D ⟨ρ, ι, st, o, ρ', st', hE, hS, hf, hk⟩ => by
  obtain ⟨⟨o1, ρ1, s1⟩, e1, hf⟩ := bnd hf
  refine ⟨ρ, ι, st, o1, ρ1, s1, hE, hS, e1, ?_⟩
  cases o1 with
  | nx => exact fun σ1 H1 ι1 l1 E1 S1 => ⟨ρ1, ι1, s1, o, ρ', st', E1, S1, hf, hk.le l1⟩
  | bk => cases hf; exact hk
  | ct => cases hf; exact hk
  | rt r => cases hf; exact hk⟩
theorem qss_one {f : Ex} (h1 : QS X T s f) : QSs X T [s] f := ⟨pss_one h1.ps⟩
/-- the list in a slot is locked: a step of the proof alone -/
def sFrz (i : Nat) (f : Ex) : Ex := fun ρ st => match ρ[i]? with
  | some (some (.loc n)) => match st[n]? with
    | some (some (.lst ds)) => f (ρ.set i (some (.d (.list ds)))) (st.set n none)
    | _ => none
  | _ => none
theorem qss_frz {f : Ex} (i : Nat) (h : QSs X T ss f) : QSs X T ss (sFrz i f) := ⟨⟨fun pins s σ H D I ⟨ρ, ι, st, o, ρ', st', hE, hS, hf, hk⟩ => by
  unfold sFrz at hf
  split at hf
  · rename_i n q
    split at hf
    · rename_i ds q2
      obtain ⟨v, hv, ⟨a, ha, ev⟩⟩ := hE.val i _ q
      subst ev
      obtain ⟨a', ha', vs, hp, ra⟩ := hS.cell n _ q2
      rw [ha] at ha'; cases ha'
      obtain ⟨od, I2⟩ := I.lock hp trivial
      have x : Ext H (upd H a (.frz od (.lst vs))) := ext_but hp
      have l : Le H ι (upd H a (.frz od (.lst vs))) ι := (Le.refl H ι).put (List.mem_of_getElem? ha) hp
      have S2 : SR X.K T (upd H a (.frz od (.lst vs))) ι (st.set n none) := hS.kill ha hp
      have r : VlR X.K (upd H a (.frz od (.lst vs))) ι (.ref a) (.d (.list ds)) := Rep.lst (.inl ⟨od, upd_same⟩) (RepAll.ext x _ _ ra)
      have E2 := (hE.le l).set (i := i) r
      have es : σ.set i (some (.ref a)) = σ := by
        apply List.ext_getElem?
        intro j
        by_cases e : j = i
        · subst e
          rw [List.getElem?_set_self (List.getElem?_eq_some_iff.mp hv).1, hv]
        · rw [List.getElem?_set_ne (Ne.symm e)]
      rw [es] at E2
      exact h.ps.run pins s σ _ D I2 ⟨_, ι, _, o, ρ', st', E2, S2, hf, hk.le l⟩
    · cases hf
  · cases hf⟩⟩
def sExpr (f : Ev) : Ex := fun ρ st => do
  let (_, s1) ← f ρ st
  some (.nx, ρ, s1)
theorem qs_expr {f : Ev} (h : QE X T e f) (hs : swapsWith e none pos.line X.env = pure false := by rfl) : QS X T (.Expr e pos) (sExpr f) := ⟨PS.imp (ps_expr h.pe hs) fun σ H D ⟨ρ, ι, st, o, ρ', st', hE, hS, hf, hk⟩ => by
  obtain ⟨⟨x, s1⟩, e1, hf⟩ := bnd hf
  cases hf
  exact ⟨ρ, ι, st, x, _, hE, hS, e1, fun v H1 ι1 l1 S1 r1 => hk σ H1 ι1 l1 (hE.le l1) S1⟩⟩
theorem qs_doc {x : Str} {j : Nat} {p' : Pos} : QS X T (.Expr (.Constant (.str x) j p') pos) sNil := ⟨PS.imp ps_doc fun σ H D ⟨ρ, ι, st, o, ρ', st', hE, hS, hf, hk⟩ => by
  cases hf
  exact hk σ H ι (Le.refl H ι) hE hS⟩
theorem qs_pass : QS X T (.Pass pos) sNil := ⟨PS.imp ps_pass fun σ H D ⟨ρ, ι, st, o, ρ', st', hE, hS, hf, hk⟩ => by
  cases hf
  exact hk σ H ι (Le.refl H ι) hE hS⟩
def sBrk : Ex := fun ρ st => some (.bk, ρ, st)
def sCnt : Ex := fun ρ st => some (.ct, ρ, st)
theorem qs_break : QS X T (.Break pos) sBrk := ⟨PS.imp ps_break fun σ H D ⟨ρ, ι, st, o, ρ', st', hE, hS, hf, hk⟩ => by
  cases hf
  exact hk σ H ι (Le.refl H ι) hE hS⟩
theorem qs_cont : QS X T (.Continue pos) sCnt := ⟨PS.imp ps_continue fun σ H D ⟨ρ, ι, st, o, ρ', st', hE, hS, hf, hk⟩ => by
  cases hf
  exact hk σ H ι (Le.refl H ι) hE hS⟩
def sRet (f : Ev) : Ex := fun ρ st => do
  let (x, s1) ← f ρ st
  some (.rt x, ρ, s1)
theorem qs_ret {f : Ev} (h : QE X T e f) : QS X T (.Return (some e) pos) (sRet f) := ⟨PS.imp (ps_ret h.pe) fun σ H D ⟨ρ, ι, st, o, ρ', st', hE, hS, hf, hk⟩ => by
  obtain ⟨⟨x, s1⟩, e1, hf⟩ := bnd hf
  cases hf
  exact ⟨ρ, ι, st, x, _, hE, hS, e1, fun v H1 ι1 l1 S1 r1 => hk v H1 ι1 l1 S1 r1⟩⟩
theorem qs_retN : QS X T (.Return none pos) (sRet (eC .none)) := ⟨PS.imp ps_retN fun σ H D ⟨ρ, ι, st, o, ρ', st', hE, hS, hf, hk⟩ => by
  obtain ⟨⟨x, s1⟩, e1, hf⟩ := bnd hf
  cases hf
  cases e1
  exact hk .non H ι (Le.refl H ι) hS .non⟩
/-- what the reading leaves out: a statement that a proof never comes to -/
def sNever : Ex := fun _ _ => none
theorem qs_never : QS X T s sNever := ⟨PS.imp ps_never fun σ H D ⟨ρ, ι, st, o, ρ', st', hE, hS, hf, hk⟩ => by cases hf⟩
theorem qss_never : QSs X T ss sNever := ⟨PSs.imp pss_never fun σ H D ⟨ρ, ι, st, o, ρ', st', hE, hS, hf, hk⟩ => by cases hf⟩
def sIf (t : Tv) (f g : Ex) : Ex := fun ρ st => do
  let (z, s1) ← t ρ st
  if z = true then f ρ s1 else g ρ s1
theorem qs_if {x y : List Stmt} {t : Tv} {f g : Ex} (hc : QT X T c t) (h1 : QSs X T x f) (h2 : QSs X T y g) : QS X T (.If c x y pos) (sIf t f g) := ⟨PS.imp (ps_if hc.pt h1.ps h2.ps) fun σ H D ⟨ρ, ι, st, o, ρ', st', hE, hS, hf, hk⟩ => by
  obtain ⟨⟨z, s1⟩, e1, hf⟩ := bnd hf
  refine ⟨ρ, ι, st, z, s1, hE, hS, e1, fun H1 ι1 l1 S1 => ?_⟩
  cases z with
  | true => exact iteT ⟨ρ, ι1, s1, o, ρ', st', hE.le l1, S1, hf, hk.le l1⟩
  | false => exact iteF ⟨ρ, ι1, s1, o, ρ', st', hE.le l1, S1, hf, hk.le l1⟩⟩
/-- target = e -/
def sAsg (f : Ev) (bd : Bd) : Ex := fun ρ st => do
  let (x, s1) ← f ρ st
  let (ρ1, s2) ← bd x ρ s1
  some (.nx, ρ1, s2)
theorem asg_step {own : List Nat} {f : Ev} {bd : Bd} {σ : L2.St} {H : Hp} {D : Ends} (h : tEx X.K T (sAsg f bd) D σ H) : tAsg (tEv X.K T f) (tBd X.K T own bd) D σ H := by
  obtain ⟨ρ, ι, st, o, ρ', st', hE, hS, hf, hk⟩ := h
  obtain ⟨⟨x, s1⟩, e1, hf⟩ := bnd hf
  obtain ⟨⟨ρ1, s2⟩, e2, hf⟩ := bnd hf
  cases hf
  exact ⟨ρ, ι, st, x, s1, hE, hS, e1, fun v H1 ι1 l1 S1 r1 => ⟨ρ, ι1, s1, x, _, _, hE.le l1, S1, r1, e2, fun σ2 H2 ι2 l2 E2 S2 w2 => hk σ2 H2 ι2 (l1.trans l2) E2 S2⟩⟩
theorem qs_asg {tg : Expr} {own : List Nat} {f : Ev} {bd : Bd} (he : QE X T e f) (hg : QG X T tg own bd) (hs : swapsWithSole [tg] e pos.line X.env = pure false := by rfl) (hw : swappedStores [tg] e X.env = pure none := by rfl)
    (h1 : (assignEach [tg] X.env).map (·.2) = [assign tg X.env] := by rfl) : QS X T (.Assign [tg] e pos) (sAsg f bd) := ⟨PS.imp (ps_asg he.pe hg.pg hs hw h1) fun σ H D h => asg_step h⟩
theorem qs_set {i : Nat} {x : Str} {f : Ev} {p' : Pos} (hN : X.N.Nodup) (hi : X.N[i]? = some x) (hx : Loc X.env.scope x) (he : QE X T e f) (hs : swapsWith e (some (.Name x p')) pos.line X.env = pure false := by rfl) (hf : X.fn x = true ∨ X.env.scope.names.lookup x = some .local := by first | exact .inl rfl | exact .inr rfl | assumption) :
    QS X T (.Assign [.Name x p'] e pos) (sAsg f (bName i)) := ⟨PS.imp (ps_set hN hi hx he.pe hs hf) fun σ H D ⟨ρ, ι, st, o, ρ', st', hE, hS, hf, hk⟩ => by
  obtain ⟨⟨x, s1⟩, e1, hf⟩ := bnd hf
  obtain ⟨⟨ρ1, s2⟩, e2, hf⟩ := bnd hf
  cases hf
  cases e2
  exact ⟨ρ, ι, st, x, _, hE, hS, e1, fun v H1 ι1 l1 S1 r1 => hk _ H1 ι1 l1 ((hE.le l1).set r1) S1⟩⟩
/-- y = [.. for ..]: the new list's reading -/
def sPar2 (i j : Nat) (g : Evs) : Ex := fun ρ st => do
  let (xs, s1) ← g ρ st
  match xs with
  | [x, y] => some (.nx, (ρ.set i (some x)).set j (some y), s1)
  | _ => none
theorem VlsR.two {K : PySem.W.Frag} {H : Hp} {ι : List Addr} {vs : List V} {x y : Vl} (h : VlsR K H ι vs [x, y]) : ∃ v w, vs = [v, w] ∧ VlR K H ι v x ∧ VlR K H ι w y := by
  cases h with
  | cons h1 h2 => cases h2 with
    | cons h3 h4 => cases h4; exact ⟨_, _, rfl, h1, h3⟩
theorem VlsR.three {K : PySem.W.Frag} {H : Hp} {ι : List Addr} {vs : List V} {x y z : Vl} (h : VlsR K H ι vs [x, y, z]) : ∃ v w u, vs = [v, w, u] ∧ VlR K H ι v x ∧ VlR K H ι w y ∧ VlR K H ι u z := by
  cases h with
  | cons h1 h2 =>
    obtain ⟨w, u, rfl, h3, h4⟩ := h2.two
    exact ⟨_, _, _, rfl, h1, h3, h4⟩
theorem qs_par2 {i j : Nat} {x y : Str} {g : Evs} {px py pt : Pos} {kt k2 : Nat} {pt2 : Pos} (hc : X.calm = true) (hN : X.N.Nodup) (hi : X.N[i]? = some x) (hj : X.N[j]? = some y) (hij : i ≠ j)
    (hx : X.env.scope.names.lookup x = some .local) (hy : X.env.scope.names.lookup y = some .local) (ha : QA X T [a, b] g)
    (hw : swappedStores [.Tuple [.Name x px, .Name y py] kt pt] (.Tuple [a, b] k2 pt2) X.env = pure (some [x, y]))
    (hs : swapsWithSole [.Tuple [.Name x px, .Name y py] kt pt] (.Tuple [a, b] k2 pt2) pos.line X.env = pure false := by rfl) :
    QS X T (.Assign [.Tuple [.Name x px, .Name y py] kt pt] (.Tuple [a, b] k2 pt2) pos) (sPar2 i j g) := ⟨PS.imp (ps_par hc hN hi hj hij hx hy ha.pa hw hs) fun σ H D ⟨ρ, ι, st, o, ρ', st', hE, hS, hf, hk⟩ => by
  obtain ⟨⟨xs, s1⟩, e1, hf⟩ := bnd hf
  refine ⟨ρ, ι, st, xs, s1, hE, hS, e1, fun vs H1 ι1 l1 S1 r1 => ?_⟩
  match xs, hf with
  | [x, y], hf =>
    cases hf
    obtain ⟨v, w, rfl, h1, h2⟩ := r1.two
    exact ⟨v, w, rfl, hk _ H1 ι1 l1 (((hE.le l1).set h1).set h2) S1⟩⟩
def sPar3 (i j l : Nat) (g : Evs) : Ex := fun ρ st => do
  let (xs, s1) ← g ρ st
  match xs with
  | [x, y, z] => some (.nx, ((ρ.set i (some x)).set j (some y)).set l (some z), s1)
  | _ => none
theorem qs_par3 {i j l : Nat} {x y z : Str} {g : Evs} {px py pz pt : Pos} {kt k2 : Nat} {pt2 : Pos} (hc : X.calm = true) (hN : X.N.Nodup) (hi : X.N[i]? = some x) (hj : X.N[j]? = some y) (hl : X.N[l]? = some z) (hij : i ≠ j) (hil : i ≠ l) (hjl : j ≠ l)
    (hx : X.env.scope.names.lookup x = some .local) (hy : X.env.scope.names.lookup y = some .local) (hz : X.env.scope.names.lookup z = some .local) (ha : QA X T [a, b, c] g)
    (hw : swappedStores [.Tuple [.Name x px, .Name y py, .Name z pz] kt pt] (.Tuple [a, b, c] k2 pt2) X.env = pure (some [x, y, z]))
    (hs : swapsWithSole [.Tuple [.Name x px, .Name y py, .Name z pz] kt pt] (.Tuple [a, b, c] k2 pt2) pos.line X.env = pure false := by rfl) :
    QS X T (.Assign [.Tuple [.Name x px, .Name y py, .Name z pz] kt pt] (.Tuple [a, b, c] k2 pt2) pos) (sPar3 i j l g) := ⟨PS.imp (ps_par3 hc hN hi hj hl hij hil hjl hx hy hz ha.pa hw hs) fun σ H D ⟨ρ, ι, st, o, ρ', st', hE, hS, hf, hk⟩ => by
  obtain ⟨⟨xs, s1⟩, e1, hf⟩ := bnd hf
  refine ⟨ρ, ι, st, xs, s1, hE, hS, e1, fun vs H1 ι1 l1 S1 r1 => ?_⟩
  match xs, hf with
  | [x, y, z], hf =>
    cases hf
    obtain ⟨v, w, u, rfl, h1, h2, h3⟩ := r1.three
    exact ⟨v, w, u, rfl, hk _ H1 ι1 l1 ((((hE.le l1).set h1).set h2).set h3) S1⟩⟩
/-- xs[i] = v, xs a cell -/
def bSub (fo fi : Ev) : Bd := fun x ρ st => do
  let (o, s1) ← fo ρ st
  let (i, s2) ← fi ρ s1
  let d ← datV x
  match o, i with
  | .loc n, .d (.int k) => match s2[n]? with
    | some (some (.lst ds)) => (ixN ds.length k).map fun j => (ρ, s2.set n (some (.lst (ds.set j d))))
    | _ => none
  | _, _ => none
theorem qg_sub {o i : Expr} {fo fi : Ev} {own : List Nat} (ho : QE X T o fo) (hi : QE X T i fi)
    (ha : ∀ v, assign (.Subscript o i pos) X.env v = (do
      let ov ← holding [v] (eval o X.env)
      let iv ← holding [v, ov] (eval i X.env)
      standAt pos
      holding [v, ov, iv] (setItem ov iv v)
      release [v, ov, iv] []) := by intro _; rfl) : QG X T (.Subscript o i pos) own (bSub fo fi) :=
  ⟨PG.imp (pg_sub ho.pe hi.pe set_list ha) fun v σ H Q ⟨ρ, ι, st, x, ρ', st', hE, hS, hr, hb, hk⟩ => by
    obtain ⟨⟨ov, s1⟩, e1, hb⟩ := bnd hb
    obtain ⟨⟨iv, s2⟩, e2, hb⟩ := bnd hb
    obtain ⟨d, e3, hb⟩ := bnd hb
    refine ⟨ρ, ι, st, ov, s1, hE, hS, e1, fun w H1 ι1 l1 S1 r1 => ⟨ρ, ι1, s1, iv, s2, hE.le l1, S1, e2, fun u H2 ι2 l2 S2 r2 => ?_⟩⟩
    cases x with
    | loc n => cases e3
    | d y =>
      cases e3
      cases ov with
      | d y => cases hb
      | loc n =>
        cases iv with
        | loc m => cases hb
        | d y =>
          cases y with
          | int k =>
            have hb' : (match s2[n]? with
              | some (some (.lst ds)) => (ixN ds.length k).map fun j => (ρ, s2.set n (some (.lst (ds.set j d))))
              | _ => none) = some (ρ', st') := hb
            split at hb'
            · rename_i ds q
              obtain ⟨j, ej, hb'⟩ := Option.map_eq_some_iff.mp hb'
              cases hb'
              obtain ⟨a, ha, ev⟩ := r1.le l2
              subst ev
              obtain ⟨a', ha', vs, hp, ra⟩ := S2.cell n _ q
              rw [ha] at ha'; cases ha'
              cases r2
              have l12 := l1.trans l2
              refine ⟨a, vs, k, j, rfl, rfl, hp, by rw [ra.len]; exact ej, ?_⟩
              have rd' : Rep X.K H2 v d := Rep.ext l12.ext _ _ hr
              have l' := l12.put (o := HO.lst (vs.set j v)) (List.mem_of_getElem? ha) hp
              exact hk _ _ ι2 l' ((hE.le l')) (S2.put (ds := ds) ha hp (ra.set rd' j)) rfl
            · cases hb'
          | _ => cases hb⟩
/-- name op= e -/
def sAug (i : Nat) (g : G2) (f : Ev) : Ex := fun ρ st => match ρ[i]? with
  | some (some x) => do
    let (y, s1) ← f ρ st
    let a ← rd x s1
    let b ← rd y s1
    let z ← g a b
    some (.nx, ρ.set i (some (.d z)), s1)
  | _ => none
theorem qs_aug {i : Nat} {x : Str} {op : Operator} {r : R2} {g : G2} {f : Ev} {p' : Pos} (hN : X.N.Nodup) (hi : X.N[i]? = some x) (hx : Loc X.env.scope x) (he : QE X T e f) (ho : OpR X (inplaceOp op) r) (hg : Step2 X.K r g) (hf : X.fn x = true ∨ X.env.scope.names.lookup x = some .local := by first | exact .inl rfl | exact .inr rfl | assumption) :
    QS X T (.AugAssign (.Name x p') op e pos) (sAug i g f) := ⟨PS.imp (ps_aug (ti := r) hN hi hx he.pe (fun pins s σ H x y v u Q I r1 r2 q => ho pins s σ H x y v u Q I r1 r2 q) hf) fun σ H D ⟨ρ, ι, st, o, ρ', st', hE, hS, hf, hk⟩ => by
  unfold sAug at hf
  split at hf
  · rename_i x q
    obtain ⟨⟨y, s1⟩, e1, hf⟩ := bnd hf
    obtain ⟨a', e2, hf⟩ := bnd hf
    obtain ⟨b', e3, hf⟩ := bnd hf
    obtain ⟨z, e4, hf⟩ := bnd hf
    cases hf
    obtain ⟨v, hv, rv⟩ := hE.val i x q
    refine ⟨v, hv, ρ, ι, st, y, _, hE, hS, e1, fun u H1 ι1 l1 S1 r1 => ?_⟩
    exact hg H1 v u a' b' z _ (rd_rep S1 (rv.le l1) e2) (rd_rep S1 r1 e3) e4 fun w H2 hs r2 => hk _ H2 ι1 (l1.trans (Le.same hs)) (((hE.le l1).le (Le.same hs)).set r2) (S1.same hs)
  · cases hf⟩
theorem qs_augAdd {i : Nat} {x : Str} {f : Ev} {p' : Pos} (hN : X.N.Nodup) (hi : X.N[i]? = some x) (hx : Loc X.env.scope x) (he : QE X T e f) (hf : X.fn x = true ∨ X.env.scope.names.lookup x = some .local := by first | exact .inl rfl | exact .inr rfl | assumption) :
    QS X T (.AugAssign (.Name x p') .Add e pos) (sAug i (fun x y => match x, y with | .int i, .int j => some (.int (i + j)) | _, _ => none) f) :=
  qs_aug hN hi hx he iop_add (fun H v u x y z Q hx hy hg hk => by
    split at hg
    · cases hg
      rw [hx.int, hy.int]
      exact ⟨_, _, rfl, rfl, hk _ H (Same.refl H) (.int _)⟩
    · cases hg) hf
theorem qs_augSub {i : Nat} {x : Str} {f : Ev} {p' : Pos} (hN : X.N.Nodup) (hi : X.N[i]? = some x) (hx : Loc X.env.scope x) (he : QE X T e f) (hf : X.fn x = true ∨ X.env.scope.names.lookup x = some .local := by first | exact .inl rfl | exact .inr rfl | assumption) :
    QS X T (.AugAssign (.Name x p') .Sub e pos) (sAug i gSub f) := qs_aug hN hi hx he iop_sub st_sub hf

/-! ### for, while -/
def loopD (bd : Bd) (f : Ex) : List PyData → Ex
  | [], ρ, st => some (.nx, ρ, st)
  | d :: ds, ρ, st => do
    let (ρ1, s1) ← bd (.d d) ρ st
    let (o, ρ2, s2) ← f ρ1 s1
    match o with
    | .nx => loopD bd f ds ρ2 s2
    | .ct => loopD bd f ds ρ2 s2
    | .bk => some (.nx, ρ2, s2)
    | .rt v => some (.rt v, ρ2, s2)
def sFor (fi : Lv) (bd : Bd) (f : Ex) : Ex := fun ρ st => do
  let (ds, s1) ← fi ρ st
  loopD bd f ds ρ s1
theorem qs_for {tg iter : Expr} {body : List Stmt} {own : List Nat} {fi : Lv} {bd : Bd} {f : Ex} (hp : PassesOwn (model X.prog X.w) X.A X.env X.xe) (hc : X.calm = true) (hi : QI X T tg iter fi) (hg : QG X T tg own bd) (hb : QSs X T body f)
    (hs : ∀ x, foldedSetIterable iter X.env x = pure x := by intro _; rfl) : QS X T (.For tg iter body [] pos) (sFor fi bd f) := ⟨PS.imp (ps_for hp hc hi.pi hg.pg hb.ps hs) fun σ H D ⟨ρ, ι, st, o, ρ', st', hE, hS, hf, hk⟩ => by
  obtain ⟨⟨ds, s1⟩, e1, hf⟩ := bnd hf
  refine ⟨ρ, ι, st, ds, s1, hE, hS, e1, fun J H1 ι1 l1 S1 W => ?_⟩
  have hk1 := hk.le l1
  refine ⟨fun i m σ H2 => m = ds.length - i ∧ i ≤ ds.length ∧ ∃ ρ2 ι2 s2, Le H1 ι1 H2 ι2 ∧ EnvR X.K H2 ι2 σ ρ2 ∧ SR X.K T H2 ι2 s2 ∧ loopD bd f (ds.drop i) ρ2 s2 = some (o, ρ', st'), ⟨ds.length, by simp, Nat.zero_le _, ρ, ι1, s1, Le.refl _ _, hE.le l1, S1, hf⟩, ?_⟩
  rintro i m σ2 H2 ⟨rfl, hi, ρ2, ι2, s2, l2, E2, S2, hl⟩
  by_cases hlt : i < ds.length
  · have hd : ds[i]? = some ds[i] := List.getElem?_eq_getElem hlt
    rw [List.drop_eq_getElem_cons hlt] at hl
    obtain ⟨⟨ρ3, s3⟩, e3, hl⟩ := bnd hl
    obtain ⟨⟨o4, ρ4, s4⟩, e4, hl⟩ := bnd hl
    refine .inr ⟨W.goes i H2 hlt l2.ext, fun σ' H' => ∃ ρ5 ι5 s5, Le H1 ι1 H' ι5 ∧ EnvR X.K H' ι5 σ' ρ5 ∧ SR X.K T H' ι5 s5 ∧ loopD bd f (ds.drop (i + 1)) ρ5 s5 = some (o, ρ', st'), fun σ' H' hN => ?_, fun x H' hy => ?_⟩
    · obtain ⟨ρ5, ι5, s5, h⟩ := hN
      exact ⟨ds.length - (i + 1), by omega, rfl, by omega, ρ5, ι5, s5, h⟩
    · obtain ⟨hsm, rx⟩ := W.yields i H2 x H' _ hd l2.ext hy
      have l2' := l2.trans (Le.same hsm)
      refine ⟨ρ2, ι2, s2, .d ds[i], ρ3, s3, E2.le (Le.same hsm), S2.same hsm, rx, e3, fun σ3 H3 ι3 l3 E3 S3 w3 => ⟨ρ3, ι3, s3, o4, ρ4, s4, E3, S3, e4, ?_⟩⟩
      have l13 := l2'.trans l3
      cases o4 with
      | nx => exact fun σ4 H4 ι4 l4 E4 S4 => ⟨ρ4, ι4, s4, l13.trans l4, E4, S4, hl⟩
      | ct => exact fun σ4 H4 ι4 l4 E4 S4 => ⟨ρ4, ι4, s4, l13.trans l4, E4, S4, hl⟩
      | bk => cases hl; exact fun σ4 H4 ι4 l4 E4 S4 => hk1 σ4 H4 ι4 (l13.trans l4) E4 S4
      | rt r => cases hl; exact fun v H4 ι4 l4 S4 r4 => hk1 v H4 ι4 (l13.trans l4) S4 r4
  · have e : i = ds.length := by omega
    subst e
    rw [List.drop_length] at hl
    cases hl
    exact .inl ⟨W.stops H2 l2.ext, hk1 σ2 H2 ι2 l2 E2 S2⟩⟩
/-- while, so many turns at most -/
def whileD (t : Tv) (f : Ex) : Nat → Ex
  | 0, _, _ => none
  | n + 1, ρ, st => do
    let (z, s1) ← t ρ st
    if z = true then do
      let (o, ρ2, s2) ← f ρ s1
      match o with
      | .nx => whileD t f n ρ2 s2
      | .ct => whileD t f n ρ2 s2
      | .bk => some (.nx, ρ2, s2)
      | .rt v => some (.rt v, ρ2, s2)
    else some (.nx, ρ, s1)
theorem qs_while {body : List Stmt} {t : Tv} {f : Ex} (n : Nat) (hp : PassesOwn (model X.prog X.w) X.A X.env X.xe) (hc : QT X T c t) (hb : QSs X T body f) : QS X T (.While c body [] pos) (whileD t f n) := ⟨PS.imp (ps_while hp hc.pt hb.ps) fun σ H D ⟨ρ, ι, st, o, ρ', st', hE, hS, hf, hk⟩ => by
  refine ⟨fun m σ H2 => ∃ ρ2 ι2 s2, Le H ι H2 ι2 ∧ EnvR X.K H2 ι2 σ ρ2 ∧ SR X.K T H2 ι2 s2 ∧ whileD t f m ρ2 s2 = some (o, ρ', st'), ⟨n, ρ, ι, st, Le.refl _ _, hE, hS, hf⟩, ?_⟩
  rintro m σ2 H2 ⟨ρ2, ι2, s2, l2, E2, S2, hl⟩
  cases m with
  | zero => cases hl
  | succ m =>
    obtain ⟨⟨z, s3⟩, e3, hl⟩ := bnd hl
    refine ⟨ρ2, ι2, s2, z, s3, E2, S2, e3, fun H3 ι3 l3 S3 => ?_⟩
    cases z with
    | true =>
      refine iteT ⟨fun σ' H' => ∃ ρ5 ι5 s5, Le H ι H' ι5 ∧ EnvR X.K H' ι5 σ' ρ5 ∧ SR X.K T H' ι5 s5 ∧ whileD t f m ρ5 s5 = some (o, ρ', st'), fun σ' H' hN => ⟨m, Nat.lt_succ_self m, hN⟩, ?_⟩
      have hl' : (f ρ2 s3 >>= fun q => match q.1 with
        | .nx => whileD t f m q.2.1 q.2.2
        | .ct => whileD t f m q.2.1 q.2.2
        | .bk => some (.nx, q.2.1, q.2.2)
        | .rt v => some (.rt v, q.2.1, q.2.2)) = some (o, ρ', st') := hl
      obtain ⟨⟨o4, ρ4, s4⟩, e4, hl'⟩ := bnd hl'
      have l23 := l2.trans l3
      refine ⟨ρ2, ι3, s3, o4, ρ4, s4, E2.le l3, S3, e4, ?_⟩
      cases o4 with
      | nx => exact fun σ4 H4 ι4 l4 E4 S4 => ⟨ρ4, ι4, s4, l23.trans l4, E4, S4, hl'⟩
      | ct => exact fun σ4 H4 ι4 l4 E4 S4 => ⟨ρ4, ι4, s4, l23.trans l4, E4, S4, hl'⟩
      | bk => cases hl'; exact fun σ4 H4 ι4 l4 E4 S4 => hk σ4 H4 ι4 (l23.trans l4) E4 S4
      | rt r => cases hl'; exact fun v H4 ι4 l4 S4 r4 => hk v H4 ι4 (l23.trans l4) S4 r4
    | false =>
      refine iteF ?_
      have hl' : some (Out.nx, ρ2, s3) = some (o, ρ', st') := hl
      cases hl'
      exact hk σ2 H3 ι3 (l2.trans l3) (E2.le l3) S3⟩

/-! ### functions -/
abbrev Fn := List Vl → Sto → Option (Vl × Sto)
def spS (K : PySem.W.Frag) (T : Tb) (F : Fn) : Sp := fun vs H Q E => ∃ ι st args r st', VlsR K H ι vs args ∧ SR K T H ι st ∧ F args st = some (r, st') ∧
  ∀ v H' ι', Le H ι H' ι' → SR K T H' ι' st' → VlR K H' ι' v r → Q v H'
def fin (n : Nat) : Vl → Sto → Option (Vl × Sto)
  | .d x, s1 => some (.d x, s1.take n)
  | .loc m, s1 => if m < n then some (.loc m, s1.take n) else match s1[m]? with
    | some (some c) => some (.loc n, s1.take n ++ [some c])
    | _ => none
/-- a function of n arguments and N names -/
def fnS (N n : Nat) (f : Ex) : Fn := fun args st =>
  if args.length = n then do
    let (o, _, s1) ← f (args.map some ++ List.replicate (N - args.length) none) st
    match o with
    | .rt r => fin st.length r s1
    | .nx => some (.d .none, s1.take st.length)
    | _ => none
  else none
theorem start_env {K : PySem.W.Frag} {H : Hp} {ι : List Addr} {vs : List V} {args : List Vl} (N : List Str) (h : VlsR K H ι vs args) : EnvR K H ι (L2.start N vs) (args.map some ++ List.replicate (N.length - args.length) none) := by
  unfold L2.start
  have hl := h.len
  refine ⟨by simp [hl], fun i x hx => ?_⟩
  by_cases hi : i < args.length
  · rw [List.getElem?_append_left (by simpa using hi), List.getElem?_map] at hx
    obtain ⟨y, e1, e2⟩ := Option.map_eq_some_iff.mp hx
    cases e2
    have gen : ∀ {vs : List V} {args : List Vl} {i : Nat}, VlsR K H ι vs args → args[i]? = some x → ∃ v, vs[i]? = some v ∧ VlR K H ι v x := fun {vs args i} h => by
      induction h generalizing i with
      | nil => intro e; simp at e
      | cons h1 h2 ih =>
        intro e
        cases i with
        | zero => simp at e; subst e; exact ⟨_, rfl, h1⟩
        | succ i => exact ih (by simpa using e)
    obtain ⟨v, h1, h2⟩ := gen h e1
    refine ⟨v, ?_, h2⟩
    rw [List.getElem?_append_left (by simp [hl]; exact hi), List.getElem?_map, h1]
    rfl
  · rw [List.getElem?_append_right (by simpa using hi)] at hx
    have := List.mem_of_getElem? hx
    rw [List.mem_replicate] at this
    exact absurd this.2 (by simp)
theorem fin_ok {K : PySem.W.Frag} {T : Tb} {H H' : Hp} {ι ι' : List Addr} {st s1 st' : Sto} {r r' : Vl} {v : V} {Q : VK} (hS : SR K T H ι st) (l : Le H ι H' ι') (S : SR K T H' ι' s1) (rv : VlR K H' ι' v r) (hf : fin st.length r s1 = some (r', st'))
    (hk : ∀ v H' ι', Le H ι H' ι' → SR K T H' ι' st' → VlR K H' ι' v r' → Q v H') : Q v H' := by
  cases r with
  | d x =>
    cases hf
    exact hk v H' (ι'.take st.length) (l.take hS.len) (S.take _) rv
  | loc m =>
    obtain ⟨a, ha, ev⟩ := rv
    subst ev
    unfold fin at hf
    simp only at hf
    split at hf
    · rename_i hm
      cases hf
      exact hk _ H' (ι'.take st.length) (l.take hS.len) (S.take _) ⟨a, by rw [List.getElem?_take, if_pos hm]; exact ha, rfl⟩
    · rename_i hm
      split at hf
      · rename_i c q
        cases hf
        have hl := S.len
        have hpre : ι.length ≤ ι'.length := l.pre.length_le
        have na : a ∉ ι'.take st.length := fun hmem => by
          obtain ⟨j, hj, ej⟩ := List.mem_iff_getElem.mp hmem
          have hj' : j < st.length := by rw [List.length_take] at hj; omega
          obtain ⟨l2, e2⟩ := List.getElem?_eq_some_iff.mp ha
          have e3 : ι'[j]'(by rw [List.length_take] at hj; omega) = ι'[m] := by
            rw [e2, ← ej, List.getElem_take]
          have := (List.getElem_inj S.nd).mp e3
          omega
        obtain ⟨a', ha', hc⟩ := S.cell m c q
        rw [ha] at ha'; cases ha'
        have nι : a ∉ ι := fun h => na (by
          obtain ⟨t, e⟩ := l.pre
          rw [← e, ← hS.len, List.take_left]; exact h)
        have h0 : H a = none := l.new a (List.mem_of_getElem? ha) nι
        cases c with
        | lst ds =>
          obtain ⟨vs, hp, ra⟩ := hc
          refine hk _ H' (ι'.take st.length ++ [a]) ((l.take hS.len).own h0) ((S.take _).own hp na ra) ⟨a, ?_, rfl⟩
          have hlt : (ι'.take st.length).length = st.length := by rw [List.length_take, ← hS.len]; omega
          rw [List.getElem?_append_right (by omega), hlt]
          simp
      · cases hf
theorem fn_ok {P : Program} {w : World} {K : PySem.W.Frag} {mg : Str → Option Value} {base : Heap} {x qual : Str} {params : Arguments} {body : List Stmt} {scope : Scope} {f : Addr} {fd : FuncData} {N ps : List Str} {k : Nat} {ex : Ex}
    (F : FunD K x qual params body scope [] [] f fd) (S : FnScope N ps scope)
    (hb : ∀ (cdv : Value) (A : Around) (outer : List Env) (s : Shared) (H : Hp) (E : XK), Room k (A.deeper (envOfC qual scope s.heap.objs.size f cdv)) → QSs (cxOf CX0 P w K mg base N qual scope f cdv A outer s H E).nox T body ex) :
    FnOk P w K mg base CX0 (k + 1) f fd ps (spS K T (fnS N.length ps.length ex)) := by
  refine F.ok S (fun vs H Q E ⟨ι, st, args, r, st', h1, h2, h3, _⟩ => ?_) fun cdv A outer s H vs Q E hr ⟨ι, st, args, r, st', hv, hS, hf, hk⟩ => ⟨_, PSs.nox (hb cdv A outer s H E hr).ps, ?_⟩
  · unfold fnS at h3
    split at h3
    · rename_i hl
      rw [h1.len, hl]
    · cases h3
  unfold fnS at hf
  split at hf
  · obtain ⟨⟨o, ρ', s1⟩, e1, hf⟩ := bnd hf
    refine ⟨_, ι, st, o, ρ', s1, start_env N hv, hS, e1, ?_⟩
    cases o with
    | nx =>
      cases hf
      exact fun σ' H' ι' l E1 S1 => hk .non H' (ι'.take st.length) (l.take hS.len) (S1.take _) .non
    | bk => cases hf
    | ct => cases hf
    | rt r0 => exact fun v H' ι' l S1 rv => fin_ok hS l S1 rv hf hk
  · cases hf
/-- f(e, ..) -/
def eCall (F : Fn) (g : Evs) : Ev := fun ρ st => do
  let (xs, s1) ← g ρ st
  F xs s1
theorem qe_call {CX : CXT} {F : Fn} {x : Str} {f : Addr} {fd : FuncData} {ps : List Str} {k : Nat} {E : XK} {es : List Expr} {g : Evs} (Fo : FnOk X.prog X.w X.K X.mg X.base CX k f fd ps (spS X.K T F)) (hr : Room k X.A) (hg : Gl X x) (hm : X.mg x = some (.ref f)) (hk : PySem.W.keepIn X.K (.ref f) = true) (hb : Binds X.K fd ps []) (hx : Passes CX X E)
    (ha : QA X T (e :: es) g) (hdb : (x == ("__debug__" : Str)) = false := by decide) (he : starEach (e :: es) X.env = (false, eval e X.env) :: starEach es X.env := by rfl) (hpl : (backTo pos (starEach es X.env)).any (·.1) = false := by rfl) :
    QE X T (.Call (.Name x p) (e :: es) [] pos) (eCall F g) := ⟨PE.imp (pe_call Fo hr hg hm hk hb .nil hx ha.pa hdb he hpl) fun σ H Q ⟨ρ, ι, st, r, st', hE, hS, hf, hk⟩ => by
  obtain ⟨⟨xs, s1⟩, e1, hf⟩ := bnd hf
  refine ⟨ρ, ι, st, xs, s1, hE, hS, e1, fun vs H1 ι1 l1 S1 r1 => ?_⟩
  show spS X.K T F (vs ++ []) H1 Q E
  rw [List.append_nil]
  exact ⟨ι1, s1, xs, r, st', r1, S1, hf, fun v H2 ι2 l2 S2 r2 => hk v H2 ι2 (l1.trans l2) S2 r2⟩⟩
end
end QL

end
section
set_option Elab.async false
set_option linter.all false
set_option autoImplicit false
set_option maxRecDepth 100000
set_option maxHeartbeats 4000000
/-! Q6: methods of lists, enumerate, zip, sorted. -/
namespace QL
open PySem PySem.Spec PyProof.Rows L2

section
variable {X : Cx} {T : Tb} {e a b c o : Expr} {pos p apos cpos : Pos}
/-! ### xs.append(e), xs.remove(e) -/
/-- a cell's method: what becomes of its list, what it tells -/
def eMeth (g : List PyData → PyData → Option (List PyData × PyData)) (fo fe : Ev) : Ev := fun ρ st => do
  let (x, s1) ← fo ρ st
  match x with
  | .loc n => do
    let _ ← rd x s1
    let (y, s2) ← fe ρ s1
    match y, s2[n]? with
    | .d d, some (some (.lst ds)) => do
      let (es, z) ← g ds d
      some (.d z, s2.set n (some (.lst es)))
    | _, _ => none
  | _ => none
def StepM (X : Cx) (id : String) (g : List PyData → PyData → Option (List PyData × PyData)) : Prop :=
  ∀ (pins : List (Addr × Obj)) (s : Shared) (σ : L2.St) (H : Hp) (l : Addr) (vs : List V) (ds es : List PyData) (d z : PyData) (v : V) (u : Value) (Q : VK), Inv X pins σ H s → H l = some (.lst vs) → RepAll X.K H vs ds → Rep X.K H v d → RelV v u → g ds d = some (es, z) →
    (∀ ws w, RepAll X.K H ws es → Rep X.K H w z → Q w (upd H l (.lst ws))) → wpAny (model X.prog X.w) X.A (call (.builtin id) [.ref l, u]) (EP X pins σ Q) X.xe s
theorem qe_meth {name : Str} {id : String} {g : List PyData → PyData → Option (List PyData × PyData)} {fo fe : Ev} (slot : Slot "list" name id) (hty : typeOf (.builtin id) = pure (.type "method_descriptor")) (hm : StepM X id g) (ho : QE X T o fo) (ha : QE X T e fe)
    (hs : starEach [e] X.env = (false, eval e X.env) :: starEach [] X.env)
    (hbase : attributeBase o name X.env (eval o X.env) = eval o X.env)
    (hfew : ((backTo cpos (starEach [e] X.env)).all (fun x => !x.1) && (backToKw cpos (keywordEach [] X.env)).all (fun x => x.1.isSome)
      && decide ([e].length + ([] : List Keyword).length + (if ([] : List Keyword).isEmpty then 0 else 1) < 30)) = true) (hline : (apos.endLine == cpos.line) = true) (hplain : (backTo cpos (starEach [] X.env)).any (·.1) = false) :
    QE X T (.Call (.Attribute o name apos) [e] [] cpos) (eMeth g fo fe) := by
  have mr : MtR X id (fun x xs H Q => ∃ l v, x = .ref l ∧ xs = [v] ∧ ∃ vs ds es d z, H l = some (.lst vs) ∧ RepAll X.K H vs ds ∧ Rep X.K H v d ∧ g ds d = some (es, z) ∧ ∀ ws w, RepAll X.K H ws es → Rep X.K H w z → Q w (upd H l (.lst ws))) := by
    intro pins s σ H x xs v us Q I rx rxs h
    obtain ⟨l, v', rfl, rfl, vs, ds, es, d, z, h1, h2, h3, h4, h5⟩ := h
    cases rx
    obtain ⟨u, rfl, ru⟩ := vals1 rxs
    exact hm pins s σ H l vs ds es d z v' u Q I h1 h2 h3 ru h4 h5
  refine ⟨PE.imp (pe_bm PySem.F.plainAttrs_list slot hty mr ho.pe (pa_cons ha.pe pa_nil hs) hbase hfew hline hs hplain) fun σ H Q ⟨ρ, ι, st, r, st', hE, hS, hf, hk⟩ => ?_⟩
  obtain ⟨⟨x, s1⟩, e1, hf⟩ := bnd hf
  refine ⟨ρ, ι, st, x, s1, hE, hS, e1, fun w H1 ι1 l1 S1 r1 => ?_⟩
  cases x with
  | d y => cases hf
  | loc n =>
    have hf' : (rd (.loc n) s1 >>= fun _ => fe ρ s1 >>= fun q => match q.1, q.2[n]? with
      | .d d, some (some (.lst ds)) => g ds d >>= fun z => some (Vl.d z.2, q.2.set n (some (.lst z.1)))
      | _, _ => none) = some (r, st') := hf
    obtain ⟨dd, e0, hf'⟩ := bnd hf'
    obtain ⟨⟨y, s2⟩, e2, hf'⟩ := bnd hf'
    dsimp only at hf'
    split at hf'
    · rename_i d ds q
      obtain ⟨⟨es, z⟩, e4, hf'⟩ := bnd hf'
      cases hf'
      have rl := rd_rep S1 r1 e0
      obtain ⟨a0, ha0, ew⟩ := r1
      subst ew
      refine ⟨.inl ⟨rfl, ?_⟩, ρ, ι1, s1, _, s2, hE.le l1, S1, e2, fun u H2 ι2 l2 S2 r2 => ?_⟩
      · rcases rl with rl | ⟨b1, vs1, ds1, eb, q1, q2, q3⟩
        · cases dd with
          | list xs => cases rl with
            | lst z1 z2 => exact ⟨_, z1.sq⟩
          | tuple xs =>
            unfold rd at e0
            simp only at e0
            split at e0 <;> cases e0
          | _ => cases rl
        · cases eb; exact ⟨_, SqL.of q1⟩
      · have ha2 := pre_get l2.pre ha0
        obtain ⟨a', ha', vs, hp, ra⟩ := S2.cell n _ q
        rw [ha2] at ha'; cases ha'
        refine ⟨a0, u, rfl, rfl, vs, ds, es, d, z, hp, ra, r2, e4, fun ws w rw' rz => ?_⟩
        have l' := (l1.trans l2).put (o := HO.lst ws) (List.mem_of_getElem? ha2) hp
        exact hk w _ ι2 l' (S2.put (ds := ds) ha2 hp rw') (Rep.ext (ext_but hp) _ _ rz)
    · cases hf'
def gApp : List PyData → PyData → Option (List PyData × PyData) := fun ds d => if ds.length < 16777216 then some (ds ++ [d], .none) else none
theorem sm_app : StepM X "list.append" gApp := fun pins s σ H l vs ds es d z v u Q I hl ra rv ru hg hk => by
  unfold gApp at hg
  split at hg
  · rename_i hz
    cases hg
    exact mt_append pins s σ H (.ref l) [v] (.ref l) [u] Q I rfl (.cons ru .nil) ⟨l, vs, v, rfl, rfl, hl, by rw [ra.len, sizeLine_eq]; omega, hk _ _ (ra.app (.cons rv .nil)) .non⟩
  · cases hg
/-- where the first k stands -/
def placeI (k : Int) : List Int → Option Nat
  | [] => none
  | n :: ns => if n = k then some 0 else (placeI k ns).map (· + 1)
theorem placeI_spec {k : Int} : ∀ {ns : List Int} {j : Nat}, placeI k ns = some j → ns[j]? = some k ∧ ∀ m, m < j → ns[m]? ≠ some k
  | [], _, h => by cases h
  | n :: ns, j, h => by
    unfold placeI at h
    split at h
    · rename_i e
      cases h
      exact ⟨by rw [e]; rfl, fun m hm => absurd hm (Nat.not_lt_zero _)⟩
    · rename_i e
      cases q : placeI k ns with
      | none => rw [q] at h; cases h
      | some j' =>
        rw [q] at h
        cases h
        obtain ⟨h1, h2⟩ := placeI_spec q
        refine ⟨h1, fun m hm => ?_⟩
        cases m with
        | zero => intro z; exact e (Option.some.inj z)
        | succ m => exact h2 m (Nat.lt_of_succ_lt_succ hm)
def gRem : List PyData → PyData → Option (List PyData × PyData) := fun ds d => match d with
  | .int k => do
    let ns ← intsOf ds
    let j ← placeI k ns
    some ((ns.eraseIdx j).map .int, .none)
  | _ => none
theorem sm_rem : StepM X "list.remove" gRem := fun pins s σ H l vs ds es d z v u Q I hl ra rv ru hg hk => by
  unfold gRem at hg
  split at hg
  · rename_i k
    obtain ⟨ns, e1, hg⟩ := bnd hg
    obtain ⟨j, e2, hg⟩ := bnd hg
    cases hg
    have ed := intsOf_eq e1
    subst ed
    have ev := ra.ints
    subst ev
    cases rv
    obtain ⟨h1, h2⟩ := placeI_spec e2
    exact mt_remove pins s σ H (.ref l) [.int k] (.ref l) [u] Q I rfl (.cons ru .nil) ⟨l, ns, k, j, rfl, rfl, hl, h1, h2, hk _ _ RepAll.ofInts .non⟩
  · cases hg
theorem qe_append {fo fe : Ev} (ho : QE X T o fo) (ha : QE X T e fe)
    (hs : starEach [e] X.env = (false, eval e X.env) :: starEach [] X.env := by rfl)
    (hbase : attributeBase o "append" X.env (eval o X.env) = eval o X.env := by rfl)
    (hfew : ((backTo cpos (starEach [e] X.env)).all (fun x => !x.1) && (backToKw cpos (keywordEach [] X.env)).all (fun x => x.1.isSome)
      && decide ([e].length + ([] : List Keyword).length + (if ([] : List Keyword).isEmpty then 0 else 1) < 30)) = true := by rfl) (hline : (apos.endLine == cpos.line) = true := by rfl) (hplain : (backTo cpos (starEach [] X.env)).any (·.1) = false := by rfl) :
    QE X T (.Call (.Attribute o "append" apos) [e] [] cpos) (eMeth gApp fo fe) := qe_meth PySem.F.slot_list_append PySem.F.type_list_append sm_app ho ha hs hbase hfew hline hplain
theorem qe_remove {fo fe : Ev} (ho : QE X T o fo) (ha : QE X T e fe)
    (hs : starEach [e] X.env = (false, eval e X.env) :: starEach [] X.env := by rfl)
    (hbase : attributeBase o "remove" X.env (eval o X.env) = eval o X.env := by rfl)
    (hfew : ((backTo cpos (starEach [e] X.env)).all (fun x => !x.1) && (backToKw cpos (keywordEach [] X.env)).all (fun x => x.1.isSome)
      && decide ([e].length + ([] : List Keyword).length + (if ([] : List Keyword).isEmpty then 0 else 1) < 30)) = true := by rfl) (hline : (apos.endLine == cpos.line) = true := by rfl) (hplain : (backTo cpos (starEach [] X.env)).any (·.1) = false := by rfl) :
    QE X T (.Call (.Attribute o "remove" apos) [e] [] cpos) (eMeth gRem fo fe) := qe_meth PySem.F.slot_list_remove PySem.F.type_list_remove sm_rem ho ha hs hbase hfew hline hplain
/-! ### list(range(..)), tuple(range(..)) -/
theorem rgV_rep {K : PySem.W.Frag} {H : Hp} (i j : Int) : RepAll K H (rgV i j) (rgD i (j - i).toNat) := by
  unfold rgV rgD
  generalize (List.range (j - i).toNat) = l
  induction l with
  | nil => exact .nil
  | cons x l ih => exact .cons (.int _) ih
def rgOkB (i j : Int) : Bool := decide (-(2 ^ 62) ≤ i) && decide (i < 2 ^ 62) && decide (-(2 ^ 62) ≤ j) && decide (j < 2 ^ 62) && decide ((j - i).toNat ≤ 2 ^ 24)
theorem rgOkB_ok {i j : Int} (h : rgOkB i j = true) : RgOk i j := by
  unfold rgOkB at h
  simp only [Bool.and_eq_true, decide_eq_true_eq] at h
  exact ⟨h.1.1.1.1, h.1.1.1.2, h.1.1.2, h.1.2, h.2⟩
def tRgA (X : Cx) (T : Tb) (f : Rho → Sto → Option ((Int × Int) × Sto)) : L2.St → Hp → (Int → Int → Hp → Prop) → Prop := fun σ H Q => ∃ ρ ι st ij st', EnvR X.K H ι σ ρ ∧ SR X.K T H ι st ∧ f ρ st = some (ij, st') ∧ ∀ H' ι', Le H ι H' ι' → SR X.K T H' ι' st' → Q ij.1 ij.2 H'
abbrev Rgv := Rho → Sto → Option ((Int × Int) × Sto)
structure QRg (X : Cx) (T : Tb) (e : Expr) (f : Rgv) : Prop where
  pr : PRg X e (tRgA X T f)
def rg1 (f : Ev) : Rgv := fun ρ st => do
  let (x, s1) ← f ρ st
  match x with
  | .d (.int n) => some ((0, n), s1)
  | _ => none
def rg2 (f g : Ev) : Rgv := fun ρ st => do
  let (x, s1) ← f ρ st
  let (y, s2) ← g ρ s1
  match x, y with
  | .d (.int i), .d (.int n) => some ((i, n), s2)
  | _, _ => none
theorem qrg_1 {f : Ev} (B : Bls X.mg) (hg : Gl X "range") (h : QE X T a f) (hs : starEach [a] X.env = (false, eval a X.env) :: starEach [] X.env := by rfl) : QRg X T (.Call (.Name "range" p) [a] [] pos) (rg1 f) :=
  ⟨fun pins s σ H Q I ⟨ρ, ι, st, ij, st', hE, hS, hf, hk⟩ => by
    refine prg_1 hg B.range h.pe hs pins s σ H Q I ?_
    obtain ⟨⟨x, s1⟩, e1, hf⟩ := bnd hf
    refine ⟨ρ, ι, st, x, s1, hE, hS, e1, fun v H1 ι1 l1 S1 r1 => ?_⟩
    dsimp only at hf
    split at hf
    · cases hf
      cases r1
      exact ⟨_, rfl, hk H1 ι1 l1 S1⟩
    · cases hf⟩
theorem qrg_2 {f g : Ev} (B : Bls X.mg) (hg : Gl X "range") (h : QE X T a f) (h2 : QE X T b g) (hs : starEach [a, b] X.env = (false, eval a X.env) :: starEach [b] X.env := by rfl) (hs2 : starEach [b] X.env = (false, eval b X.env) :: starEach [] X.env := by rfl) (hp : (backTo pos (starEach [b] X.env)).any (·.1) = false := by rfl) : QRg X T (.Call (.Name "range" p) [a, b] [] pos) (rg2 f g) :=
  ⟨fun pins s σ H Q I ⟨ρ, ι, st, ij, st', hE, hS, hf, hk⟩ => by
    refine prg_2 hg B.range h.pe h2.pe hs hs2 hp pins s σ H Q I ?_
    obtain ⟨⟨x, s1⟩, e1, hf⟩ := bnd hf
    obtain ⟨⟨y, s2⟩, e2, hf⟩ := bnd hf
    refine ⟨ρ, ι, st, x, s1, hE, hS, e1, fun v H1 ι1 l1 S1 r1 => ⟨ρ, ι1, s1, y, s2, hE.le l1, S1, e2, fun u H2 ι2 l2 S2 r2 => ?_⟩⟩
    dsimp only at hf
    split at hf
    · cases hf
      cases r1
      cases r2
      exact ⟨_, _, rfl, rfl, hk H2 ι2 (l1.trans l2) S2⟩
    · cases hf⟩
def lRg (f : Rgv) : Lv := fun ρ st => do
  let (ij, s1) ← f ρ st
  if rgOkB ij.1 ij.2 then some (rgD ij.1 (ij.2 - ij.1).toNat, s1) else none
def eTupRg (f : Rgv) : Ev := fun ρ st => do
  let (ij, s1) ← f ρ st
  if rgOkB ij.1 ij.2 then some (.d (.tuple (rgD ij.1 (ij.2 - ij.1).toNat)), s1) else none
theorem ql_listRg {f : Rgv} (hc : X.calm = true) (B : Bls X.mg) (hg : Gl X "list") (h : QRg X T e f) (hs : starEach [e] X.env = (false, eval e X.env) :: starEach [] X.env := by rfl) : QL X T (.Call (.Name "list" p) [e] [] pos) (lRg f) := ⟨PE.imp (pe_listRg hc hg B.list h.pr hs) fun σ H Q ⟨ρ, ι, st, ds, st', hE, hS, hf, hk⟩ => by
  obtain ⟨ij, e1, hf⟩ := bnd hf
  obtain ⟨ij, s1⟩ := ij
  have hf' : (if rgOkB ij.1 ij.2 then some (rgD ij.1 (ij.2 - ij.1).toNat, s1) else none) = some (ds, st') := hf
  split at hf'
  · rename_i ok
    cases hf'
    refine ⟨ρ, ι, st, ij, _, hE, hS, e1, fun H1 ι1 l1 S1 => ⟨rgOkB_ok ok, fun q hq => ?_⟩⟩
    have hs := same_upd (o := HO.lst (rgV ij.1 ij.2)) hq
    exact hk q _ _ ι1 (l1.free S1 hq) (l1.trans (Le.same hs)) (S1.same hs) upd_same (nmem_of S1 hq) (rgV_rep _ _)
  · cases hf'⟩
theorem qe_tupRg {f : Rgv} (hc : X.calm = true) (B : Bls X.mg) (hg : Gl X "tuple") (h : QRg X T e f) (hs : starEach [e] X.env = (false, eval e X.env) :: starEach [] X.env := by rfl) : QE X T (.Call (.Name "tuple" p) [e] [] pos) (eTupRg f) := ⟨PE.imp (pe_tupRg hc hg B.tuple h.pr hs) fun σ H Q ⟨ρ, ι, st, r, st', hE, hS, hf, hk⟩ => by
  obtain ⟨ij, e1, hf⟩ := bnd hf
  obtain ⟨ij, s1⟩ := ij
  have hf' : (if rgOkB ij.1 ij.2 then some (Vl.d (.tuple (rgD ij.1 (ij.2 - ij.1).toNat)), s1) else none) = some (r, st') := hf
  split at hf'
  · rename_i ok
    cases hf'
    refine ⟨ρ, ι, st, ij, _, hE, hS, e1, fun H1 ι1 l1 S1 => ⟨rgOkB_ok ok, fun q hq => ?_⟩⟩
    have hs := same_upd (o := HO.tup (rgV ij.1 ij.2)) hq
    refine hk _ _ ι1 (l1.trans (Le.same hs)) (S1.same hs) (.tup (.inl (.inl upd_same)) (rgV_rep _ _))
  · cases hf'⟩
end
end QL

end
section
set_option Elab.async false
set_option linter.all false
set_option autoImplicit false
set_option maxRecDepth 100000
set_option maxHeartbeats 4000000
/-! Q7: enumerate, zip. -/
namespace QL
open PySem PySem.Spec PyProof.Rows L2

theorem meets_enum_tup (l : Addr) (items : Array Value) (n : Nat) (dct : Option Addr) (sl : Array (Option Value)) :
    Meets (Builtin.«enumerate.__new__» ⟨[.type "enumerate", .ref l], []⟩) (fun _ R s => s.heap.get? l = some { cls := .type "tuple", dict := dct, data := .seq items n, slots := sl } ∧
      R (.ok (.ret (.ref (s.heap.push { cls := .type "tuple_iterator", data := .fields #[.ref l, .int 0 0] }).objs.size)))
        { s with heap := (s.heap.push { cls := .type "tuple_iterator", data := .fields #[.ref l, .int 0 0] }).push { cls := .type "enumerate", data := .fields #[.none, .bool false, .ref s.heap.objs.size, rawInt 0, .none, .none] } }) :=
  .of_wp fun prog w A R s h => by
    obtain ⟨hp, g, d, tk, os⟩ := s; obtain ⟨hl, h⟩ := h
    have hsub := sub_enumerate
    have hL : Heap.IsTuple (Shared.heap ⟨hp, g, d, tk, os⟩) l items := ⟨_, hl, rfl, n, rfl⟩
    wp_walk using AutoSeq1.wpAny_loadPart' hl
    refine wpAny_stack_any fun st => wpAny_pure ?_
    split
    · rename_i c _ _ _ _ _
      cases (c == Value.type "enumerate")
      · wp_walk using AutoSeq1.wpAny_loadPart' hl, wpAny_pyIter_tuple hL
        exact ⟨_, rfl, h⟩
      · wp_walk using AutoSeq1.wpAny_loadPart' hl, wpAny_pyIter_tuple hL
        exact ⟨_, rfl, h⟩
    · wp_walk using AutoSeq1.wpAny_loadPart' hl, wpAny_pyIter_tuple hL
      exact ⟨_, rfl, h⟩
section
variable {prog : Program} {w : World} {A : Around} {E : Value → Shared → Prop} {s : Shared}
theorem call_enum_tup {l : Addr} {items : Array Value} {Q : Value → Shared → Prop} (hL : s.heap.IsTuple l items)
    (h : ∀ h', IsEnum h' (s.heap.objs.size + 1) s.heap.objs.size 0 .none → h'.IsTupleIter s.heap.objs.size l 0 → h'.objs.size = s.heap.objs.size + 2 →
      (∀ b o, s.heap.get? b = some o → h'.get? b = some o) → Q (.ref (s.heap.objs.size + 1)) { s with heap := h' }) :
    wpAny (model prog w) A (call (.type "enumerate") [.ref l]) Q E s := by
  obtain ⟨⟨c, dct, dt, sl⟩, hl, hc, n, hd⟩ := hL
  replace hc : c = .type "tuple" := hc
  replace hd : dt = .seq items n := hd
  subst hc hd
  refine callType_new F.called_enumerate (by decide) (F.typeCall_enumerate_1 _) (F.newCall_enumerate_1 _) (fun obj => F.args_object_init_2 obj _) F.entry_enumerate_new
    (meets_enum_tup l items n dct sl) ⟨hl, ?_⟩
  have hz : (s.heap.push { cls := .type "tuple_iterator", data := .fields #[.ref l, .int 0 0] }).objs.size = s.heap.objs.size + 1 := Heap.size_push ..
  show _ ∧ _
  rw [hz]
  have he : IsEnum ((s.heap.push { cls := .type "tuple_iterator", data := .fields #[.ref l, .int 0 0] }).push
      { cls := .type "enumerate", data := .fields #[.none, .bool false, .ref s.heap.objs.size, rawInt 0, .none, .none] }) (s.heap.objs.size + 1) s.heap.objs.size 0 .none := by
    have := Heap.get?_push_size (s.heap.push { cls := .type "tuple_iterator", data := .fields #[.ref l, .int 0 0] })
      (o := { cls := .type "enumerate", data := .fields #[.none, .bool false, .ref s.heap.objs.size, rawInt 0, .none, .none] }) rfl
    rw [hz] at this; exact this
  refine ⟨⟨_, he, rfl⟩, h _ he ⟨_, Heap.get?_push_of_some _ (Heap.get?_push_size _ rfl), rfl, rfl⟩ (by rw [Heap.size_push, hz]) fun b o x => Heap.get?_push_of_some _ (Heap.get?_push_of_some _ x)⟩
end
/-- the tuple at a, each item in a new pair -/
def IteT (K : PySem.W.Frag) (a : Addr) : It :=
  ⟨fun i H => ∃ (xs : List V) (x : V), SqT K H a xs ∧ xs[i]? = some x, fun i H v H' => ∃ T x, v = .ref T ∧ H T = none ∧ H' = upd H T (.tup [.int (i : Nat), x]) ∧ ∀ xs, SqT K H a xs → xs[i]? = some x, fun i H => ∃ xs : List V, SqT K H a xs ∧ xs.length ≤ i⟩
theorem turn_enumT {P : Program} {w : World} {K : PySem.W.Frag} {elts : List Expr} {kk : Nat} {tpos : Pos} (a e it : Addr) :
    Turn P w K (.Tuple elts kk tpos) (IteT K a) [e, it] e (fun i h => (∃ old, IsEnum h e it ((i : Nat) : Int) old) ∧ h.IsTupleIter it a i ∧ e ≠ it ∧ a ≠ it ∧ a ≠ e) where
  mem := by simp
  obj := fun i h st b hb => by
    obtain ⟨⟨old, he⟩, ⟨o, ho, hc, hd⟩, _⟩ := st
    have e' : b = e ∨ b = it := by simpa using hb
    rcases e' with z | z
    · rw [z]; exact ⟨_, he, fun v q => nomatch q⟩
    · rw [z]; exact ⟨o, ho, fun v q => by rw [hd] at q; cases q⟩
  keep := fun i h h' st k => let ⟨⟨old, he⟩, hi, hne⟩ := st; ⟨⟨old, k e (by simp) _ he⟩, hi.at fun o q => k it (by simp) o q, hne⟩
  item := by
    intro X hP hw hK hc i pins s σ H E I hf st hg
    subst hP hw hK
    obtain ⟨⟨old, he⟩, hit, hne, hai, hae⟩ := st
    obtain ⟨xs, x, hq, hx⟩ := hg
    obtain ⟨its, rv, p, hz⟩ := I.tuple hq
    obtain ⟨u, hu, ru⟩ := rv.get hx
    have hel : e < s.heap.objs.size := Heap.lt_size he
    have hil : it < s.heap.objs.size := by obtain ⟨_, q, _⟩ := hit; exact Heap.lt_size q
    have hlt : i < its.toArray.size := by
      rw [List.size_toArray]
      exact (List.getElem?_eq_some_iff.mp hu).1
    have D := Draws.tuple (prog := X.prog) (w := X.w) (A := X.A.in1) (I.ok.hd hc) it a hai its.toArray
    refine wpAny_pyNext_enum_itemC D he ⟨hit, p⟩ hlt hne (by simp [hne, Ne.symm hae]) fun u' h' tk hu' ho st' hT hsz hk => ?_
    obtain ⟨hit', _⟩ := st'
    have eu : u' = u := by
      have z : its.toArray[i]? = some u' := hu'
      rw [show its.toArray[i]? = some u by simpa using hu] at z
      exact (Option.some.inj z).symm
    subst eu
    refine ⟨_, rfl, wpAny_letOwnedTupleGo_enum (s := { s with heap := h', toks := tk + 1 }) ho fun h'' he' sb => ?_⟩
    have hT2 : h''.get? s.heap.objs.size = some { cls := .type "tuple", data := .seq #[.int i tk, u'] } := (sb.2 _ (Nat.ne_of_gt hel)).trans hT
    have new : ObjOk X.prog X.w (upd H s.heap.objs.size (.tup [.int (i : Nat), x])) h'' s.heap.objs.size (.tup [.int (i : Nat), x]) :=
      ⟨by show 2 ≤ sizeLine; decide, [.int i tk, u'], .cons ⟨_, rfl⟩ (.cons ru .nil), ⟨_, hT2, rfl, _, rfl⟩⟩
    have I1 : Inv X pins σ (upd H s.heap.objs.size (.tup [.int (i : Nat), x])) { s with heap := h'', toks := tk + 1 } :=
      I.turnedNew (ch := [e, it]) (fun b ob hb q => (sb.2 b (fun z => hb (by simp [z]))).trans (hk b ob (fun z => hb (by simp [z])) (fun z => hb (by simp [z])) q)) hf (Nat.le_refl _) new
    refine ⟨.ref s.heap.objs.size, _, I1, rfl, ⟨_, x, rfl, I.hok.fresh (Nat.le_refl _), rfl, fun ys hy => by rw [I.tuple_inj hy hq]; exact hx⟩, ⟨⟨u', ?_⟩, hit'.at fun o q => (sb.2 it (Ne.symm hne)).trans q, hne, hai, hae⟩, fun b hb => ?_⟩
    · have e1 : ((i + 1 : Nat) : Int) = (i : Int) + 1 := by omega
      rw [e1]; exact he'
    · have hb' : b < s.heap.objs.size := by
        have e' : b = e ∨ b = it := by simpa using hb
        rcases e' with z | z
        · rw [z]; exact hel
        · rw [z]; exact hil
      rw [upd_ne (Nat.ne_of_lt hb')]
      exact (hf b hb).1
  done := by
    intro X hP hw hK hc i pins s σ H E I hf st hg
    subst hP hw hK
    obtain ⟨⟨old, he⟩, hit, hne, hai, hae⟩ := st
    obtain ⟨xs, hq, hx⟩ := hg
    obtain ⟨its, rv, p, hz⟩ := I.tuple hq
    obtain ⟨f0, f1, f2, f3, f4, f5⟩ := hf it (by simp)
    have hl := rv.length
    have hlt : its.toArray.size ≤ i := by rw [List.size_toArray]; omega
    have D : Draws X.prog X.w X.A.in1 it [it, a] i (fun _ _ => True) (fun j h => j = i ∧ h.IsTupleIter it a i ∧ h.IsTuple a its.toArray) :=
      { live := fun _ _ st => let ⟨o, ho, _⟩ := st.2.1; ⟨o, ho⟩
        frame := fun _ _ _ st hk => ⟨st.1, st.2.1.at fun o e => hk it (by simp) o e, st.2.2.at fun o e => hk a (by simp) o e⟩
        item := fun j s Q E hi st hQ => absurd hi (by rw [st.1]; exact Nat.lt_irrefl _)
        done := fun s Q E st hE => wpAny_nextOf_tuple_end (I.ok.hd hc) st.2.1 st.2.2 (Array.getElem?_eq_none hlt) hE }
    exact wpAny_pyNext_enum_endD D he ⟨rfl, hit, p⟩ fun h' eb => ⟨rfl, I.turned (t' := s.toks) (fun b o hb q => eb b o hb q) f0 f1 f3 f4 f5⟩
  self := fun A i s Q E st h => let ⟨⟨_, he⟩, _⟩ := st; wpAny_pyIter_enum he h
def iEnumT (K : PySem.W.Frag) (ta : TA) : TI := fun σ H R => ta σ H fun vs H1 => ∃ a xs, vs = [.ref a] ∧ SqT K H1 a xs ∧ R (IteT K a) H1
theorem pi_enumT {X : Cx} {e : Expr} {ta : TA} {p pos tpos : Pos} {elts : List Expr} {kk : Nat} (hg : Gl X "enumerate") (hm : X.mg "enumerate" = none) (ha : PA X [e] ta) (hs : starEach [e] X.env = [(false, eval e X.env)] := by rfl) :
    PI X (.Tuple elts kk tpos) (.Call (.Name "enumerate" p) [e] [] pos) (iEnumT X.K ta) := by
  refine ⟨fun pins s σ H R I h => ?_⟩
  refine Call_ (ld_blt I hg hm boot_enumerate (PyProof.Rows.callWith_type1 (thn (ha.run pos pins s σ H _ I h) fun us s1 ⟨vs, H1, I1, r1, q1⟩ => ?_) hs rfl))
  obtain ⟨a, xs, ex, hq, q⟩ := q1
  subst ex
  cases r1 with
  | cons r rr =>
    cases rr
    cases r
    obtain ⟨its, rv, p', hz⟩ := I1.tuple hq
    refine call_enum_tup p' fun h' he hit hsz hk => wpAny_pyIter_enum he ?_
    have I2 : Inv X pins σ H1 { s1 with heap := h' } := I1.kept (t' := s1.toks) hk
    have hal : a < s1.heap.objs.size := by obtain ⟨o, ho, _⟩ := id p'; exact Heap.lt_size ho
    refine ⟨s1.heap.objs.size + 1, [s1.heap.objs.size + 1, s1.heap.objs.size], _, _, H1, rfl, I2, turn_enumT a (s1.heap.objs.size + 1) s1.heap.objs.size, ⟨⟨.none, he⟩, hit, Nat.succ_ne_self _, Nat.ne_of_lt hal, Nat.ne_of_lt (Nat.lt_succ_of_lt hal)⟩, fun b hb => ?_, q⟩
    have e' : b = s1.heap.objs.size + 1 ∨ b = s1.heap.objs.size := by simpa using hb
    have hle : s1.heap.objs.size ≤ b := by
      rcases e' with z | z
      · rw [z]; exact Nat.le_add_right _ _
      · rw [z]; exact Nat.le_refl _
    exact I1.fpOk hle (I1.hok.fresh hle)
/-- the items with their places -/
def enD (i : Nat) : List PyData → List PyData
  | [] => []
  | d :: ds => .tuple [.int (i : Nat), d] :: enD (i + 1) ds
theorem enD_len : ∀ (ds : List PyData) (i : Nat), (enD i ds).length = ds.length
  | [], _ => rfl
  | d :: ds, i => by simp [enD, enD_len ds (i + 1)]
theorem enD_get : ∀ (ds : List PyData) (i j : Nat), (enD i ds)[j]? = (ds[j]?).map fun d => .tuple [.int ((i + j : Nat) : Int), d]
  | [], _, _ => by simp [enD]
  | d :: ds, i, 0 => by simp [enD]
  | d :: ds, i, j + 1 => by
    simp only [enD, List.getElem?_cons_succ]
    rw [enD_get ds (i + 1) j, show i + 1 + j = i + (j + 1) by omega]
theorem walk_enL {K : PySem.W.Frag} {H0 : Hp} {a : Addr} {vs : List V} {ds : List PyData} (h : FzL K H0 a vs) (ra : RepAll K H0 vs ds) : WalkD K (Ite K a) (enD 0 ds) H0 where
  goes := fun i H hi x => by
    have hi' : i < vs.length := by rw [ra.len, ← enD_len ds 0]; exact hi
    exact ⟨vs, vs[i], (fzL_ext x h).sq, by simp [hi']⟩
  stops := fun H x => ⟨vs, (fzL_ext x h).sq, by rw [ra.len, enD_len]; exact Nat.le_refl _⟩
  yields := fun i H v H' d e x y => by
    obtain ⟨T, w, e1, hT, e2, e3⟩ := y
    subst e1 e2
    rw [enD_get] at e
    cases q : ds[i]? with
    | none => rw [q] at e; cases e
    | some d0 =>
      rw [q] at e
      cases e
      obtain ⟨w', h1, h2⟩ := ra.get' q
      have e4 := e3 vs (fzL_ext x h).sq
      rw [h1] at e4
      cases e4
      have hs := same_upd (o := HO.tup [.int (i : Nat), w]) hT
      refine ⟨hs, .tup (.inl (.inl upd_same)) (.cons ?_ (.cons (Rep.ext (Ext.same hs) _ _ (Rep.ext x _ _ h2)) .nil))⟩
      rw [Nat.zero_add]
      exact .int _
theorem walk_enT {K : PySem.W.Frag} {H0 : Hp} {a : Addr} {vs : List V} {ds : List PyData} (h : SqT K H0 a vs) (ra : RepAll K H0 vs ds) : WalkD K (IteT K a) (enD 0 ds) H0 where
  goes := fun i H hi x => by
    have hi' : i < vs.length := by rw [ra.len, ← enD_len ds 0]; exact hi
    exact ⟨vs, vs[i], sqT_ext x h, by simp [hi']⟩
  stops := fun H x => ⟨vs, sqT_ext x h, by rw [ra.len, enD_len]; exact Nat.le_refl _⟩
  yields := fun i H v H' d e x y => by
    obtain ⟨T, w, e1, hT, e2, e3⟩ := y
    subst e1 e2
    rw [enD_get] at e
    cases q : ds[i]? with
    | none => rw [q] at e; cases e
    | some d0 =>
      rw [q] at e
      cases e
      obtain ⟨w', h1, h2⟩ := ra.get' q
      have e4 := e3 vs (sqT_ext x h)
      rw [h1] at e4
      cases e4
      have hs := same_upd (o := HO.tup [.int (i : Nat), w]) hT
      refine ⟨hs, .tup (.inl (.inl upd_same)) (.cons ?_ (.cons (Rep.ext (Ext.same hs) _ _ (Rep.ext x _ _ h2)) .nil))⟩
      rw [Nat.zero_add]
      exact .int _
section
variable {X : Cx} {T : Tb} {e e2 : Expr} {p pos tpos : Pos}
def iEn (f : Ev) : Lv := fun ρ st => do
  let (x, s1) ← f ρ st
  match x with
  | .d (.list ds) => some (enD 0 ds, s1)
  | .d (.tuple ds) => some (enD 0 ds, s1)
  | _ => none
theorem qi_enum {elts : List Expr} {kk : Nat} {f : Ev} (B : Bls X.mg) (hg : Gl X "enumerate") (h : QE X T e f) (hs : starEach [e] X.env = [(false, eval e X.env)] := by rfl) :
    QI X T (.Tuple elts kk tpos) (.Call (.Name "enumerate" p) [e] [] pos) (iEn f) := ⟨PI.imp (PI.or (pi_enum hg B.enumerate (pa_cons h.pe pa_nil hs) hs) (pi_enumT hg B.enumerate (pa_cons h.pe pa_nil hs) hs)) fun σ H R ⟨ρ, ι, st, ds, st', hE, hS, hf, hk⟩ => by
  obtain ⟨⟨x, s1⟩, e1, hf⟩ := bnd hf
  dsimp only at hf
  split at hf
  · cases hf
    refine .inl ⟨ρ, ι, st, _, _, hE, hS, e1, fun v H1 ι1 l1 S1 r1 => ?_⟩
    have r1' : Rep X.K H1 v (.list _) := r1
    cases r1' with
    | lst h1 h2 => exact ⟨_, _, rfl, h1.sq, hk _ H1 ι1 l1 S1 (walk_enL h1 h2)⟩
  · cases hf
    refine .inr ⟨ρ, ι, st, _, _, hE, hS, e1, fun v H1 ι1 l1 S1 r1 => ?_⟩
    have r1' : Rep X.K H1 v (.tuple _) := r1
    cases r1' with
    | tup h1 h2 => exact ⟨_, _, rfl, h1, hk _ H1 ι1 l1 S1 (walk_enT h1 h2)⟩
  · cases hf⟩
end
end QL

end
section
set_option Elab.async false
set_option linter.all false
set_option autoImplicit false
set_option maxRecDepth 100000
set_option maxHeartbeats 4000000
/-! Q8: a lambda that tells a key. -/
namespace QL
open PySem PySem.Spec PyProof.Rows L2

def Rz (h : Heap) (v : Value) (d : PyData) : Prop := ∃ as, Reads h v d as
theorem Rz.keeps {h h' : Heap} {v : Value} {d : PyData} (k : ∀ b o, h.get? b = some o → h'.get? b = some o) (r : Rz h v d) : Rz h' v d := let ⟨as, r⟩ := r; ⟨as, Reads.keeps k r⟩
theorem readsAll_rz {h : Heap} : ∀ {ds : List PyData} {vs : List Value} {as : List Addr}, ReadsAll h vs ds as → ∀ {i : Nat} {d : PyData}, ds[i]? = some d → ∃ v, vs[i]? = some v ∧ Rz h v d
  | [], _, _, r, i, d, e => by cases e
  | x :: ds, _, _, r, i, d, e => by
    cases r with
    | cons h1 h2 =>
      cases i with
      | zero => cases e; exact ⟨_, rfl, _, h1⟩
      | succ i => exact readsAll_rz h2 e
structure KNm (h : Heap) (env : Env) (m : List (Str × PyData)) : Prop where
  kind : env.scope.kind = .function
  get : ∀ x d, m.lookup x = some d → ∃ v, Rz h v d ∧ ((env.kindOf x = some .local ∧ ∃ mm, h.Ns env.locals mm ∧ mm x = some v) ∨ (env.kindOf x = some .free ∧ ∃ c, env.cells.lookup x = some c ∧ h.IsCell c (some v)))
theorem KNm.keeps {h h' : Heap} {env : Env} {m : List (Str × PyData)} (n : KNm h env m) (k : ∀ b o, h.get? b = some o → h'.get? b = some o) : KNm h' env m := ⟨n.kind, fun x d e => by
  obtain ⟨v, r, q⟩ := n.get x d e
  refine ⟨v, r.keeps k, ?_⟩
  rcases q with ⟨a, mm, b, c⟩ | ⟨a, c, b, o, ho, hd⟩
  · exact .inl ⟨a, mm, b.keeps k, c⟩
  · exact .inr ⟨a, c, b, o, k _ _ ho, hd⟩⟩
abbrev Kv := List (Str × PyData) → Option PyData
structure RK (prog : Program) (w : World) (e : Expr) (g : Kv) : Prop where
  run : ∀ (env : Env) (A : Around) (E : Value → Shared → Prop) (s : Shared) (m : List (Str × PyData)) (d : PyData) (Q : Value → Shared → Prop), KNm s.heap env m → g m = some d →
    (∀ v h' tk, (∀ b o, s.heap.get? b = some o → h'.get? b = some o) → Rz h' v d → Q v { s with heap := h', toks := tk }) → wpAny (model prog w) A (eval e env) Q E s
section
variable {prog : Program} {w : World} {a b : Expr} {pos : Pos}
def kVar (x : Str) : Kv := fun m => m.lookup x
theorem rk_var {x : Str} (hd : (x == ("__debug__" : Str)) = false := by decide) (hcd : (x == ("__classdict__" : Str)) = false := by decide) : RK prog w (.Name x pos) (kVar x) := ⟨fun env A E s m d Q n e k => by
  obtain ⟨v, r, q⟩ := n.get x d e
  have fin : Q v s := k v s.heap s.toks (fun _ _ h => h) r
  rcases q with ⟨hk, mm, hn, hv⟩ | ⟨hk, c, hc, hv⟩
  · exact wpAny_Name (wpAny_loadName_local n.kind hk hn hv fin) hd
  · exact wpAny_Name (wpAny_loadName_free n.kind hk hc hv fin hcd) hd⟩
def kInt (i : Int) : Kv := fun _ => some (.int i)
theorem rk_int {i : Int} {j : Nat} : RK prog w (.Constant (.int i) j pos) (kInt i) := ⟨fun env A E s m d Q n e k => by
  cases e
  exact wpAny_Constant_int (k _ s.heap _ (fun _ _ h => h) ⟨[], .int i _⟩)⟩
def kAt (ds : List PyData) (i : Int) : Option PyData := if ds.length ≤ 16777216 ∧ 0 ≤ i then ds[i.toNat]? else none
def kIx (f g : Kv) : Kv := fun m => do
  let x ← f m
  let y ← g m
  match x, y with
  | .list ds, .int i => kAt ds i
  | .tuple ds, .int i => kAt ds i
  | _, _ => none
theorem kAt_spec {ds : List PyData} {i : Int} {d : PyData} (h : kAt ds i = some d) : ds.length ≤ sizeLine ∧ 0 ≤ i ∧ ds[i.toNat]? = some d ∧ i < 2 ^ 63 := by
  unfold kAt at h
  split at h
  · rename_i q
    have h1 := (List.getElem?_eq_some_iff.mp h).1
    exact ⟨q.1, q.2, h, by omega⟩
  · cases h
theorem rk_ix {f g : Kv} (ha : RK prog w a f) (hb : RK prog w b g) (hs : PlainIx b) : RK prog w (.Subscript a b pos) (kIx f g) := ⟨fun env A E s m d Q n e k => by
  obtain ⟨x, e1, e⟩ := bnd e
  obtain ⟨y, e2, e⟩ := bnd e
  refine Subscript_ (ha.run env A E s m x _ n e1 fun v h1 t1 k1 r1 => hb.run env A E _ m y _ (n.keeps k1) e2 fun u h2 t2 k2 r2 => ?_)
  have kk : ∀ b o, s.heap.get? b = some o → h2.get? b = some o := fun b o q => k2 b o (k1 b o q)
  obtain ⟨as, r1'⟩ := r1.keeps k2
  obtain ⟨bs, r2⟩ := r2
  split at e
  · cases r2
    obtain ⟨hz, h0, hx, hi⟩ := kAt_spec e
    cases r1' with
    | @list p o vs nn _ as' g1 g2 g3 g4 =>
      obtain ⟨z, ez, rz⟩ := readsAll_rz g4 hx
      have hl : (Heap.IsList h2 p vs) := ⟨o, g1, g2, nn, g3⟩
      exact item_listR hl h0 hi (by simpa using ez) (k z h2 t2 kk rz) (hs _ _)
  · cases r2
    obtain ⟨hz, h0, hx, hi⟩ := kAt_spec e
    cases r1' with
    | @tuple p o vs nn _ as' g1 g2 g3 g4 =>
      obtain ⟨z, ez, rz⟩ := readsAll_rz g4 hx
      have hl : IsTup h2 p vs := ⟨o, g1, g2, nn, g3⟩
      have hlen := SeqAt.ReadsAll.length _ _ _ g4
      have hlt := (List.getElem?_eq_some_iff.mp hx).1
      have hsz : vs.size = _ := (Array.length_toList (xs := vs)).symm.trans hlen
      exact subscriptTail_builtinR (x := z) (s := { s with heap := h2, toks := t2 }) hl.typeIs slot_tuple_getitem.lookup
        (getItem_tuple (j := _) (Q := fun r s' => r = z ∧ Q r s') hl (by omega) hi (seqIndex_of h0 (by rw [hsz]; omega)) (by simpa using ez) ⟨rfl, k z h2 t2 kk rz⟩) (hs _ _)
  · cases e⟩
def kOp (g : Int → Int → Int) (f1 f2 : Kv) : Kv := fun m => do
  let x ← f1 m
  let y ← f2 m
  match x, y with
  | .int i, .int j => some (.int (g i j))
  | _, _ => none
theorem rk_op {op : Operator} {g : Int → Int → Int} {f1 f2 : Kv} (ho : ∀ (A : Around) (E : Value → Shared → Prop) (s : Shared) (Q : Value → Shared → Prop) (i j : Int) (t u : Tok), Q (.int (g i j) s.toks) { s with toks := s.toks + 1 } → wpAny (model prog w) A (binaryOp op (.int i t) (.int j u)) Q E s)
    (ha : RK prog w a f1) (hb : RK prog w b f2) : RK prog w (.BinOp a op b pos) (kOp g f1 f2) := ⟨fun env A E s m d Q n e k => by
  obtain ⟨x, e1, e⟩ := bnd e
  obtain ⟨y, e2, e⟩ := bnd e
  refine wpAny_BinOp (wpAny_mono (ha.run env A E s m x (fun v s1 => ∃ h1 t1, s1 = { s with heap := h1, toks := t1 } ∧ (∀ b o, s.heap.get? b = some o → h1.get? b = some o) ∧ Rz h1 v x) n e1 fun v h1 t1 k1 r1 => ⟨h1, t1, rfl, k1, r1⟩) (fun v s1 ⟨h1, t1, es, k1, r1⟩ => ?_) fun _ _ e => e)
  subst es
  refine hb.run env A E _ m y _ (n.keeps k1) e2 fun u h2 t2 k2 r2 => ?_
  obtain ⟨as, r1⟩ := r1
  obtain ⟨bs, r2⟩ := r2
  split at e
  · cases e
    cases r1
    cases r2
    exact ho A E { s with heap := h2, toks := t2 } Q _ _ _ _ (k _ h2 (t2 + 1) (fun b o q => k2 b o (k1 b o q)) ⟨[], .int _ _⟩)
  · cases e⟩
theorem rk_add {f1 f2 : Kv} (ha : RK prog w a f1) (hb : RK prog w b f2) : RK prog w (.BinOp a .Add b pos) (kOp (· + ·) f1 f2) := rk_op (fun _ _ _ _ _ _ _ _ q => add_int q) ha hb
theorem rk_sub {f1 f2 : Kv} (ha : RK prog w a f1) (hb : RK prog w b f2) : RK prog w (.BinOp a .Sub b pos) (kOp (· - ·) f1 f2) := rk_op (fun _ _ _ _ _ _ _ _ q => sub_int q) ha hb
def kPair (f1 f2 : Kv) : Kv := fun m => do
  let x ← f1 m
  let y ← f2 m
  some (.tuple [x, y])
theorem rk_pair {f1 f2 : Kv} {x1 : Nat} (ha : RK prog w a f1) (hb : RK prog w b f2) (he : ∀ env, starEach [a, b] env = (false, eval a env) :: starEach [b] env := by intro _; rfl) (he2 : ∀ env, starEach [b] env = (false, eval b env) :: starEach [] env := by intro _; rfl) : RK prog w (.Tuple [a, b] x1 pos) (kPair f1 f2) := ⟨fun env A E s m d Q n e k => by
  obtain ⟨x, e1, e⟩ := bnd e
  obtain ⟨y, e2, e⟩ := bnd e
  cases e
  refine wpAny_Tuple_spliced (args_cons (ha.run env A E s m x _ n e1 fun v h1 t1 k1 r1 => args_cons (hb.run env A E _ m y _ (n.keeps k1) e2 fun u h2 t2 k2 r2 => args_nil ⟨by show 2 ≤ sizeLine; decide, ?_⟩) (he2 env)) (he env))
  have r1' := r1.keeps k2
  have kk : ∀ b o, s.heap.get? b = some o → (h2.push { cls := .type "tuple", data := .seq [v, u].toArray }).get? b = some o := fun b o q => Heap.get?_push_of_some _ (k2 b o (k1 b o q))
  obtain ⟨as, q1⟩ := r1'.keeps (h' := h2.push { cls := .type "tuple", data := .seq [v, u].toArray }) fun b o q => Heap.get?_push_of_some _ q
  obtain ⟨bs, q2⟩ := r2.keeps (h' := h2.push { cls := .type "tuple", data := .seq [v, u].toArray }) fun b o q => Heap.get?_push_of_some _ q
  exact k _ _ t2 kk ⟨_, .tuple (Heap.get?_push_size _ rfl) rfl rfl (.cons q1 (.cons q2 .nil))⟩⟩
end
end QL

end
section
set_option Elab.async false
set_option linter.all false
set_option autoImplicit false
set_option maxRecDepth 100000
set_option maxHeartbeats 4000000
/-! Q9: sorted, with a key or without. -/
namespace QL
open PySem PySem.Spec PyProof.Rows L2

/-! ### sorted over what can be collected -/
/-- what is collected from v at s: R of the values; all else stays -/
def Coll (prog : Program) (w : World) (A : Around) (s : Shared) (v : Value) (R : List Value → Prop) : Prop :=
  ∀ (A' : Around) (Q : List Value → Shared → Prop) (E : Value → Shared → Prop), A'.handled = A.handled → (∀ vs h' tk, R vs → (∀ b o, s.heap.get? b = some o → h'.get? b = some o) → Q vs { s with heap := h', toks := tk }) → wpAny (model prog w) A' (collect v) Q E s
section
variable {prog : Program} {w : World} {A : Around} {E : Value → Shared → Prop} {s : Shared}
theorem coll_seq {l : Addr} {T : String} {o : Obj} {its : List Value} {n : Nat} (hT : T = "list" ∨ T = "tuple") (ho : s.heap.get? l = some o) (hc : o.cls = .type T) (hd : o.data = .seq its.toArray n) (hz : its.length ≤ sizeLine) : Coll prog w A s (.ref l) (fun vs => vs = its) :=
  fun A' Q E _ h => wpAny_collect_seq l hT ho hc hd (fun h' hk => by
    have e : its.toArray.toList = its := by simp
    rw [e]
    exact h its h' s.toks rfl hk) (by rw [List.size_toArray]; exact hz)
theorem coll_range {r : Addr} {a b : Int} {t u v : Tok} (hh : A.handled = none) (hr : IsRange s.heap r a b 1 t u v) (ok : RgOk a b) : Coll prog w A s (.ref r) (fun vs => Vals (rgV a b) vs) :=
  fun A' Q E hA h => by
    obtain ⟨b1, b2, b3, b4, b5⟩ := ok
    exact collect_range (n := (b - a).toNat) (hA.trans hh) hr (small_one b1 b2 b3 b4) (rangeSize_nat a b) b5 fun h' tk acc hk hi => h acc.toList h' tk (vals_rg hi) hk
theorem sorted_coll {v : Value} {R : List Value → Prop} {kw : List (Str × Value)} {Q : Value → Shared → Prop} (hcol : Coll prog w A s v R) (hz : ∀ vs, R vs → vs.length ≤ sizeLine) (ha1 : argsOk "sorted" ⟨[v], kw⟩) (ha2 : ∀ x, argsOk "list.sort" ⟨[.ref x], kw⟩)
    (body : ∀ (vs : List Value) (h' : Heap) (tk : Nat) (E' : Value → Shared → Prop), R vs → (∀ b o, s.heap.get? b = some o → h'.get? b = some o) →
      wpAny (model prog w) A.in1.in1 (Builtin.«list.sort» ⟨[.ref h'.objs.size], kw⟩) (fun f s' => f = .done (.ret .none) ∧ Q (.ref h'.objs.size) s') E' { s with heap := h'.push (seqObj "list" vs.toArray 0), toks := tk }) :
    wpAny (model prog w) A (call (.builtin "sorted") [v] kw) Q E s := by
  refine call_function_entry_kw kind_sorted plain_sorted entry_sorted ha1 ?_
  unfold Builtin.«sorted»
  refine wpAny_bind (m := checkCount "sorted" 1 1 _) (wpAny_pure ?_)
  refine wpAny_bind (hcol A.in1 _ _ rfl fun vs h' tk hR hk => ?_)
  refine wpAny_bind (wpAny_newList ?_ (hz vs hR))
  refine wpAny_bind (wpAny_holding (wpAny_call_entry_kw slot_list_sort ⟨_, Heap.get?_push_size _ rfl, rfl⟩ entry_list_sort ?body (ha2 _)))
  case body =>
    refine wpAny_mono (body vs h' tk _ hR hk) (fun f s' hf => ?_) fun _ _ e => e
    obtain ⟨rfl, hq⟩ := hf
    exact ⟨_, rfl, wpAny_pure ⟨_, rfl, hq⟩⟩
end
/-- what may be sorted -/
def sortOk (ds : List PyData) : Bool := (ds.all fun d => ds.all fun d' => PySem.W.alike d d') && ((ds.all fun d => match d with | .tuple (_ :: _) => true | _ => false) || ds.all fun d => match d with | .none => false | .tuple _ => false | _ => true) && (ds.all fun d => decide (d.depth ≤ 60))
theorem sortOk_spec {ds : List PyData} (h : sortOk ds = true) : PySem.W.AllAlike ds ∧ PySem.W.Sortable ds ∧ ∀ d ∈ ds, d.depth ≤ 60 := by
  unfold sortOk at h
  simp only [Bool.and_eq_true, Bool.or_eq_true, List.all_eq_true, decide_eq_true_eq] at h
  obtain ⟨⟨h1, h2⟩, h3⟩ := h
  refine ⟨fun d hd d' hd' => h1 d hd d' hd', ?_, h3⟩
  rcases h2 with h2 | h2
  · refine .inl fun d hd => ?_
    have := h2 d hd
    split at this
    · exact ⟨_, _, rfl⟩
    · cases this
  · refine .inr fun d hd => ?_
    have := h2 d hd
    refine ⟨fun e => ?_, fun xs e => ?_⟩
    · rw [e] at this; cases this
    · rw [e] at this; cases this
section
variable {X : Cx} {pins : List (Addr × Obj)} {s : Shared} {σ : L2.St} {H : Hp}
def ItR (X : Cx) (H : Hp) (u : Value) (d : PyData) : Prop := ∃ x, RelV x u ∧ Rep X.K H x d
theorem itR_of : ∀ {xs : List V} {ds : List PyData} {us : List Value}, RepAll X.K H xs ds → Vals xs us → PySem.W.EachIs (ItR X H) us ds
  | _, _, _, .nil, .nil => .nil
  | _, _, _, .cons r rs, .cons v vs => .cons ⟨_, v, r⟩ (itR_of rs vs)
theorem itR_back : ∀ {us : List Value} {ds : List PyData}, PySem.W.EachIs (ItR X H) us ds → ∃ xs, RepAll X.K H xs ds ∧ Vals xs us
  | _, _, .nil => ⟨[], .nil, .nil⟩
  | _, _, .cons ⟨x, rv, r⟩ t => by
    obtain ⟨xs, h1, h2⟩ := itR_back t
    exact ⟨x :: xs, .cons r h1, .cons rv h2⟩
theorem itR_reads (I : Inv X pins σ H s) {u : Value} {d : PyData} (h : ItR X H u d) : Rz s.heap u d := by
  obtain ⟨x, rv, r⟩ := h
  exact Dp.reads I d x u r.dp rv
theorem units_in2 {A : Around} : A.in1.in1.units = A.units + 2 := rfl
/-- sorted(xs) -/
theorem raw_sorted {v : Value} {R : List Value → Prop} {ds : List PyData} {Q : VK} (hu : X.A.units + 64 < cLine) (I : Inv X pins σ H s) (hcol : Coll X.prog X.w X.A s v R) (hR : ∀ vs, R vs → PySem.W.EachIs (ItR X H) vs ds) (hz : ds.length ≤ 16777216) (ok : sortOk ds = true)
    (hq : ∀ p ys, H p = none → RepAll X.K H ys (ds.mergeSort (PySem.W.dataLe false id)) → Q (.ref p) (upd H p (.lst ys))) : wpAny (model X.prog X.w) X.A (call (.builtin "sorted") [v]) (EP X pins σ Q) X.xe s := by
  obtain ⟨k1, k2, k3⟩ := sortOk_spec ok
  refine sorted_coll hcol (fun vs h => by rw [(hR vs h).length]; exact hz) (args_sorted1 _) (fun _ => args_list_sort _) fun vs h' tk E' hr hk => ?_
  have hoL : (h'.push (seqObj "list" vs.toArray 0)).get? h'.objs.size = some (seqObj "list" vs.toArray 0) := Heap.get?_push_size _ rfl
  have kk : ∀ b o, s.heap.get? b = some o → (h'.push (seqObj "list" vs.toArray 0)).get? b = some o := fun b o e => Heap.get?_push_of_some _ (hk b o e)
  have ne : ∀ b o, s.heap.get? b = some o → b ≠ h'.objs.size := fun b o e => Nat.ne_of_lt (Heap.lt_size (hk b o e))
  have eR := hR vs hr
  have er : PySem.W.EachIs (fun v b => ∃ as, Reads (PySem.W.sortingHeap (h'.push (seqObj "list" vs.toArray 0)) h'.objs.size vs) v (id b) as) vs ds := eR.mono fun u d q => (itR_reads I q).keeps fun b o e => PySem.W.sortingHeap_old (ne b o e) (kk b o e)
  refine PySem.W.list_sort_vals (κ := PySem.W.dataKind (PySem.W.sortingHeap (h'.push (seqObj "list" vs.toArray 0)) h'.objs.size vs) ds) hoL (PySem.W.SortsAt.data (s := { s with heap := PySem.W.sortingHeap (h'.push (seqObj "list" vs.toArray 0)) h'.objs.size vs, toks := tk }) er k1 k2 fun d hd => ?_) (by rw [eR.length]; exact hz) ⟨rfl, ?_⟩
  · have := k3 d hd
    rw [units_in2]
    omega
  · have eo := PySem.W.sortVals_data (enc := id) (R := ItR X H) (h' := PySem.W.sortingHeap (h'.push (seqObj "list" vs.toArray 0)) h'.objs.size vs) false eR er (by rw [List.map_id]; exact k1)
    rw [List.map_id] at eo
    generalize PySem.W.sortVals (PySem.W.dataKind (PySem.W.sortingHeap (h'.push (seqObj "list" vs.toArray 0)) h'.objs.size vs) ds) false vs vs = out at eo
    obtain ⟨ys, ry, vy⟩ := itR_back eo
    obtain ⟨c, hc⟩ := sortedHeap_at (vs := vs) (out := out.toArray) hoL
    have I1 : Inv X pins σ H { s with heap := h', toks := tk } := I.kept hk
    have hl : ys.length ≤ sizeLine := by
      rw [ry.len, List.length_mergeSort]
      exact hz
    exact ⟨.ref _, upd H h'.objs.size (.lst ys), I1.laid (t' := tk) (fun b o e => by
      have hlt := Heap.lt_size e
      show (sortedHeap (h'.push (seqObj "list" vs.toArray 0)) h'.objs.size vs out.toArray).get? b = some o
      rw [sortedHeap_old (Nat.ne_of_lt hlt) (by rw [size_push']; exact Nat.lt_succ_of_lt hlt)]
      exact Heap.get?_push_of_some _ e) (Nat.le_refl _) ⟨hl, out, c, vy, hc⟩, rfl, hq _ ys (I1.hok.fresh (Nat.le_refl _)) ry⟩
end
end QL

end
section
set_option Elab.async false
set_option linter.all false
set_option autoImplicit false
set_option maxRecDepth 100000
set_option maxHeartbeats 4000000
/-! QA: a lambda made, called with one item. -/
namespace QL
open PySem PySem.Spec PyProof.Rows L2

section
variable {X : Cx} {pins : List (Addr × Obj)} {σ : L2.St} {H : Hp} {s : Shared}
/-- the lambda is made; what else is known of the abstract heap -/
theorem lam_make3 {T : Tb} {c P : Addr} {params : Arguments} {body : Expr} {scope : Scope} {pos : Pos} {E : Value → Shared → Prop} {Q : Value → Shared → Prop} (I : Inv X pins σ H s) (TB : LamX.TabB X.base X.mg c P) (hcode : X.env.code = .ref c)
    (hm : (P, X.env.qual ++ "<lambda>") ∈ T) (hu : ∀ p ∈ T, p.1 = P → p.2 = X.env.qual ++ "<lambda>") (hT : LamX.Tabs T H) (hdef : defaultsOf params X.env = ([], [])) (hfree : ∀ y ∈ scope.names, y.2 = .free → ∃ c, X.env.cells.lookup y.1 = some c)
    (h : ∀ (f c' : Addr) (pm ctv : Value) (H1 : Hp) (s' : Shared), Inv X pins σ H1 s' → (∀ b o, H b = some o → (∀ ps, o ≠ .tbl ps) → H1 b = some o) → (∀ b ps, H b = some (.tbl ps) → ∃ ps', H1 b = some (.tbl ps')) → LamX.Tabs T H1 →
      s'.heap.get? f = some (PySem.W.kla_obj "<lambda>" (X.env.qual ++ "<lambda>") params body scope (cloFrom X.env.cells scope.names []) pm c' ctv) → (∃ (oc : Obj) (vs : Array Value) (t : Tok), s'.heap.get? c' = some oc ∧ oc.data = .fields vs ∧ vs[1]? = some (.str (X.env.qual ++ "<lambda>") t)) → Q (.ref f) s') :
    wpAny (model X.prog X.w) X.A (eval (.Lambda params body scope pos) X.env) Q E s := by
  obtain ⟨ps, hP, ht, ha⟩ := hT _ hm
  refine PySem.W.kla_eval hdef ?_
  have bP : s.heap.BuiltinsAt X.mg P := TB.bm.keeps I.bk
  have hP' : s.heap.get? P = some { cls := .none, data := .fields ps } := I.hok P _ hP
  cases hc : codeAmong pos ps.toList with
  | none =>
    refine PySem.W.kla_makeFunction (mg := X.mg) (c := c) (P := P) (ps := ps) (closure_ok hfree) I.ok.glob (I.mod.glob.keeps I.bk) hcode (TB.code.keeps I.bk) hP' ht hc TB.gP bP fun c' ctv h' tk hx hge hlt hrec htb => ?_
    obtain ⟨c2, oc, vs, t, e2, hoc, hd, hv⟩ := hrec
    cases e2
    have nC : H c' = none := I.hok.fresh hge
    have nPc : P ≠ c' := ne_of_none hP nC
    have I1 := LamX.inv_table (t' := tk) (more := #[rawInt pos.line, rawInt pos.col, .ref c']) (h' := h'.push (PySem.W.kla_obj "<lambda>" (X.env.qual ++ "<lambda>") params body scope (cloFrom X.env.cells scope.names []) ((X.mg "__name__").getD .none) c' ctv)) I hP
      (fun b o hb e => Heap.get?_push_of_some _ (hx b o hb e)) (Heap.get?_push_of_some _ htb) hge ⟨oc, vs, t, Heap.get?_push_of_some _ hoc, hd, hv⟩
    have eL : (ps ++ #[rawInt pos.line, rawInt pos.col, .ref c']).toList = ps.toList ++ [rawInt pos.line, rawInt pos.col, .ref c'] := by simp
    have hE : ∀ b o, H b = some o → (∀ ps, o ≠ .tbl ps) → (upd (upd H P (.tbl (ps ++ #[rawInt pos.line, rawInt pos.col, .ref c']))) c' (LamX.CodeO c' (X.env.qual ++ "<lambda>"))) b = some o := fun b o e n => by
      rw [upd_ne (ne_of_none e nC), upd_ne (fun z => n ps (Option.some.inj (e.symm.trans (by rw [z]; exact hP))))]
      exact e
    refine h h'.objs.size c' ((X.mg "__name__").getD .none) ctv _ _ I1 hE (fun b qs e => ?_) (fun p hp => ?_) (Heap.get?_push_size _ rfl) ⟨oc, vs, t, Heap.get?_push_of_some _ hoc, hd, hv⟩
    · rw [upd_ne (ne_of_none e nC)]
      by_cases hb : b = P
      · rw [hb, upd_same]; exact ⟨_, rfl⟩
      · rw [upd_ne hb]; exact ⟨qs, e⟩
    · by_cases hb : p.1 = P
      · rw [hu p hp hb, hb]
        refine ⟨_, by rw [upd_ne nPc, upd_same], by rw [eL]; exact PySem.TriplesOk_snoc _ _ _ _ ht, fun p' cv hcv => ?_⟩
        rw [eL] at hcv
        rcases LamX.among_app _ ht hcv with z | z
        · obtain ⟨c0, e1, e2⟩ := ha p' cv z
          exact ⟨c0, e1, hE _ _ e2 LamX.codeO_ne⟩
        · exact ⟨c', z, upd_same⟩
      · obtain ⟨ps', a1, a2, a3⟩ := hT p hp
        refine ⟨ps', by rw [upd_ne (ne_of_none a1 nC), upd_ne hb]; exact a1, a2, fun p' cv hcv => ?_⟩
        obtain ⟨c0, e1, e2⟩ := a3 p' cv hcv
        exact ⟨c0, e1, hE _ _ e2 LamX.codeO_ne⟩
  | some cv =>
    obtain ⟨c', e, hco⟩ := ha pos cv hc
    subst e
    refine PySem.W.kla_makeFunctionHit (mg := X.mg) (c := c) (P := P) (ps := ps) (closure_ok hfree) I.ok.glob (I.mod.glob.keeps I.bk) hcode (TB.code.keeps I.bk) hP' ht hc bP fun ctv h' tk hx hsz => ?_
    have I1 : Inv X pins σ H { s with heap := h'.push (PySem.W.kla_obj "<lambda>" (X.env.qual ++ "<lambda>") params body scope (cloFrom X.env.cells scope.names []) ((X.mg "__name__").getD .none) c' ctv), toks := tk } := I.kept fun b o e => Heap.get?_push_of_some _ (hx b o e)
    exact h h'.objs.size c' ((X.mg "__name__").getD .none) ctv H _ I1 (fun _ _ e _ => e) (fun _ ps e => ⟨ps, e⟩) hT (Heap.get?_push_size _ rfl) (I1.hok c' _ hco).1
end
/-- the scope of a lambda with one parameter -/
def lamOk (sc scope : Scope) (p : Str) : Bool :=
  decide (scope.kind = .function) && !scope.isCoroutine && !scope.isGenerator && decide (scope.names.lookup p = some .local) && scope.names.all fun y => !decide (y.2 = .cell) && (!decide (y.2 = .free) || decide (sc.names.lookup y.1 = some .cell) || decide (sc.names.lookup y.1 = some .free))
theorem lamOk_spec {sc scope : Scope} {p : Str} (h : lamOk sc scope p = true) : scope.kind = .function ∧ scope.isCoroutine = false ∧ scope.isGenerator = false ∧ scope.names.lookup p = some .local ∧ (∀ y ∈ scope.names, y.2 ≠ .cell) ∧
    ∀ y ∈ scope.names, y.2 = .free → sc.names.lookup y.1 = some .cell ∨ sc.names.lookup y.1 = some .free := by
  unfold lamOk at h
  simp only [Bool.and_eq_true, Bool.or_eq_true, Bool.not_eq_true', decide_eq_true_eq, decide_eq_false_iff_not, List.all_eq_true] at h
  obtain ⟨⟨⟨⟨h1, h2⟩, h3⟩, h4⟩, h5⟩ := h
  refine ⟨h1, h2, h3, h4, fun y hy => (h5 y hy).1, fun y hy e => ?_⟩
  rcases (h5 y hy).2 with (z | z) | z
  · exact absurd e z
  · exact .inl z
  · exact .inr z
/-- ints and tuples of ints -/
def flatI : PyData → Bool
  | .int _ => true
  | .tuple xs => xs.all fun d => match d with | .int _ => true | _ => false
  | _ => false
theorem flatI_reads {h : Heap} {v : Value} {d : PyData} (hf : flatI d = true) (r : Rz h v d) : Reads h v d [] := by
  obtain ⟨as, r⟩ := r
  cases d with
  | int i => cases r; exact .int _ _
  | tuple xs =>
    cases r with
    | tuple h1 h2 h3 h4 =>
      have key : ∀ {xs : List PyData} {vs : List Value} {as : List Addr}, (xs.all fun d => match d with | .int _ => true | _ => false) = true → ReadsAll h vs xs as → as = [] := by
        intro xs
        induction xs with
        | nil => intro vs as _ r; cases r; rfl
        | cons x xs ih =>
          intro vs as hx r
          simp only [List.all_cons, Bool.and_eq_true] at hx
          cases r with
          | cons r1 r2 =>
            have e2 := ih hx.2 r2
            have hx1 := hx.1
            split at hx1
            · cases r1; rw [e2]; rfl
            · cases hx1
      have e := key hf h4
      subst e
      exact .tuple h1 h2 h3 h4
  | _ => cases hf
/-- a lambda at f of h -/
structure LamAt (h : Heap) (f : Addr) (params : Arguments) (body : Expr) (scope : Scope) (cl : List (Str × Addr)) : Prop where
  obj : ∃ qual pm c' ctv, h.get? f = some (PySem.W.kla_obj "<lambda>" qual params body scope cl pm c' ctv) ∧ ∃ (oc : Obj) (vs : Array Value) (t : Tok), h.get? c' = some oc ∧ oc.data = .fields vs ∧ vs[1]? = some (.str qual t)
theorem LamAt.keeps {h h' : Heap} {f : Addr} {params : Arguments} {body : Expr} {scope : Scope} {cl : List (Str × Addr)} (L : LamAt h f params body scope cl) (k : ∀ b o, h.get? b = some o → h'.get? b = some o) : LamAt h' f params body scope cl := by
  obtain ⟨q, pm, c', ctv, h1, oc, vs, t, h2, h3, h4⟩ := L.obj
  exact ⟨q, pm, c', ctv, k _ _ h1, oc, vs, t, k _ _ h2, h3, h4⟩
def FrsAt (h : Heap) (scope : Scope) (cl : List (Str × Addr)) (m : List (Str × PyData)) : Prop :=
  ∀ x d, m.lookup x = some d → ∃ v c, Rz h v d ∧ scope.names.lookup x = some .free ∧ cl.lookup x = some c ∧ h.IsCell c (some v)
theorem FrsAt.keeps {h h' : Heap} {scope : Scope} {cl : List (Str × Addr)} {m : List (Str × PyData)} (F : FrsAt h scope cl m) (k : ∀ b o, h.get? b = some o → h'.get? b = some o) : FrsAt h' scope cl m := fun x d e => by
  obtain ⟨v, c, r, h1, h2, o, ho, hd⟩ := F x d e
  exact ⟨v, c, r.keeps k, h1, h2, o, k _ _ ho, hd⟩
theorem lam_call {prog : Program} {w : World} {A : Around} {E : Value → Shared → Prop} {s : Shared} {f : Addr} {v : Value} {d k : PyData} {g : Kv} {m : List (Str × PyData)} {sc scope : Scope} {p : Str} {params : Arguments} {body : Expr} {cl : List (Str × Addr)} {Q : Value → Shared → Prop}
    (L : LamAt s.heap f params body scope cl) (hdep : A.depth < recursionLimit) (lim : s.heap.NoLimit) (hsc : lamOk sc scope p = true)
    (hb : ∀ (q : Str) (cl : List (Str × Addr)) (pm cv ctv v : Value), bindArgs (PySem.W.kla_fn "<lambda>" q params body scope cl pm cv ctv) ⟨[v], []⟩ = pure [(p, v)]) (R : RK prog w body g)
    (hv : Rz s.heap v d) (F : FrsAt s.heap scope cl m) (hk : g ((p, d) :: m) = some k)
    (hq : ∀ u h' tk, (∀ b o, s.heap.get? b = some o → h'.get? b = some o) → Rz h' u k → Q u { s with heap := h', toks := tk }) : wpAny (model prog w) A (call (.ref f) [v]) Q E s := by
  obtain ⟨qual, pm, c', ctv, h1, oc, vs, t, h2, h3, h4⟩ := L.obj
  obtain ⟨k1, k2, k3, k4, k5, k6⟩ := lamOk_spec hsc
  refine wpAny_call (PySem.W.kla_callFunE (R := _) hdep h1 rfl k2 k3 rfl ⟨c', oc, vs, t, rfl, h2, h3, h4⟩ ?_)
  rw [hb]
  refine wpAny_pure (wpAny_newFunctionEnv k5 (fun y hy => ?_) (fun h₁ hns hsb => ⟨lim.fresh _ hsb, ?_⟩) k1)
  · rw [List.mem_singleton.mp hy]; exact k4
  have kp : ∀ b o, s.heap.get? b = some o → h₁.get? b = some o := fun b o e => hsb.extBut b o (Nat.ne_of_lt (Heap.lt_size e)) (Heap.get?_push_of_some _ e)
  show codeAny _ _ (.expr body (PySem.W.envX qual scope s.heap.objs.size f (.ref c') cl)) _ _
  refine PySem.W.kla_codeExpr (R.run _ _ _ { s with heap := h₁, toks := s.toks + 1 } ((p, d) :: m) k _ ⟨k1, fun x d' e => ?_⟩ hk fun u h' tk kk r => hq u h' tk (fun b o e => kk b o (kp b o e)) r)
  rw [List.lookup_cons] at e
  split at e
  · rename_i hx
    cases e
    have hx' : x = p := by simpa using hx
    subst hx'
    exact ⟨v, hv.keeps kp, .inl ⟨k4, _, hns, by simp⟩⟩
  · obtain ⟨v', c, r, g1, g2, g3⟩ := F.keeps kp x d' e
    exact ⟨v', r, .inr ⟨g1, c, g2, g3⟩⟩
end QL

end
section
set_option Elab.async false
set_option linter.all false
set_option autoImplicit false
set_option maxRecDepth 100000
set_option maxHeartbeats 4000000
/-! QB: sorted(x), sorted(x, key=lambda p: e). -/
namespace QL
open PySem PySem.Spec PyProof.Rows L2
/-! ### what a lambda captures -/
def caps : List (Str × Nat) → Rho → Sto → Option (List (Str × PyData))
  | [], _, _ => some []
  | (x, i) :: r, ρ, st => match ρ[i]? with
    | some (some v) => do
      let d ← rd v st
      let m ← caps r ρ st
      some ((x, d) :: m)
    | _ => none
section
variable {X : Cx} {T : Tb} {pins : List (Addr × Obj)} {σ : L2.St} {H : Hp} {s : Shared} {ι : List Addr} {st : Sto} {ρ : Rho}
theorem frs_at {scope : Scope} {p : Str} (I : Inv X pins σ H s) (hE : EnvR X.K H ι σ ρ) (hS : SR X.K T H ι st) (hsc : lamOk X.env.scope scope p = true) : ∀ {js : List (Str × Nat)} {m : List (Str × PyData)}, (∀ y ∈ js, scope.names.lookup y.1 = some .free ∧ X.N[y.2]? = some y.1) →
    caps js ρ st = some m → FrsAt s.heap scope (cloFrom X.env.cells scope.names []) m
  | [], m, _, e => by
    cases e
    intro x d e
    cases e
  | (x, i) :: r, m, hj, e => by
    obtain ⟨k1, k2, k3, k4, k5, k6⟩ := lamOk_spec hsc
    unfold caps at e
    split at e
    · rename_i v hv
      obtain ⟨d, e1, e⟩ := bnd e
      obtain ⟨m', e2, e⟩ := bnd e
      cases e
      have ih := frs_at I hE hS hsc (fun y hy => hj y (List.mem_cons_of_mem _ hy)) e2
      obtain ⟨hf, hN⟩ := hj (x, i) List.mem_cons_self
      intro y d' e3
      rw [List.lookup_cons] at e3
      split at e3
      · rename_i hx
        cases e3
        have hx' : y = x := by simpa using hx
        subst hx'
        obtain ⟨u, hu, ru⟩ := hE.val i v hv
        have rr := rd_rep hS ru e1
        have hfm : (y, NameKind.free) ∈ scope.names := PySem.mem_of_lookup hf
        have hvis : Vis X.env.scope y := (k6 _ hfm rfl).elim (fun k => .inr (.inl k)) (fun k => .inr (.inr k))
        obtain ⟨mm, hn, hl⟩ := I.loc
        obtain ⟨w', rw', q⟩ := hl i y u hN hu hvis
        have free : ∀ z ∈ scope.names, z.2 = .free → ∃ c, X.env.cells.lookup z.1 = some c := fun z hz ez => by
          rcases k6 z hz ez with k | k
          · exact I.ok.has _ (.inl k)
          · exact I.ok.has _ (.inr k)
        obtain ⟨c2, h2⟩ := mem_lookup (cloFrom_has (cells := X.env.cells) (acc := []) hfm)
        have c1 : X.env.cells.lookup y = some c2 := by
          rcases cloFrom_mem (PySem.mem_of_lookup h2) with hm | ⟨h1, h3⟩
          · cases hm
          · obtain ⟨c1, hc⟩ := free _ h1 rfl
            have hc : X.env.cells.lookup y = some c1 := hc
            have e2 : c2 = c1 := by
              rw [h3, hc] <;> rfl
            rw [e2]
            exact hc
        refine ⟨w', c2, Dp.reads I d u w' rr.dp rw', hf, h2, ?_⟩
        rcases q with ⟨k', _⟩ | ⟨_, c3, e', z⟩
        · have k' : X.env.scope.names.lookup y = some .local := k'
          rcases k6 _ hfm rfl with k2 | k2 <;> rw [show X.env.scope.names.lookup y = _ from k2] at k' <;> cases k'
        · rw [c1] at e'
          cases e'
          exact z
      · exact ih y d' e3
    · cases e
/-- sorted(xs, key=f) -/
theorem raw_sortedK {v : Value} {R : List Value → Prop} {ds : List PyData} {Q : VK} {f : Addr} {params : Arguments} {body : Expr} {scope sc : Scope} {cl : List (Str × Addr)} {m : List (Str × PyData)} {p : Str} {g : Kv} (k : PyData → PyData)
    (hu : X.A.units + 64 < cLine) (hdep : X.A.depth < recursionLimit) (I : Inv X pins σ H s) (hcol : Coll X.prog X.w X.A s v R) (hR : ∀ vs, R vs → PySem.W.EachIs (ItR X H) vs ds) (hz : ds.length ≤ 16777216)
    (L : LamAt s.heap f params body scope cl) (F : FrsAt s.heap scope cl m) (hsc : lamOk sc scope p = true) (hb : ∀ (q : Str) (cl : List (Str × Addr)) (pm cv ctv v : Value), bindArgs (PySem.W.kla_fn "<lambda>" q params body scope cl pm cv ctv) ⟨[v], []⟩ = pure [(p, v)])
    (RB : RK X.prog X.w body g) (hk : ∀ d ∈ ds, g ((p, d) :: m) = some (k d) ∧ flatI (k d) = true) (ok : sortOk (ds.map k) = true)
    (hq : ∀ p ys, H p = none → RepAll X.K H ys (ds.mergeSort (PySem.W.dataLe false k)) → Q (.ref p) (upd H p (.lst ys))) : wpAny (model X.prog X.w) X.A (call (.builtin "sorted") [v] [(Str.ofString "key", .ref f)]) (EP X pins σ Q) X.xe s := by
  obtain ⟨k1, k2, k3⟩ := sortOk_spec ok
  refine sorted_coll hcol (fun vs h => by rw [(hR vs h).length]; exact hz) (ksk_s1 _ _) (fun _ => ksk_l1 _ _) fun vs h' tk E' hr hkp => ?_
  have hoL : (h'.push (seqObj "list" vs.toArray 0)).get? h'.objs.size = some (seqObj "list" vs.toArray 0) := Heap.get?_push_size _ rfl
  have kk : ∀ b o, s.heap.get? b = some o → (h'.push (seqObj "list" vs.toArray 0)).get? b = some o := fun b o e => Heap.get?_push_of_some _ (hkp b o e)
  have ne : ∀ b o, s.heap.get? b = some o → b ≠ h'.objs.size := fun b o e => Nat.ne_of_lt (Heap.lt_size (hkp b o e))
  have eR := hR vs hr
  rw [ksk_t1]
  have turn : ∀ (v : Value) (x : PyData), ItR X H v x → x ∈ ds → ∀ (h : Heap) (tk' : Nat), PySem.W.KeepsBut h'.objs.size (h'.push (seqObj "list" vs.toArray 0)) h →
      wpAny (model X.prog X.w) X.A.in1.in1 (call (.ref f) [v]) (PySem.W.KeyPure (k x) { s with heap := h, toks := tk' }) (fun _ _ => False) { s with heap := h, toks := tk' } := fun u x hx hm h tk' kb => by
    have kA : ∀ b o, s.heap.get? b = some o → h.get? b = some o := fun b o e => kb b o (ne b o e) (kk b o e)
    obtain ⟨e1, e2⟩ := hk x hm
    have hI2 : Inv X pins σ H { s with heap := h, toks := tk' } := I.kept kA
    exact lam_call (s := { s with heap := h, toks := tk' }) (L.keeps kA) hdep hI2.nolimit hsc hb RB ((itR_reads I hx).keeps kA) (F.keeps kA) e1 fun u' h'' tk'' kB r => ⟨h'', tk'', rfl, kB, flatI_reads e2 r⟩
  refine PySem.W.keyH_tree (kz := ds.map k) (s := { s with heap := h'.push (seqObj "list" vs.toArray 0), toks := tk }) hoL (by rw [List.length_map]; exact eR.length.symm) (by rw [eR.length]; exact hz) k1 k2 (fun d hd => ?_)
    (PySem.W.keyH_turns (s := { s with heap := h'.push (seqObj "list" vs.toArray 0), toks := tk }) eR turn) fun h2 tk2 out c kp hD ko => ⟨rfl, ?_⟩
  · have := k3 d hd
    rw [units_in2]
    omega
  · have eo := PySem.W.keyedOut_each k ko eR
    obtain ⟨ys, ry, vy⟩ := itR_back eo
    have I1 : Inv X pins σ H { s with heap := h', toks := tk } := I.kept hkp
    have hl : ys.length ≤ sizeLine := by
      rw [ry.len, List.length_mergeSort]
      exact hz
    exact ⟨.ref _, upd H h'.objs.size (.lst ys), I1.laid (t' := tk2) (fun b o e => by
      have hlt := Heap.lt_size e
      exact kp b o (Nat.ne_of_lt hlt) (Heap.get?_push_of_some _ e)) (Nat.le_refl _) ⟨hl, out, c, vy, hD⟩, rfl, hq _ ys (I1.hok.fresh (Nat.le_refl _)) ry⟩
/-- what can be collected of a list or a tuple -/
theorem coll_of (I : Inv X pins σ H s) {x : V} {u : Value} {d : PyData} {ds : List PyData} (r : RepR X.K H x d) (rv : RelV x u) (e : seqOf d = some ds) : Coll X.prog X.w X.A s u (fun vs => PySem.W.EachIs (ItR X H) vs ds) ∧ ds.length ≤ 16777216 := by
  have key : ∀ {l : Addr} {xs : List V} {its : List Value} {T : String} {o : Obj} {n : Nat}, T = "list" ∨ T = "tuple" → s.heap.get? l = some o → o.cls = .type T → o.data = .seq its.toArray n → xs.length ≤ sizeLine → Vals xs its → RepAll X.K H xs ds →
      Coll X.prog X.w X.A s (.ref l) (fun vs => PySem.W.EachIs (ItR X H) vs ds) ∧ ds.length ≤ 16777216 := fun {l xs its T o n} hT ho hc hd hz rv ra => by
    refine ⟨fun A' Q E hA h => coll_seq (prog := X.prog) (w := X.w) (A := X.A) hT ho hc hd (by rw [← rv.length]; exact hz) A' Q E hA fun vs h' tk e hk => h vs h' tk (by rw [e]; exact itR_of ra rv) hk, by rw [← ra.len]; exact hz⟩
  cases d with
  | list xs =>
    cases e
    obtain ⟨a, vs, rfl, h1, h2⟩ := r.list
    cases rv
    obtain ⟨its, rv, ⟨o, n, ho, hc, _, hd⟩, hz⟩ := I.list h1
    exact key (.inl rfl) ho hc hd hz rv h2
  | tuple xs =>
    cases e
    obtain ⟨a, vs, rfl, h1, h2⟩ := r.tuple
    cases rv
    obtain ⟨its, rv, ⟨o, ho, hc, n, hd⟩, hz⟩ := I.tuple h1
    exact key (.inr rfl) ho hc hd hz rv h2
  | _ => cases e
end
section
variable {X : Cx} {T : Tb} {a e : Expr} {p pos : Pos}
def gSort : GL := fun d => do
  let ds ← seqOf d
  if sortOk ds then some (ds.mergeSort (PySem.W.dataLe false id)) else none
def rSortQ (X : Cx) : List V → Hp → VK → Prop := fun vs H Q => ∃ x d ds, vs = [x] ∧ RepR X.K H x d ∧ seqOf d = some ds ∧ sortOk ds = true ∧ ∀ p ys, H p = none → RepAll X.K H ys (ds.mergeSort (PySem.W.dataLe false id)) → Q (.ref p) (upd H p (.lst ys))
theorem cr_sortQ (hu : X.A.units + 64 < cLine) : CallR X (.builtin "sorted") (rSortQ X) := by
  intro pins s σ H vs us Q I r h
  obtain ⟨x, d, ds, rfl, h1, h2, h3, h4⟩ := h
  obtain ⟨u, rfl, ru⟩ := vals1 r
  obtain ⟨c1, c2⟩ := coll_of I h1 ru h2
  exact raw_sorted hu I c1 (fun _ h => h) c2 h3 h4
theorem ql_sorted {f : Ev} (hu : X.A.units + 64 < cLine) (B : Bls X.mg) (hg : Gl X "sorted") (ha : QE X T a f) (hs : starEach [a] X.env = (false, eval a X.env) :: starEach [] X.env := by rfl) : QL X T (.Call (.Name "sorted" p) [a] [] pos) (lOp1 gSort f) :=
  ql_c1 (fun h => pe_callB (cr_sortQ hu) hg B.sorted PyProof.Rows.boot_sorted h (he := hs) (hpl := rfl)) (fun H v x z Q hx hg hk => by
    obtain ⟨ds, e1, hg⟩ := bnd hg
    split at hg
    · rename_i ok
      cases hg
      exact ⟨v, x, ds, rfl, hx, e1, ok, fun p ys hp ry => hk p ys hp ry⟩
    · cases hg) ha hs
/-! ### sorted(x, key=lambda p: e) -/
/-- the keys -/
def keysOf (g : Kv) (p : Str) (m : List (Str × PyData)) (ds : List PyData) : Option (List PyData) := match ds with
  | [] => some []
  | d :: r => do
    let k ← g ((p, d) :: m)
    let ks ← keysOf g p m r
    if flatI k then some (k :: ks) else none
def keyAt (g : Kv) (p : Str) (m : List (Str × PyData)) (d : PyData) : PyData := (g ((p, d) :: m)).getD .none
theorem keysOf_spec {g : Kv} {p : Str} {m : List (Str × PyData)} : ∀ {ds ks : List PyData}, keysOf g p m ds = some ks → ks = ds.map (keyAt g p m) ∧ ∀ d ∈ ds, g ((p, d) :: m) = some (keyAt g p m d) ∧ flatI (keyAt g p m d) = true
  | [], ks, h => by
    cases h
    exact ⟨rfl, fun d hd => by cases hd⟩
  | d :: r, ks, h => by
    obtain ⟨k, e1, h⟩ := bnd h
    obtain ⟨ks', e2, h⟩ := bnd h
    split at h
    · rename_i fk
      cases h
      obtain ⟨h1, h2⟩ := keysOf_spec e2
      have ek : keyAt g p m d = k := by unfold keyAt; rw [e1]; rfl
      refine ⟨by rw [List.map_cons, ek, h1], fun d' hd => ?_⟩
      rcases List.mem_cons.mp hd with e | e
      · rw [e, ek]; exact ⟨e1, fk⟩
      · exact h2 d' e
    · cases h
/-- what stands ahead: the collection's items, the values by then -/
abbrev Cv := Rho → Sto → Option (List PyData × Sto)
def lSortK (fc : Cv) (js : List (Str × Nat)) (p : Str) (g : Kv) : Lv := fun ρ st => do
  let (ds, s1) ← fc ρ st
  let m ← caps js ρ s1
  let ks ← keysOf g p m ds
  if sortOk ks && decide (ds.length ≤ 16777216) then some (ds.mergeSort (PySem.W.dataLe false (keyAt g p m)), s1) else none
/-- the lambda as an argument: what its making leaves -/
structure LamQ (X : Cx) (T : Tb) (c P : Addr) (params : Arguments) (body : Expr) (scope : Scope) (p : Str) (g : Kv) (js : List (Str × Nat)) : Prop where
  tb : LamX.TabB X.base X.mg c P
  code : X.env.code = .ref c
  mem : (P, X.env.qual ++ "<lambda>") ∈ T
  uni : ∀ q ∈ T, q.1 = P → q.2 = X.env.qual ++ "<lambda>"
  dfl : defaultsOf params X.env = ([], [])
  sc : lamOk X.env.scope scope p = true
  bnd : ∀ (q : Str) (cl : List (Str × Addr)) (pm cv ctv v : Value), bindArgs (PySem.W.kla_fn "<lambda>" q params body scope cl pm cv ctv) ⟨[v], []⟩ = pure [(p, v)]
  rk : RK X.prog X.w body g
  js : ∀ y ∈ js, scope.names.lookup y.1 = some .free ∧ X.N[y.2]? = some y.1
theorem le_lam {H H1 : Hp} {ι : List Addr} (h1 : ∀ b o, H b = some o → (∀ ps, o ≠ .tbl ps) → H1 b = some o) (h2 : ∀ b ps, H b = some (.tbl ps) → ∃ ps', H1 b = some (.tbl ps')) : Le H ι H1 ι :=
  ⟨⟨fun c xs h => h1 c _ h (fun ps e => by cases e), fun c o u h => h1 c _ h (fun ps e => by cases e)⟩, List.prefix_refl ι, fun b o h n _ => h1 b o h n, h2, fun b h h' => absurd h h'⟩
theorem sr_lam {K : PySem.W.Frag} {H H1 : Hp} {ι : List Addr} {st : Sto} (S : SR K T H ι st) (h1 : ∀ b o, H b = some o → (∀ ps, o ≠ .tbl ps) → H1 b = some o) (h2 : ∀ b ps, H b = some (.tbl ps) → ∃ ps', H1 b = some (.tbl ps')) (ht : LamX.Tabs T H1) : SR K T H1 ι st :=
  { len := S.len, nd := S.nd, tabs := ht
    trk := fun a ha z => by
      cases q : H a with
      | none => exact S.trk a ha q
      | some o =>
        by_cases ht : ∃ ps, o = .tbl ps
        · obtain ⟨ps, rfl⟩ := ht
          obtain ⟨ps', e⟩ := h2 a ps q
          rw [e] at z; cases z
        · rw [h1 a o q (fun ps e => ht ⟨ps, e⟩)] at z; cases z
    cell := fun i c hc => by
      obtain ⟨a, ha, q⟩ := S.cell i c hc
      refine ⟨a, ha, ?_⟩
      cases c with
      | lst ds =>
        obtain ⟨vs, g1, g2⟩ := q
        exact ⟨vs, h1 a _ g1 (fun ps e => by cases e), RepAll.ext (le_lam (ι := ι) h1 h2).ext _ _ g2⟩ }
theorem free_lam {H H1 : Hp} {p : Addr} (h1 : ∀ b o, H b = some o → (∀ ps, o ≠ .tbl ps) → H1 b = some o) (h2 : ∀ b ps, H b = some (.tbl ps) → ∃ ps', H1 b = some (.tbl ps')) (hp : H1 p = none) : H p = none := by
  cases q : H p with
  | none => rfl
  | some o =>
    by_cases ht : ∃ ps, o = .tbl ps
    · obtain ⟨ps, rfl⟩ := ht
      obtain ⟨ps', e⟩ := h2 p ps q
      rw [e] at hp; cases hp
    · rw [h1 p o q (fun ps e => ht ⟨ps, e⟩)] at hp; cases hp
theorem lam_free {scope : Scope} {p : Str} (ok : X.Ok) (hsc : lamOk X.env.scope scope p = true) : ∀ z ∈ scope.names, z.2 = .free → ∃ c, X.env.cells.lookup z.1 = some c := fun z hz ez => by
  rcases (lamOk_spec hsc).2.2.2.2.2 z hz ez with k | k
  · exact ok.has _ (.inl k)
  · exact ok.has _ (.inr k)
theorem ql_sortedK {f : Ev} {c P : Addr} {params : Arguments} {body : Expr} {scope : Scope} {q : Str} {g : Kv} {js : List (Str × Nat)} {k : Nat} {lpos kpos : Pos} (hu : Room k X.A) (B : Bls X.mg) (hg : Gl X "sorted") (ha : QE X T a f) (L : LamQ X T c P params body scope q g js)
    (hs : starEach [a] X.env = (false, eval a X.env) :: starEach [] X.env := by rfl)
    (he : backTo pos (starEach [a] X.env) = (false, eval a X.env) :: backTo pos (starEach [] X.env) := by rfl) (hpl : (backTo pos (starEach [a] X.env)).any (·.1) = false := by rfl)
    (hall : (backToKw pos (keywordEach [⟨some "key", .Lambda params body scope lpos, kpos⟩] X.env)).all (·.1.isSome) = true := by rfl) (hnone : (backToKw pos (keywordEach [⟨some "key", .Lambda params body scope lpos, kpos⟩] X.env)).any (·.1.isNone) = false := by rfl) (hks : (backToKw pos (keywordEach [⟨some "key", .Lambda params body scope lpos, kpos⟩] X.env)).filterMap (·.1) = [("key" : Str)] := by rfl) :
    QL X T (.Call (.Name "sorted" p) [a] [⟨some "key", .Lambda params body scope lpos, kpos⟩] pos) (lSortK (fun ρ st => do
      let (x, s1) ← f ρ st
      let d ← rd x s1
      let ds ← seqOf d
      some (ds, s1)) js q g) := by
  refine ⟨⟨fun pins s σ H Q I ⟨ρ, ι, st, zs, st', hE, hS, hf, hkq⟩ => ?_⟩⟩
  obtain ⟨⟨ds', s1'⟩, e0, hf⟩ := bnd hf
  obtain ⟨⟨x, s1⟩, e1, e0⟩ := bnd e0
  obtain ⟨d, e2, e0⟩ := bnd e0
  obtain ⟨ds, e3, e0⟩ := bnd e0
  obtain ⟨rfl, rfl⟩ := Prod.mk.inj (Option.some.inj e0)
  obtain ⟨m, e4, hf⟩ := bnd hf
  obtain ⟨ks, e5, hf⟩ := bnd hf
  have hf' : (if (sortOk ks && decide (ds.length ≤ 16777216)) = true then some (ds.mergeSort (PySem.W.dataLe false (keyAt g q m)), s1) else none) = some (zs, st') := hf
  split at hf'
  · rename_i ok
    obtain ⟨rfl, rfl⟩ := Prod.mk.inj (Option.some.inj hf')
    simp only [Bool.and_eq_true, decide_eq_true_eq] at ok
    obtain ⟨ok1, ok2⟩ := ok
    obtain ⟨ek, hk⟩ := keysOf_spec e5
    refine wpAny_Call_Name_kw (ld_blt I hg B.sorted PyProof.Rows.boot_sorted ?_ (by decide) (by decide))
    refine PyProof.Rows.callWith_kw (args_cons (thn (ha.pe.run pins s σ H _ I ⟨ρ, ι, st, x, s1, hE, hS, e1, fun v H1 ι1 l1 S1 r1 => (⟨ι1, l1, S1, r1⟩ : ∃ ι1, Le H ι H1 ι1 ∧ SR X.K T H1 ι1 s1 ∧ VlR X.K H1 ι1 v x)⟩) fun u s2 ⟨v, H1, I1, rv, ι1, l1, S1, r1⟩ => args_nil ?_) hs) he hpl hall hnone
    refine kwAll_cons (lam_make3 I1 L.tb L.code L.mem L.uni S1.tabs L.dfl (lam_free I1.ok L.sc) fun f' c' pm ctv H2 s3 I2 g1 g2 T2 hob hco => kwAll_nil ?_)
    rw [hks]
    have l2 : Le H1 ι1 H2 ι1 := le_lam g1 g2
    have S2 := sr_lam S1 g1 g2 T2
    have r2 := r1.le l2
    obtain ⟨c1, c2⟩ := coll_of I2 (rd_rep S2 r2 e2) rv e3
    have hEx := hE.le (l1.trans l2)
    refine raw_sortedK (keyAt g q m) (by have := hu.un; omega) hu.depth I2 c1 (fun _ h => h) c2 ⟨_, pm, c', ctv, hob, hco⟩ (frs_at I2 hEx S2 L.sc L.js e4) L.sc L.bnd L.rk hk (by rw [← ek]; exact ok1) fun p ys hp ry => ?_
    have hs := same_upd (o := HO.lst ys) hp
    exact hkq p ys _ ι1 (l1.free S1 (free_lam g1 g2 hp)) ((l1.trans l2).trans (Le.same hs)) (S2.same hs) upd_same (nmem_of S2 hp) (RepAll.ext (Ext.same hs) _ _ ry)
  · cases hf'
end
end QL

end
section
set_option Elab.async false
set_option linter.all false
set_option autoImplicit false
set_option maxRecDepth 100000
set_option maxHeartbeats 4000000
/-! QC: defs and their calls where nothing is under way (repr asks that). -/
namespace QL
open PySem PySem.Spec PyProof.Rows L2
/-- what is under way, and the room -/
structure RmG (k : Nat) (A : Around) : Prop where
  r : Room k A
  g : A.guards = some []
theorem RmG.deeper {k : Nat} {A : Around} (r : RmG (k + 1) A) (env : Env) : RmG k (A.deeper env) := ⟨r.r.deeper env, r.g⟩
theorem RmG.mono {j k : Nat} {A : Around} (r : RmG k A) (h : j ≤ k) : RmG j A := ⟨r.r.mono h, r.g⟩
structure FnG (P : Program) (w : World) (K : PySem.W.Frag) (mg : Str → Option Value) (base : Heap) (T : Tb) (k : Nat) (f : Addr) (fd : FuncData) (ps : List Str) (F : Fn) : Prop where
  run : ∀ (A : Around) (outer : List Env) (s : Shared) (H : Hp) (args : Args) (us : List Value) (vs : List V) (Q : VK), RmG k A → Env0 P w K mg base A outer s H → BindsTo s fd args (ps.zip us) → Vals vs us → spS K T F vs H Q C8.E0 →
    codeAny (model P w) A (.call (.ref f) args) (CR C8.CX0 outer P w H s Q C8.E0) s
  len : ∀ vs H Q E, spS K T F vs H Q E → vs.length = ps.length
section
variable {P : Program} {w : World} {K : PySem.W.Frag} {mg : Str → Option Value} {base : Heap} {x qual : Str} {params : Arguments} {body : List Stmt} {scope : Scope} {f : Addr} {fd : FuncData} {N ps : List Str} {k : Nat} {ex : Ex} {T : Tb}
theorem FnG.mono {j k : Nat} {F : Fn} (h : FnG P w K mg base T j f fd ps F) (hj : j ≤ k) : FnG P w K mg base T k f fd ps F := ⟨fun A outer s H args us vs Q r => h.run A outer s H args us vs Q (r.mono hj), h.len⟩
/-- a def from its body's derivation; cd: its code object -/
theorem fnG_of (F : FunD K x qual params body scope [] [] f fd) (S : FnScope N ps scope)
    (hb : ∀ (cdv : Value) (A : Around) (outer : List Env) (s : Shared) (H : Hp), fd.code = cdv → RmG k (A.deeper (envOfC qual scope s.heap.objs.size f cdv)) → QSs (cxOf C8.CX0 P w K mg base N qual scope f cdv A outer s H C8.E0).nox T body ex) :
    FnG P w K mg base T (k + 1) f fd ps (fnS N.length ps.length ex) := by
  have len : ∀ vs H Q E, spS K T (fnS N.length ps.length ex) vs H Q E → vs.length = ps.length := fun vs H Q E ⟨ι, st, args, r, st', h1, h2, h3, _⟩ => by
    unfold fnS at h3
    split at h3
    · rename_i hl
      rw [h1.len, hl]
    · cases h3
  refine ⟨fun A outer s H args us vs Q hr e0 hB r hsp => ?_, len⟩
  obtain ⟨oc, od, dV, kV, doc, pm, an, cdv, ct, osl, rfl, lk, hcd, _, _⟩ := F.ex
  refine LamX.run_ofS lk hcd S hr.r e0 hB r (len _ _ _ _ hsp) fun hr' => ⟨_, PSs.nox (hb cdv A outer s H rfl (hr.deeper _)).ps, ?_⟩
  obtain ⟨ι, st, args', r', st', hv, hS, hf, hk⟩ := hsp
  unfold fnS at hf
  split at hf
  · obtain ⟨⟨o, ρ', s1⟩, e1, hf⟩ := bnd hf
    refine ⟨_, ι, st, o, ρ', s1, start_env N hv, hS, e1, ?_⟩
    cases o with
    | nx =>
      cases hf
      exact fun σ' H' ι' l E1 S1 => hk .non H' (ι'.take st.length) (l.take hS.len) (S1.take _) .non
    | bk => cases hf
    | ct => cases hf
    | rt r0 => exact fun v H' ι' l S1 rv => fin_ok hS l S1 rv hf hk
  · cases hf
end
section
variable {X : Cx} {T : Tb} {e : Expr} {p pos : Pos}
theorem run_fnG {F : Fn} {f : Addr} {fd : FuncData} {ps : List Str} {k : Nat} {pins : List (Addr × Obj)} {σ : L2.St} {H : Hp} {s : Shared} {Q : VK} {us : List Value} {vs : List V} (Fo : FnG X.prog X.w X.K X.mg X.base T k f fd ps F) (hr : RmG k X.A) (hb : Binds X.K fd ps [])
    (I : Inv X pins σ H s) (r : Vals vs us) (h : spS X.K T F vs H Q C8.E0) : wpAny (model X.prog X.w) X.A (call (.ref f) us) (EP X pins σ Q) X.xe s := by
  have hl : (us ++ []).length = ps.length := by rw [List.append_nil, ← r.length]; exact Fo.len _ _ _ _ h
  have hB := hb s us I.kIn hl
  rw [List.append_nil] at hB
  refine wpAny_call (codeAny_mono (Fo.run X.A X.stack s H ⟨us, []⟩ us vs Q hr I.env0 hB r h) fun r s' hq => ?_)
  cases r with
  | error e => exact (show False from hq).elim
  | ok fl =>
    cases fl with
    | ret u => exact I.after hq
    | next => exact False.elim hq
    | brk => exact False.elim hq
    | cont => exact False.elim hq
theorem qe_callG {F : Fn} {x : Str} {f : Addr} {fd : FuncData} {ps : List Str} {k : Nat} {es : List Expr} {g : Evs} (Fo : FnG X.prog X.w X.K X.mg X.base T k f fd ps F) (hr : RmG k X.A) (hg : Gl X x) (hm : X.mg x = some (.ref f)) (hk : PySem.W.keepIn X.K (.ref f) = true) (hb : Binds X.K fd ps [])
    (ha : QA X T (e :: es) g) (hdb : (x == ("__debug__" : Str)) = false := by decide) (he : starEach (e :: es) X.env = (false, eval e X.env) :: starEach es X.env := by rfl) (hpl : (backTo pos (starEach es X.env)).any (·.1) = false := by rfl) :
    QE X T (.Call (.Name x p) (e :: es) [] pos) (eCall F g) := ⟨⟨fun pins s σ H Q I ⟨ρ, ι, st, r, st', hE, hS, hf, hk'⟩ => by
  obtain ⟨⟨xs, s1⟩, e1, hf⟩ := bnd hf
  refine wpAny_Call_Name_kw (ld_glob I hg hm ?_ hdb)
  refine PySem.W.callWith_K (h₀ := X.base) I.ok.mod.kin hk (thn (ha.pa.run pos pins s σ H _ I ⟨ρ, ι, st, xs, s1, hE, hS, e1, fun vs H1 ι1 l1 S1 r1 => (⟨ι1, l1, S1, r1⟩ : ∃ ι1, Le H ι H1 ι1 ∧ SR X.K T H1 ι1 s1 ∧ VlsR X.K H1 ι1 vs xs)⟩) fun us s2 ⟨vs, H1, I1, r, ι1, l1, S1, r1⟩ => ⟨I1.kIn, ?_⟩) he hpl
  exact run_fnG Fo hr hb I1 r ⟨ι1, s1, xs, _, st', r1, S1, hf, fun v H2 ι2 l2 S2 r2 => hk' v H2 ι2 (l1.trans l2) S2 r2⟩⟩⟩
/-! ### repr -/
def gRepr : G1 := fun d => if d.showable && !d.hasDict && decide (d.shown.length ≤ 16777216) && decide (d.depth ≤ 60) then some (.str d.shown) else none
end
section
variable {prog : Program} {w : World} {A : Around} {E : Value → Shared → Prop} {s : Shared}
theorem raw_repr {v : Value} {d : PyData} {Q : Value → Shared → Prop} (hg : A.guards = some []) (hu : A.units + 64 < cLine) (r : Rz s.heap v d) (h1 : d.showable = true) (h2 : d.hasDict = false) (h3 : d.shown.length ≤ sizeLine) (h4 : d.depth ≤ 60)
    (h : ∀ h' tk t, (∀ b o, s.heap.get? b = some o → h'.get? b = some o) → Q (.str d.shown t) { s with heap := h', toks := tk }) : wpAny (model prog w) A (call (.builtin "repr") [v]) Q E s := by
  obtain ⟨as, r⟩ := r
  have hsm : d.hasDict = true → sysModules ∉ as := fun z => by rw [h2] at z; cases z
  cases d with
  | none => cases r; exact P.repr_of_none (h _ _ _ fun _ _ e => e)
  | bool b => cases r; exact P.repr_of_bool (h _ _ _ fun _ _ e => e)
  | int i => cases r; exact P.repr_of_int (of_decide_eq_true h1) (h _ _ _ fun _ _ e => e)
  | str x => cases r; exact P.repr_of_str (h _ _ _ fun _ _ e => e) h3
  | list xs => cases r with
    | list q1 q2 q3 q4 => exact repr_of_reads' (.list q1 q2 q3 q4) h1 hsm hg (by omega) (fun _ _ e => e) (fun h' u tk k => h h' tk u k) h3
  | tuple xs => cases r with
    | tuple q1 q2 q3 q4 => exact repr_of_reads' (.tuple q1 q2 q3 q4) h1 hsm hg (by omega) (fun _ _ e => e) (fun h' u tk k => h h' tk u k) h3
  | dict kvs => cases h2
end
section
variable {X : Cx} {T : Tb} {a b e : Expr} {p pos : Pos}
def rReprQ (X : Cx) : List V → Hp → VK → Prop := fun vs H Q => ∃ x d, vs = [x] ∧ RepR X.K H x d ∧ d.showable = true ∧ d.hasDict = false ∧ d.shown.length ≤ sizeLine ∧ d.depth ≤ 60 ∧ Q (.str d.shown) H
theorem cr_reprQ {k : Nat} (hr : RmG k X.A) : CallR X (.builtin "repr") (rReprQ X) := by
  intro pins s σ H vs us Q I r h
  obtain ⟨x, d, rfl, h1, h2, h3, h4, h5, h6⟩ := h
  obtain ⟨u, rfl, ru⟩ := vals1 r
  exact raw_repr hr.g (by have := hr.r.un; omega) (Dp.reads I d x u h1.dp ru) h2 h3 h4 h5 fun h' tk t k => ⟨.str _, H, I.kept k, ⟨_, rfl⟩, h6⟩
theorem qe_repr {f : Ev} {k : Nat} (hr : RmG k X.A) (B : Bls X.mg) (hg : Gl X "repr") (ha : QE X T a f) (hs : starEach [a] X.env = (false, eval a X.env) :: starEach [] X.env := by rfl) : QE X T (.Call (.Name "repr" p) [a] [] pos) (eOp1 gRepr f) :=
  qe_c1 (fun h => pe_callB (cr_reprQ hr) hg B.repr (by decide +kernel) h (he := hs) (hpl := rfl)) (fun H v x z Q hx hg hk => by
    unfold gRepr at hg
    split at hg
    · rename_i ok
      cases hg
      simp only [Bool.and_eq_true, Bool.not_eq_true', decide_eq_true_eq] at ok
      exact ⟨v, x, rfl, hx, ok.1.1.1, ok.1.1.2, ok.1.2, ok.2, hk _ _ (Same.refl H) (.str _)⟩
    · cases hg) ha hs
/-! ### in, not in -/
def pIn : GB := fun x y => match seqOf y with
  | some ds => if min (PyData.depthAll ds) x.depth ≤ 60 then some (ds.any fun z => PyData.eqv z x) else none
  | none => none
def pNotIn : GB := fun x y => (pIn x y).map (!·)
def rInQ (K : PySem.W.Frag) (b : Bool → Bool) : R2 := fun x y H Q => ∃ d c ds, RepR K H x d ∧ RepR K H y c ∧ seqOf c = some ds ∧ min (PyData.depthAll ds) d.depth ≤ 60 ∧ Q (.bl (b (ds.any fun z => PyData.eqv z d))) H
theorem op_inQ (hu : X.A.units + 64 < cLine) : OpR X (compareOp .In) (rInQ X.K id) := by
  intro pins s σ H x y v u Q I rx ry h
  obtain ⟨d, c, ds, h1, h2, h3, h4, q⟩ := h
  obtain ⟨as, r1⟩ := Dp.reads I d x v h1.dp rx
  obtain ⟨bs, r2⟩ := Dp.reads I c y u h2.dp ry
  have p2 := h2.plain
  cases c with
  | list xs =>
    cases h3
    exact SeqAt.in_list_data r2 r1 (by simpa [PyData.plain] using p2) h1.plain (by omega) (fin_bl I q rfl)
  | tuple xs =>
    cases h3
    exact SeqAt.in_tuple_data r2 r1 (by simpa [PyData.plain] using p2) h1.plain (by omega) (fin_bl I q rfl)
  | _ => cases h3
theorem op_notInQ (hu : X.A.units + 64 < cLine) : OpR X (compareOp .NotIn) (rInQ X.K not) := by
  intro pins s σ H x y v u Q I rx ry h
  obtain ⟨d, c, ds, h1, h2, h3, h4, q⟩ := h
  obtain ⟨as, r1⟩ := Dp.reads I d x v h1.dp rx
  obtain ⟨bs, r2⟩ := Dp.reads I c y u h2.dp ry
  have p2 := h2.plain
  cases c with
  | list xs =>
    cases h3
    exact SeqAt.notIn_list_data r2 r1 (by simpa [PyData.plain] using p2) h1.plain (by omega) (fin_bl I q rfl)
  | tuple xs =>
    cases h3
    exact SeqAt.notIn_tuple_data r2 r1 (by simpa [PyData.plain] using p2) h1.plain (by omega) (fin_bl I q rfl)
  | _ => cases h3
theorem pIn_spec {x y : PyData} {b : Bool} (h : pIn x y = some b) : ∃ ds, seqOf y = some ds ∧ min (PyData.depthAll ds) x.depth ≤ 60 ∧ b = ds.any fun z => PyData.eqv z x := by
  unfold pIn at h
  split at h
  · rename_i ds e
    split at h
    · rename_i hd
      cases h
      exact ⟨ds, e, hd, rfl⟩
    · cases h
  · cases h
theorem c_in (hu : X.A.units + 64 < cLine) : CmpQ X .In (rInQ X.K id) pIn := ⟨op_inQ hu, fun H v u x y z Q hx hy hg hk => by
  obtain ⟨ds, h1, h2, rfl⟩ := pIn_spec hg
  exact ⟨x, y, ds, hx, hy, h1, h2, hk⟩⟩
theorem c_notin (hu : X.A.units + 64 < cLine) : CmpQ X .NotIn (rInQ X.K not) pNotIn := ⟨op_notInQ hu, fun H v u x y z Q hx hy hg hk => by
  obtain ⟨b, h0, rfl⟩ := Option.map_eq_some_iff.mp hg
  obtain ⟨ds, h1, h2, rfl⟩ := pIn_spec h0
  exact ⟨x, y, ds, hx, hy, h1, h2, hk⟩⟩
end
end QL

end
section
set_option Elab.async false
set_option linter.all false
set_option autoImplicit false
set_option maxRecDepth 100000
set_option maxHeartbeats 4000000
/-! QD: t[::-1], the greatest of data, set. -/
namespace QL
open PySem PySem.Spec PyProof.Rows L2
open HT in
theorem adjust_rev (n : Nat) : Builtin.Slice.sliceAdjust none none (-1) (n : Int) = ((n : Int) - 1, -1) := by
  first | rfl | simp [Builtin.Slice.sliceAdjust]
theorem places_rev (n : Nat) : Builtin.Slice.slicePlaces ((n : Int) - 1) (-1) (-1) = n := by
  unfold Builtin.Slice.slicePlaces
  by_cases h : n = 0
  · subst h; rfl
  · have h1 : ¬ ((-1 : Int) > 0) := by decide
    simp
    try omega
theorem fm_congr {α β : Type} {f g : α → Option β} : ∀ {l : List α}, (∀ a ∈ l, f a = g a) → l.filterMap f = l.filterMap g
  | [], _ => rfl
  | a :: l, h => by
    rw [List.filterMap_cons, List.filterMap_cons, h a List.mem_cons_self, fm_congr fun b hb => h b (List.mem_cons_of_mem _ hb)]
theorem pick_rev (xs : List Value) : ((List.range xs.length).filterMap fun (m : Nat) => xs.toArray[((xs.length : Int) - 1 + (m : Int) * (-1)).toNat]?) = xs.reverse := by
  apply List.ext_getElem?
  intro i
  have e : ((List.range xs.length).filterMap fun (m : Nat) => xs.toArray[((xs.length : Int) - 1 + (m : Int) * (-1)).toNat]?) = (List.range xs.length).map fun m => (xs[xs.length - 1 - m]?).getD .none := by
    rw [← List.filterMap_eq_map]
    apply fm_congr
    intro m hm
    have hm' : m < xs.length := List.mem_range.mp hm
    have e1 : ((xs.length : Int) - 1 + (m : Int) * (-1)).toNat = xs.length - 1 - m := by omega
    rw [e1]
    have hl : xs.length - 1 - m < xs.length := by omega
    simp [hl]
  rw [e, List.getElem?_map]
  by_cases hi : i < xs.length
  · rw [List.getElem?_range hi, List.getElem?_reverse hi]
    have hl : xs.length - 1 - i < xs.length := by omega
    simp [hl]
  · rw [List.getElem?_eq_none (by simpa using hi), List.getElem?_eq_none (by simpa using hi)]
    rfl
section
variable {prog : Program} {w : World} {A : Around} {E : Value → Shared → Prop} {s : Shared}
open HT in
theorem getItem_tuple_rev {t sl : Addr} {its : List Value} {vl vu vs : Value} {Q : Value → Shared → Prop} (ht : IsTup s.heap t its.toArray) (hs : s.heap.IsSliceOf sl vl vu vs) (pl : IsPart vl none) (pu : IsPart vu none) (ps : IsPart vs (some (-1)))
    (h : Q (.ref s.heap.objs.size) { s with heap := s.heap.push { cls := .type "tuple", data := .seq its.reverse.toArray } })
    (hsz : its.length ≤ sizeLine) : wpAny (model prog w) A (getItem (.ref t) (.ref sl)) Q E s := by
  have hok : sizeOk (.seq its.reverse.toArray) := by
    show its.reverse.toArray.size ≤ sizeLine
    rw [List.size_toArray, List.length_reverse]
    exact hsz
  obtain ⟨os, hos, hcs, hds⟩ := id hs
  have hTs : s.TypeIs (.ref sl) "slice" := ⟨os, hos, hcs⟩
  unfold getItem
  try with_reducible refine wpAny_holding ?_
  first | refine wpAny_bind (wpAny_pure ?_) | skip
  refine wpAny_bind (wpAny_sequenceKey ht.typeIs (by decide) ?_)
  refine wpAny_bind (wpAny_callSpecial?_slot (name := Str.ofString "__getitem__") ht.typeIs PyProof.Rows.slot_tuple_getitem
    (wpAny_call_entry PyProof.Rows.slot_tuple_getitem ht.typeIs entry_tuple_getitem ?_ (args_tuple_getitem _ _)))
  show wpAny _ _ (Builtin.Tuple.tupleItemsOf (.ref t) >>= _) _ _ s
  refine wpAny_bind (tupleItemsOf_ ht ?_)
  refine wpAny_bind (wpAny_typeOf hTs ?_)
  rw [if_pos (by decide)]
  have key : ∀ (Q' : Int × Int × Nat → Shared → Prop) (E' : Value → Shared → Prop) (A' : Around), Q' ((its.length : Int) - 1, -1, its.length) s → wpAny (model prog w) A' (Builtin.Slice.sliceApplied (.ref sl) (pure (its.length : Int))) Q' E' s := fun Q' E' A' hq => by
    unfold Builtin.Slice.sliceApplied Builtin.Slice.sliceFields
    refine wpAny_bind (wpAny_bind (wpAny_field hos hds (x := vl) rfl (wpAny_bind (wpAny_field hos hds (x := vu) rfl (wpAny_bind (wpAny_field hos hds (x := vs) rfl (wpAny_pure ?_)))))))
    refine wpAny_bind (slicePart_ ps ?_)
    show wpAny _ _ (if ((-1 : Int) == 0) = true then _ else _) _ _ s
    rw [if_neg (by decide)]
    refine wpAny_bind (slicePart_ pl (wpAny_bind (slicePart_ pu (wpAny_bind (wpAny_pure ?_)))))
    show wpAny _ _ (match Builtin.Slice.sliceAdjust none none (-1) (its.length : Int) with | (lo, hi) => pure (lo, (-1 : Int), Builtin.Slice.slicePlaces lo hi (-1))) _ _ s
    rw [adjust_rev]
    show wpAny _ _ (pure ((its.length : Int) - 1, (-1 : Int), Builtin.Slice.slicePlaces ((its.length : Int) - 1) (-1) (-1))) _ _ s
    rw [places_rev]
    exact wpAny_pure hq
  have esz : its.toArray.size = its.length := List.size_toArray
  rw [esz]
  refine wpAny_bind (key _ _ _ ?_)
  have hno : ¬ ((((its.length : Int) - 1) == 0 && (-1 : Int) == 1 && its.length == its.length) = true) := by
    intro q
    rw [Bool.and_eq_true, Bool.and_eq_true] at q
    exact absurd q.1.2 (by decide)
  show wpAny _ _ (if (((its.length : Int) - 1) == 0 && (-1 : Int) == 1 && its.length == its.length) = true then _ else _) _ _ s
  rw [if_neg hno, pick_rev]
  first
    | exact wpAny_bind (m := Builtin.Tuple.tupleExact _) (wpAny_newObj_type (wpAny_pure ⟨_, rfl, wpAny_pure h⟩) hok)
    | exact wpAny_bind (m := Builtin.Tuple.tupleExact _) (wpAny_newObj_type (wpAny_bind (wpAny_pure (wpAny_pure ⟨_, rfl, wpAny_pure h⟩))) hok)
    | exact wpAny_bind (wpAny_bind (m := Builtin.Tuple.tupleExact _) (wpAny_newObj_type (wpAny_pure (wpAny_pure ⟨_, rfl, wpAny_pure h⟩)) hok))
    | exact wpAny_bind (wpAny_bind (m := Builtin.Tuple.tupleExact _) (wpAny_newObj_type (wpAny_pure ⟨_, rfl, wpAny_pure h⟩) hok))
end
section
variable {X : Cx} {T : Tb} {a e : Expr} {pos : Pos}
def tRevT (K : PySem.W.Frag) (te : TE) : TE := fun σ H Q => te σ H fun x H1 => ∃ a xs, x = .ref a ∧ SqT K H1 a xs ∧ ∀ p, H1 p = none → Q (.ref p) (upd H1 p (.tup xs.reverse))
theorem pe_revT {te : TE} {k : Nat} {p1 p2 p3 : Pos} (he : PE X e te) : PE X (.Subscript e (.Slice none none (some (.UnaryOp .USub (.Constant (.int 1) k p1) p2)) p3) pos) (tRevT X.K te) := by
  refine ⟨fun pins s σ H Q I h => ?_⟩
  refine Subscript_ (thn (he.run pins s σ H _ I h) fun v s1 ⟨x, H1, I1, r1, q1⟩ => ?_)
  obtain ⟨a, xs, ex, hx, q⟩ := q1
  subst ex
  cases r1
  have hst : PO X (some (.UnaryOp .USub (.Constant (.int 1) k p1) p2)) (tPart (tUn (rU fun i => .int (-i)) (tC (.int 1)))) := po_some (pe_un un_neg pe_int)
  refine wpAny_Slice (thn (po_none.run pins s1 σ H1 (fun o H2 => o = none ∧ H2 = H1) I1 ⟨rfl, rfl⟩) fun vl s2 ⟨l, H2, I2, pl, el, e2⟩ => ?_)
  subst el e2
  refine thn (po_none.run pins s2 σ H2 (fun o H3 => o = none ∧ H3 = H2) I2 ⟨rfl, rfl⟩) fun vu s3 ⟨u, H3, I3, pu, eu, e3⟩ => ?_
  subst eu e3
  refine thn (hst.run pins s3 σ H3 (fun o H4 => o = some (-1) ∧ H4 = H3) I3 ⟨1, rfl, -1, rfl, rfl, rfl⟩) fun vs s4 ⟨o, H4, I4, ps, eo, e4⟩ => ?_
  subst eo e4
  have I5 : Inv X pins σ H4 { s4 with heap := s4.heap.push { cls := .type "slice", data := .fields #[vl, vu, vs] } } := I4.kept (t' := s4.toks) fun b ob q => Heap.get?_push_of_some _ q
  obtain ⟨its, r, ht, hz⟩ := I5.tuple hx
  have hlen := r.length
  show wpAny (model X.prog X.w) X.A (subscriptTail e (.Slice none none (some (.UnaryOp .USub (.Constant (.int 1) k p1) p2)) p3) (.ref a) (.ref s4.heap.objs.size)) (EP X pins σ Q) X.xe { s4 with heap := s4.heap.push { cls := .type "slice", data := .fields #[vl, vu, vs] } }
  refine tail_any (ops := [.ref a, .ref s4.heap.objs.size]) ht.typeIs (PyProof.Rows.slot_tuple_getitem.lookup) ?_ (by with_unfolding_all rfl)
  refine getItem_tuple_rev ht (Heap.IsSliceOf.new _ vl vu vs) pl pu ps ?_ (by omega)
  refine ⟨.ref _, _, I5.laid (t' := s4.toks) (o := .tup xs.reverse) (fun b ob q => Heap.get?_push_of_some _ q) (Nat.le_refl _) ?_, rfl, q _ (I5.hok.fresh (Nat.le_refl _))⟩
  exact ⟨by rw [List.length_reverse]; exact hz, _, r.reverse, IsTup.new _ _⟩
def eRevT (f : Ev) : Ev := fun ρ st => do
  let (x, s1) ← f ρ st
  match x with
  | .d (.tuple ds) => some (.d (.tuple ds.reverse), s1)
  | _ => none
theorem qe_revT {f : Ev} {k : Nat} {p1 p2 p3 : Pos} (ha : QE X T a f) : QE X T (.Subscript a (.Slice none none (some (.UnaryOp .USub (.Constant (.int 1) k p1) p2)) p3) pos) (eRevT f) :=
  ⟨PE.imp (pe_revT ha.pe) fun σ H Q ⟨ρ, ι, st, r, st', hE, hS, hf, hk⟩ => by
    obtain ⟨⟨x, s1⟩, e1, hf⟩ := bnd hf
    dsimp only at hf
    split at hf
    · obtain ⟨rfl, rfl⟩ := Prod.mk.inj (Option.some.inj hf)
      refine ⟨ρ, ι, st, _, s1, hE, hS, e1, fun v H1 ι1 l1 S1 r1 => ?_⟩
      have r1' : Rep X.K H1 v (.tuple _) := r1
      cases r1' with
      | @tup a0 xs0 ds0 h1 h2 =>
        refine ⟨_, _, rfl, h1, fun p hp => ?_⟩
        have hs := same_upd (o := HO.tup xs0.reverse) hp
        exact hk _ _ ι1 (l1.trans (Le.same hs)) (S1.same hs) (.tup (.inl (.inl upd_same)) (RepAll.ext (Ext.same hs) _ _ h2.rev))
    · cases hf⟩
end
end QL

end
section
set_option Elab.async false
set_option linter.all false
set_option autoImplicit false
set_option maxRecDepth 100000
set_option maxHeartbeats 4000000
/-! QE0: keys that are ints or new pairs of ints; max(x, key=f), min(x, key=f). -/
namespace QL
open PySem PySem.Spec PyProof.Rows L2
/-- a key told: an int, or a new tuple of ints -/
def KOut (h0 h : Heap) (u : Value) (d : PyData) : Prop := (∃ i t, d = .int i ∧ u = .int i t) ∨ (∃ b, u = .ref b ∧ h0.get? b = none ∧ Reads h u d [] ∧ flatI d = true)
structure RKt (prog : Program) (w : World) (e : Expr) (g : Kv) : Prop where
  run : ∀ (env : Env) (A : Around) (E : Value → Shared → Prop) (s : Shared) (m : List (Str × PyData)) (d : PyData) (Q : Value → Shared → Prop), KNm s.heap env m → g m = some d →
    (∀ v h' tk, (∀ b o, s.heap.get? b = some o → h'.get? b = some o) → KOut s.heap h' v d → Q v { s with heap := h', toks := tk }) → wpAny (model prog w) A (eval e env) Q E s
theorem KOut.rz {h0 h : Heap} {u : Value} {d : PyData} (k : KOut h0 h u d) : Rz h u d := by
  rcases k with ⟨i, t, rfl, rfl⟩ | ⟨b, rfl, _, r, _⟩
  · exact ⟨[], .int _ _⟩
  · exact ⟨[], r⟩
section
variable {prog : Program} {w : World} {a b : Expr} {pos : Pos}
theorem RKt.rk {e : Expr} {g : Kv} (h : RKt prog w e g) : RK prog w e g := ⟨fun env A E s m d Q n e k => h.run env A E s m d Q n e fun v h' tk kk r => k v h' tk kk r.rz⟩
def kOne (f : Kv) : Kv := fun m => match f m with
  | some (.int i) => some (.int i)
  | _ => none
theorem rkt_one {e : Expr} {f : Kv} (h : RK prog w e f) : RKt prog w e (kOne f) := ⟨fun env A E s m d Q n e k => by
  unfold kOne at e
  split at e
  · rename_i i q
    cases e
    exact h.run env A E s m _ Q n q fun v h' tk kk ⟨as, r⟩ => by
      cases r
      exact k _ h' tk kk (.inl ⟨_, _, rfl, rfl⟩)
  · cases e⟩
def kTwo (f1 f2 : Kv) : Kv := fun m => match f1 m, f2 m with
  | some (.int i), some (.int j) => some (.tuple [.int i, .int j])
  | _, _ => none
theorem rkt_two {f1 f2 : Kv} {x1 : Nat} (ha : RK prog w a f1) (hb : RK prog w b f2) (he : ∀ env, starEach [a, b] env = (false, eval a env) :: starEach [b] env := by intro _; rfl) (he2 : ∀ env, starEach [b] env = (false, eval b env) :: starEach [] env := by intro _; rfl) : RKt prog w (.Tuple [a, b] x1 pos) (kTwo f1 f2) := ⟨fun env A E s m d Q n e k => by
  unfold kTwo at e
  split at e
  · rename_i i j e1 e2
    cases e
    refine wpAny_Tuple_spliced (args_cons (ha.run env A E s m _ _ n e1 fun v h1 t1 k1 r1 => args_cons (hb.run env A E _ m _ _ (n.keeps k1) e2 fun u h2 t2 k2 r2 => args_nil ⟨by show 2 ≤ sizeLine; decide, ?_⟩) (he2 env)) (he env))
    obtain ⟨as, r1⟩ := r1
    obtain ⟨bs, r2⟩ := r2
    cases r1
    cases r2
    have kk : ∀ b o, s.heap.get? b = some o → h2.get? b = some o := fun b o q => k2 b o (k1 b o q)
    refine k _ _ t2 (fun b o q => Heap.get?_push_of_some _ (kk b o q)) (.inr ⟨_, rfl, ?_, .tuple (Heap.get?_push_size _ rfl) rfl rfl (.cons (as := []) (bs := []) (.int _ _) (.cons (as := []) (bs := []) (.int _ _) .nil)), rfl⟩)
    cases q : s.heap.get? h2.objs.size with
    | none => rfl
    | some o => exact absurd (Heap.lt_size (kk _ _ q)) (Nat.lt_irrefl _)
  · cases e⟩
theorem lam_callT {A : Around} {E : Value → Shared → Prop} {s : Shared} {f : Addr} {v : Value} {d k : PyData} {g : Kv} {m : List (Str × PyData)} {sc scope : Scope} {p : Str} {params : Arguments} {body : Expr} {cl : List (Str × Addr)} {Q : Value → Shared → Prop}
    (L : LamAt s.heap f params body scope cl) (hdep : A.depth < recursionLimit) (lim : s.heap.NoLimit) (hsc : lamOk sc scope p = true)
    (hb : ∀ (q : Str) (cl : List (Str × Addr)) (pm cv ctv v : Value), bindArgs (PySem.W.kla_fn "<lambda>" q params body scope cl pm cv ctv) ⟨[v], []⟩ = pure [(p, v)]) (R : RKt prog w body g)
    (hv : Rz s.heap v d) (F : FrsAt s.heap scope cl m) (hk : g ((p, d) :: m) = some k)
    (hq : ∀ u h' tk, (∀ b o, s.heap.get? b = some o → h'.get? b = some o) → KOut s.heap h' u k → Q u { s with heap := h', toks := tk }) : wpAny (model prog w) A (call (.ref f) [v]) Q E s := by
  obtain ⟨qual, pm, c', ctv, h1, oc, vs, t, h2, h3, h4⟩ := L.obj
  obtain ⟨k1, k2, k3, k4, k5, k6⟩ := lamOk_spec hsc
  refine wpAny_call (PySem.W.kla_callFunE (R := _) hdep h1 rfl k2 k3 rfl ⟨c', oc, vs, t, rfl, h2, h3, h4⟩ ?_)
  rw [hb]
  refine wpAny_pure (wpAny_newFunctionEnv k5 (fun y hy => ?_) (fun h₁ hns hsb => ⟨lim.fresh _ hsb, ?_⟩) k1)
  · rw [List.mem_singleton.mp hy]; exact k4
  have kp : ∀ b o, s.heap.get? b = some o → h₁.get? b = some o := fun b o e => hsb.extBut b o (Nat.ne_of_lt (Heap.lt_size e)) (Heap.get?_push_of_some _ e)
  show codeAny _ _ (.expr body (PySem.W.envX qual scope s.heap.objs.size f (.ref c') cl)) _ _
  refine PySem.W.kla_codeExpr (R.run _ _ _ { s with heap := h₁, toks := s.toks + 1 } ((p, d) :: m) k _ ⟨k1, fun x d' e => ?_⟩ hk fun u h' tk kk r => hq u h' tk (fun b o e => kk b o (kp b o e)) ?_)
  · rw [List.lookup_cons] at e
    split at e
    · rename_i hx
      cases e
      have hx' : x = p := by simpa using hx
      subst hx'
      exact ⟨v, hv.keeps kp, .inl ⟨k4, _, hns, by simp⟩⟩
    · obtain ⟨v', c, r, g1, g2, g3⟩ := F.keeps kp x d' e
      exact ⟨v', r, .inr ⟨g1, c, g2, g3⟩⟩
  · rcases r with r | ⟨b, e1, e2, e3, e4⟩
    · exact .inl r
    · refine .inr ⟨b, e1, ?_, e3, e4⟩
      cases q : s.heap.get? b with
      | none => rfl
      | some o =>
        have e2' : h₁.get? b = none := e2
        rw [kp b o q] at e2'
        cases e2'
end
/-- a tuple of ints reads on where its object stays -/
theorem flat_stay {h h' : Heap} {b : Addr} {d : PyData} (hf : flatI d = true) (r : Reads h (.ref b) d []) (k : ∀ o, h.get? b = some o → h'.get? b = some o) : Reads h' (.ref b) d [] := by
  cases d with
  | int i => cases r
  | tuple xs =>
    cases r with
    | tuple h1 h2 h3 h4 =>
      have key : ∀ {xs : List PyData} {vs : List Value} {as : List Addr}, (xs.all fun d => match d with | .int _ => true | _ => false) = true → ReadsAll h vs xs as → ReadsAll h' vs xs as := by
        intro xs
        induction xs with
        | nil => intro vs as _ r; cases r; exact .nil
        | cons x xs ih =>
          intro vs as hx r
          simp only [List.all_cons, Bool.and_eq_true] at hx
          cases r with
          | cons r1 r2 =>
            have hx1 := hx.1
            split at hx1
            · cases r1; exact .cons (.int _ _) (ih hx.2 r2)
            · cases hx1
      exact .tuple (k _ h1) h2 h3 (key hf h4)
  | _ => cases hf
section
variable {X : Cx} {pins : List (Addr × Obj)} {s : Shared} {σ : L2.St} {H : Hp}
theorem keyRun_of {op : CmpOp} {lt : PyData → PyData → Bool} {S I : Addr} {St : Nat → Shared → Prop} {its : List Value} {ds : List PyData} (k : PyData → PyData) {f : Addr} {params : Arguments} {body : Expr} {scope sc : Scope} {cl : List (Str × Addr)} {m : List (Str × PyData)} {p : Str} {g : Kv}
    (hop : ∀ (A : Around) (s : Shared) (a b : Value) (da db : PyData) (as bs : List Addr), Reads s.heap a da as → Reads s.heap b db bs → PySem.W.alike da db = true → da ≠ .none → A.units + min da.depth db.depth < cLine → PySem.SeqAt.RcOp op A s a b (lt da db))
    (hu : X.A.units + 64 < cLine) (hdep : X.A.depth < recursionLimit) (I0 : Inv X pins σ H s) (hI : s.heap.get? I = none) (hS : s.heap.get? S = none) (hSt : ∀ i (s' : Shared) h' tk, St i s' → (∀ b o, s'.heap.get? b = some o → h'.get? b = some o) → St i { s' with heap := h', toks := tk }) (hSI : ∀ i s', St i s' → ∃ o, s'.heap.get? I = some o)
    (L : LamAt s.heap f params body scope cl) (F : FrsAt s.heap scope cl m) (hsc : lamOk sc scope p = true) (hb : ∀ (q : Str) (cl : List (Str × Addr)) (pm cv ctv v : Value), bindArgs (PySem.W.kla_fn "<lambda>" q params body scope cl pm cv ctv) ⟨[v], []⟩ = pure [(p, v)])
    (RB : RKt X.prog X.w body g) (hR : PySem.W.EachIs (ItR X H) its ds) (hk : ∀ d ∈ ds, g ((p, d) :: m) = some (k d) ∧ flatI (k d) = true) (hal : ∀ d ∈ ds, ∀ d' ∈ ds, PySem.W.alike (k d) (k d') = true) :
    PySem.KeyRun X.prog X.w X.A.in1 (.ref f) op S [I] (fun a b => b = a) its.length (fun i v => its.toArray[i]? = some v) St (fun s' => ∃ h tk, s' = { s with heap := h, toks := tk } ∧ ∀ b o, s.heap.get? b = some o → h.get? b = some o)
      (fun i kv s' => i < its.length ∧ ((∃ n t, k (ds.getD i .none) = .int n ∧ kv = .int n t) ∨ ∃ b, kv = .ref b ∧ b ≠ S ∧ b ≠ I ∧ Reads s'.heap kv (k (ds.getD i .none)) [] ∧ flatI (k (ds.getD i .none)) = true)) (fun i j => lt (k (ds.getD i .none)) (k (ds.getD j .none))) := by
  have nn : ∀ {b : Addr} {o : Obj}, s.heap.get? b = some o → b ∉ S :: [I] := fun {b o} e hb => by
    rcases List.mem_cons.mp hb with z | z
    · rw [z, hS] at e; cases e
    · rw [List.mem_singleton.mp z, hI] at e; cases e
  have mem : ∀ {i : Nat}, i < its.length → ds.getD i .none ∈ ds := fun {i} hi => by
    have hl : i < ds.length := by rw [← hR.length]; exact hi
    rw [List.getD_eq_getElem?_getD, List.getElem?_eq_getElem hl]
    exact List.getElem_mem hl
  have fl : ∀ {i : Nat}, i < its.length → flatI (k (ds.getD i .none)) = true := fun {i} hi => (hk _ (mem hi)).2
  refine ⟨fun s1 s2 ⟨h, tk, e, kp⟩ mv => ?_, fun i kv s1 s2 ⟨hi, q⟩ mv => ⟨hi, ?_⟩, fun i v s1 o Q E hi hP ⟨h, tk, e, kp⟩ st hSo kont => ?_, fun i j ki kj s1 Q E _ ⟨hi, qi⟩ ⟨hj, qj⟩ hq => ?_⟩
  · subst e
    refine ⟨s2.heap, s2.toks, ?_, fun b o e => mv.heap b o (nn e) (kp b o e)⟩
    obtain ⟨hp, g', d', tk', os'⟩ := s2
    have h1 : g' = s.gens := mv.gens
    have h2 : d' = s.drawn := mv.drawn
    have h3 : os' = s.os := mv.os
    subst h1; subst h2; subst h3
    rfl
  · rcases q with q | ⟨b, rfl, hbS, hbI, r, hf⟩
    · exact .inl q
    · exact .inr ⟨b, rfl, hbS, hbI, flat_stay hf r fun o e => mv.heap b o (by simp [hbS, hbI]) e, hf⟩
  · subst e
    have hx : its[i]? = some v := by simpa using hP
    have hl : i < ds.length := by rw [← hR.length]; exact hi
    have hz : (v, ds.getD i .none) ∈ its.zip ds := List.mem_of_getElem? (i := i) (by rw [List.getElem?_zip_eq_some]; exact ⟨hx, by rw [List.getD_eq_getElem?_getD, List.getElem?_eq_getElem hl]; rfl⟩)
    have rv := (itR_reads I0 (hR.zip _ hz)).keeps kp
    have I1 : Inv X pins σ H { s with heap := h, toks := tk } := I0.kept kp
    refine lam_callT (s := { s with heap := h, toks := tk }) (L.keeps kp) hdep I1.nolimit hsc hb RB rv (F.keeps kp) (hk _ (mem hi)).1 fun u h' tk' kk r => ?_
    refine kont u _ ⟨h', tk', rfl, fun b o e => kk b o (kp b o e)⟩ (hSt (i + 1) { s with heap := h, toks := tk } h' tk' st kk) (kk _ _ hSo) ⟨hi, ?_⟩ fun j k' ⟨hj, q⟩ => ⟨hj, ?_⟩
    · rcases r with ⟨n, t, e1, e2⟩ | ⟨b, e1, e2, e3, e4⟩
      · exact .inl ⟨n, t, e1, e2⟩
      · refine .inr ⟨b, e1, fun z => ?_, fun z => ?_, e3, e4⟩
        · rw [z] at e2
          have e2' : h.get? S = none := e2
          have hSo' : h.get? S = some o := hSo
          rw [hSo'] at e2'; cases e2'
        · obtain ⟨o', ho'⟩ := hSI _ _ st
          rw [z] at e2
          have e2' : h.get? I = none := e2
          have ho2 : h.get? I = some o' := ho'
          rw [ho2] at e2'; cases e2'
    · rcases q with q | ⟨b, rfl, hbS, hbI, r, hf⟩
      · exact .inl q
      · exact .inr ⟨b, rfl, hbS, hbI, PyProof.Rows.Reads.keeps kk r, hf⟩
  · have rd : ∀ {i : Nat} {kv : Value}, ((∃ n t, k (ds.getD i .none) = .int n ∧ kv = .int n t) ∨ ∃ b, kv = .ref b ∧ b ≠ S ∧ b ≠ I ∧ Reads s1.heap kv (k (ds.getD i .none)) [] ∧ flatI (k (ds.getD i .none)) = true) → Reads s1.heap kv (k (ds.getD i .none)) [] := fun {i kv} q => by
      rcases q with ⟨n, t, e, rfl⟩ | ⟨b, rfl, _, _, r, _⟩
      · rw [e]; exact .int n t
      · exact r
    have fd : ∀ {d : PyData}, flatI d = true → d ≠ .none ∧ d.depth ≤ 1 := fun {d} hd => by
      cases d with
      | int i => exact ⟨fun e => by (cases e), by (simp [PyData.depth])⟩
      | tuple xs =>
        refine ⟨fun e => by (cases e), ?_⟩
        have key : ∀ {xs : List PyData}, (xs.all fun d => match d with | .int _ => true | _ => false) = true → PyData.depthAll xs = 0 := by
          intro xs
          induction xs with
          | nil => intro _; simp [PyData.depthAll]
          | cons x xs ih =>
            intro hx
            simp only [List.all_cons, Bool.and_eq_true] at hx
            have hx1 := hx.1
            split at hx1
            · simp [PyData.depthAll, PyData.depth, ih hx.2]
            · cases hx1
        have hk0 := key (xs := xs) hd
        simp [PyData.depth, hk0]
      | _ => cases hd
    exact hop _ s1 ki kj _ _ _ _ (rd qi) (rd qj) (hal _ (mem hi) _ (mem hj)) (fd (fl hi)).1 (by
      have := (fd (fl hi)).2
      show X.A.units + 1 + _ < _
      omega) X.prog X.w E Q hq
end
end QL

end
section
set_option Elab.async false
set_option linter.all false
set_option autoImplicit false
set_option maxRecDepth 100000
set_option maxHeartbeats 4000000
/-! QE: max(x, key=f), min(x, key=f), sorted(range(..), key=f), max(x), min(x) of data, sorted(set(x)). -/
namespace QL
open PySem PySem.Spec PyProof.Rows L2
def alikeB (ks : List PyData) : Bool := ks.all fun d => ks.all fun d' => PySem.W.alike d d'
theorem alikeB_spec {ks : List PyData} (h : alikeB ks = true) : ∀ d ∈ ks, ∀ d' ∈ ks, PySem.W.alike d d' = true := by
  unfold alikeB at h
  simpa [List.all_eq_true] using h
def bestOf (lt : PyData → PyData → Bool) (k : PyData → PyData) (y : PyData) (ys : List PyData) : PyData := ys.foldl (fun a z => if lt (k z) (k a) then z else a) y
theorem best_at {lt : PyData → PyData → Bool} {k : PyData → PyData} {ds : List PyData} {y : PyData} {ys : List PyData} (e : ds = y :: ys) : argBest (fun i j => lt (k (ds.getD i .none)) (k (ds.getD j .none))) (ds.length - 1) < ds.length ∧ ds.getD (argBest (fun i j => lt (k (ds.getD i .none)) (k (ds.getD j .none))) (ds.length - 1)) .none = bestOf lt k y ys := by
  subst e
  have e1 : (y :: ys).length - 1 = ys.length := by simp
  rw [e1]
  obtain ⟨h1, h2⟩ := PySem.W.argBest_fold (fun a b => lt (k a) (k b)) PyData.none y ys ys.length (Nat.le_refl _)
  rw [List.take_length] at h2
  exact ⟨by rw [List.length_cons]; omega, h2⟩
section
variable {X : Cx} {pins : List (Addr × Obj)} {s : Shared} {σ : L2.St} {H : Hp}
theorem item_at {its : List Value} {ds : List PyData} (hR : PySem.W.EachIs (ItR X H) its ds) {i : Nat} {v : Value} (hv : its[i]? = some v) : ItR X H v (ds.getD i .none) := by
  have hl : i < ds.length := by rw [← hR.length]; exact (List.getElem?_eq_some_iff.mp hv).1
  have hz : (v, ds.getD i .none) ∈ its.zip ds := List.mem_of_getElem? (i := i) (by rw [List.getElem?_zip_eq_some]; exact ⟨hv, by rw [List.getD_eq_getElem?_getD, List.getElem?_eq_getElem hl]; rfl⟩)
  exact hR.zip _ hz
/-- the items of a list or a tuple -/
theorem items_of (I : Inv X pins σ H s) {x : V} {u : Value} {d : PyData} {ds : List PyData} (r : RepR X.K H x d) (rv : RelV x u) (e : seqOf d = some ds) :
    ∃ l its, u = .ref l ∧ PySem.W.EachIs (ItR X H) its ds ∧ (s.heap.IsList l its.toArray ∨ s.heap.IsTuple l its.toArray) := by
  cases d with
  | list xs =>
    cases e
    obtain ⟨a, vs, rfl, h1, h2⟩ := r.list
    cases rv
    obtain ⟨its, rv, pl, hz⟩ := I.list h1
    exact ⟨a, its, rfl, itR_of h2 rv, .inl pl.isList⟩
  | tuple xs =>
    cases e
    obtain ⟨a, vs, rfl, h1, h2⟩ := r.tuple
    cases rv
    obtain ⟨its, rv, pl, hz⟩ := I.tuple h1
    exact ⟨a, its, rfl, itR_of h2 rv, .inr pl⟩
  | _ => cases e
theorem raw_bestK {op : CmpOp} {lt : PyData → PyData → Bool} {id : String} {l : Addr} {its : List Value} {ds : List PyData} {y : PyData} {ys : List PyData} {Q : VK} (k : PyData → PyData) {f : Addr} {params : Arguments} {body : Expr} {scope sc : Scope} {cl : List (Str × Addr)} {m : List (Str × PyData)} {p : Str} {g : Kv}
    (hop : ∀ (A : Around) (s : Shared) (a b : Value) (da db : PyData) (as bs : List Addr), Reads s.heap a da as → Reads s.heap b db bs → PySem.W.alike da db = true → da ≠ .none → A.units + min da.depth db.depth < cLine → PySem.SeqAt.RcOp op A s a b (lt da db))
    (call_ : ∀ {x : Value} {q : Addr} {Q : Value → Shared → Prop}, wpAny (model X.prog X.w) X.A.in1 (pyIter x) (fun it s₂ => ∃ I fp wr G n P St J V bt, it = .ref I ∧ WalksS X.prog X.w X.A.in1 I fp wr G n P St ∧ St 0 s₂ ∧ (∀ b ∈ fp, b < s₂.heap.objs.size) ∧ 0 < n ∧
      PySem.KeyRun X.prog X.w X.A.in1 (.ref q) op s₂.heap.objs.size wr G n P St J V bt ∧ J s₂ ∧ ∀ v s', P (argBest bt (n - 1)) v → J s' → Q v s') X.xe s → wpAny (model X.prog X.w) X.A (call (.builtin id) [x] [(Str.ofString "key", .ref q)]) Q X.xe s)
    (hc : X.calm = true) (hu : X.A.units + 64 < cLine) (hdep : X.A.depth < recursionLimit) (I0 : Inv X pins σ H s) (hl : s.heap.IsList l its.toArray ∨ s.heap.IsTuple l its.toArray) (hR : PySem.W.EachIs (ItR X H) its ds) (eds : ds = y :: ys)
    (L : LamAt s.heap f params body scope cl) (F : FrsAt s.heap scope cl m) (hsc : lamOk sc scope p = true) (hb : ∀ (q : Str) (cl : List (Str × Addr)) (pm cv ctv v : Value), bindArgs (PySem.W.kla_fn "<lambda>" q params body scope cl pm cv ctv) ⟨[v], []⟩ = pure [(p, v)])
    (RB : RKt X.prog X.w body g) (hk : ∀ d ∈ ds, g ((p, d) :: m) = some (k d) ∧ flatI (k d) = true) (hal : ∀ d ∈ ds, ∀ d' ∈ ds, PySem.W.alike (k d) (k d') = true)
    (hq : ∀ v, Rep X.K H v (bestOf lt k y ys) → Q v H) : wpAny (model X.prog X.w) X.A (call (.builtin id) [.ref l] [(Str.ofString "key", .ref f)]) (EP X pins σ Q) X.xe s := by
  have hh : X.A.in1.handled = none := I0.ok.hd hc
  have hlen := hR.length
  have fin : ∀ (v : Value) (s' : Shared), its.toArray[argBest (fun i j => lt (k (ds.getD i .none)) (k (ds.getD j .none))) (its.length - 1)]? = some v → (∃ h tk, s' = { s with heap := h, toks := tk } ∧ ∀ b o, s.heap.get? b = some o → h.get? b = some o) → EP X pins σ Q v s' := fun v s' hP ⟨h, tk, e, kp⟩ => by
    subst e
    have hv : its[argBest (fun i j => lt (k (ds.getD i .none)) (k (ds.getD j .none))) (its.length - 1)]? = some v := by simpa using hP
    obtain ⟨x, rx, rp⟩ := item_at hR hv
    rw [hlen, (best_at (lt := lt) (k := k) eds).2] at rp
    exact ⟨x, H, I0.kept kp, rx, hq x rp⟩
  have hn : 0 < its.length := by rw [hlen, eds]; exact Nat.succ_pos _
  have hne : ∀ {b : Addr}, s.heap.objs.size ≤ b → s.heap.get? b = none := fun {b} hb => Heap.get?_none_of_le hb
  refine call_ ?_
  rcases hl with hl | hl
  · refine PySem.W.iter_listW (A := X.A.in1) hh hl fun s₂ e W st hfp hw hkp => ?_
    have hsz : s₂.heap.objs.size = s.heap.objs.size + 1 := by rw [e]; exact Heap.size_push ..
    have W' : WalksS X.prog X.w X.A.in1 s.heap.objs.size [s.heap.objs.size, l] [s.heap.objs.size] (fun a b => b = a) its.length (fun i v => its.toArray[i]? = some v) (fun i s' => s'.heap.IsListIter s.heap.objs.size l i ∧ s'.heap.IsList l its.toArray) := by
      have := W
      rwa [List.size_toArray] at this
    refine ⟨_, _, _, _, _, _, _, _, _, _, rfl, W', st, hfp, hn, keyRun_of (I := s.heap.objs.size) k hop hu hdep I0 (hne (Nat.le_refl _)) (hne (by rw [hsz]; exact Nat.le_succ _)) (fun i s' h' tk ⟨a1, a2⟩ kp => ⟨a1.at fun o q => kp _ o q, a2.at fun o q => kp _ o q⟩) (fun i s' ⟨⟨o, ho, _⟩, _⟩ => ⟨o, ho⟩) L F hsc hb RB hR hk hal,
      ⟨s₂.heap, s₂.toks, by rw [e], hkp⟩, fin⟩
  · refine PySem.W.iter_tupleW (A := X.A.in1) hh hl fun s₂ e W st hfp hw hkp => ?_
    have hsz : s₂.heap.objs.size = s.heap.objs.size + 1 := by rw [e]; exact Heap.size_push ..
    have W' : WalksS X.prog X.w X.A.in1 s.heap.objs.size [s.heap.objs.size, l] [s.heap.objs.size] (fun a b => b = a) its.length (fun i v => its.toArray[i]? = some v) (fun i s' => s'.heap.IsTupleIter s.heap.objs.size l i ∧ s'.heap.IsTuple l its.toArray) := by
      have := W
      rwa [List.size_toArray] at this
    refine ⟨_, _, _, _, _, _, _, _, _, _, rfl, W', st, hfp, hn, keyRun_of (I := s.heap.objs.size) k hop hu hdep I0 (hne (Nat.le_refl _)) (hne (by rw [hsz]; exact Nat.le_succ _)) (fun i s' h' tk ⟨a1, a2⟩ kp => ⟨a1.at fun o q => kp _ o q, a2.at fun o q => kp _ o q⟩) (fun i s' ⟨⟨o, ho, _⟩, _⟩ => ⟨o, ho⟩) L F hsc hb RB hR hk hal,
      ⟨s₂.heap, s₂.toks, by rw [e], hkp⟩, fin⟩
end
/-- the lambda as an argument, its key an int or a new tuple -/
structure LamT (X : Cx) (T : Tb) (c P : Addr) (params : Arguments) (body : Expr) (scope : Scope) (p : Str) (g : Kv) (js : List (Str × Nat)) : Prop where
  q : LamQ X T c P params body scope p g js
  rt : RKt X.prog X.w body g
def eBestK (lt : PyData → PyData → Bool) (f : Ev) (js : List (Str × Nat)) (p : Str) (g : Kv) : Ev := fun ρ st => do
  let (x, s1) ← f ρ st
  let d ← rd x s1
  let ds ← seqOf d
  let m ← caps js ρ s1
  let ks ← keysOf g p m ds
  match ds with
  | y :: ys => if alikeB ks then some (.d (bestOf lt (keyAt g p m) y ys), s1) else none
  | [] => none
section
variable {X : Cx} {T : Tb} {a : Expr} {p pos : Pos}
theorem qe_bestK {op : CmpOp} {lt : PyData → PyData → Bool} {nm : Str} {id : String} {f : Ev} {c P : Addr} {params : Arguments} {body : Expr} {scope : Scope} {q : Str} {g : Kv} {js : List (Str × Nat)} {k : Nat} {lpos kpos : Pos}
    (hop : ∀ (A : Around) (s : Shared) (a b : Value) (da db : PyData) (as bs : List Addr), Reads s.heap a da as → Reads s.heap b db bs → PySem.W.alike da db = true → da ≠ .none → A.units + min da.depth db.depth < cLine → PySem.SeqAt.RcOp op A s a b (lt da db))
    (call_ : ∀ {s : Shared} {x : Value} {q : Addr} {Q : Value → Shared → Prop}, wpAny (model X.prog X.w) X.A.in1 (pyIter x) (fun it s₂ => ∃ I fp wr G n P St J V bt, it = .ref I ∧ WalksS X.prog X.w X.A.in1 I fp wr G n P St ∧ St 0 s₂ ∧ (∀ b ∈ fp, b < s₂.heap.objs.size) ∧ 0 < n ∧
      PySem.KeyRun X.prog X.w X.A.in1 (.ref q) op s₂.heap.objs.size wr G n P St J V bt ∧ J s₂ ∧ ∀ v s', P (argBest bt (n - 1)) v → J s' → Q v s') X.xe s → wpAny (model X.prog X.w) X.A (call (.builtin id) [x] [(Str.ofString "key", .ref q)]) Q X.xe s)
    (hb : bootBuiltins nm = some (.builtin id)) (hmn : X.mg nm = none) (hn1 : nm ≠ "__name__") (hn2 : (nm == ("__debug__" : Str)) = false)
    (hc : X.calm = true) (hu : Room k X.A) (hg : Gl X nm) (ha : QE X T a f) (L : LamT X T c P params body scope q g js)
    (hs : starEach [a] X.env = (false, eval a X.env) :: starEach [] X.env)
    (he : backTo pos (starEach [a] X.env) = (false, eval a X.env) :: backTo pos (starEach [] X.env)) (hpl : (backTo pos (starEach [a] X.env)).any (·.1) = false)
    (hall : (backToKw pos (keywordEach [⟨some "key", .Lambda params body scope lpos, kpos⟩] X.env)).all (·.1.isSome) = true) (hnone : (backToKw pos (keywordEach [⟨some "key", .Lambda params body scope lpos, kpos⟩] X.env)).any (·.1.isNone) = false) (hks : (backToKw pos (keywordEach [⟨some "key", .Lambda params body scope lpos, kpos⟩] X.env)).filterMap (·.1) = [("key" : Str)]) :
    QE X T (.Call (.Name nm p) [a] [⟨some "key", .Lambda params body scope lpos, kpos⟩] pos) (eBestK lt f js q g) := by
  refine ⟨⟨fun pins s σ H Q I ⟨ρ, ι, st, r, st', hE, hS, hf, hkq⟩ => ?_⟩⟩
  obtain ⟨⟨x, s1⟩, e1, hf⟩ := bnd hf
  obtain ⟨d, e2, hf⟩ := bnd hf
  obtain ⟨ds, e3, hf⟩ := bnd hf
  obtain ⟨m, e4, hf⟩ := bnd hf
  obtain ⟨ks, e5, hf⟩ := bnd hf
  cases ds with
  | nil => cases hf
  | cons y ys =>
    have hf' : (if alikeB ks = true then some (Vl.d (bestOf lt (keyAt g q m) y ys), s1) else none) = some (r, st') := hf
    split at hf'
    · rename_i ok
      obtain ⟨rfl, rfl⟩ := Prod.mk.inj (Option.some.inj hf')
      obtain ⟨ek, hk⟩ := keysOf_spec e5
      have hal := alikeB_spec ok
      rw [ek] at hal
      refine wpAny_Call_Name_kw (ld_blt I hg hmn hb ?_ hn1 hn2)
      refine PyProof.Rows.callWith_kw (args_cons (thn (ha.pe.run pins s σ H _ I ⟨ρ, ι, st, x, s1, hE, hS, e1, fun v H1 ι1 l1 S1 r1 => (⟨ι1, l1, S1, r1⟩ : ∃ ι1, Le H ι H1 ι1 ∧ SR X.K T H1 ι1 s1 ∧ VlR X.K H1 ι1 v x)⟩) fun u s2 ⟨v, H1, I1, rv, ι1, l1, S1, r1⟩ => args_nil ?_) hs) he hpl hall hnone
      refine kwAll_cons (lam_make3 I1 L.q.tb L.q.code L.q.mem L.q.uni S1.tabs L.q.dfl (lam_free I1.ok L.q.sc) fun f' c' pm ctv H2 s3 I2 g1 g2 T2 hob hco => kwAll_nil ?_)
      rw [hks]
      have l2 : Le H1 ι1 H2 ι1 := le_lam g1 g2
      have S2 := sr_lam S1 g1 g2 T2
      have r2 := r1.le l2
      obtain ⟨l, its, rfl, hR, hl⟩ := items_of I2 (rd_rep S2 r2 e2) rv e3
      have hEx := hE.le (l1.trans l2)
      exact raw_bestK (keyAt g q m) hop call_ hc (by have := hu.un; omega) hu.depth I2 hl hR rfl ⟨_, pm, c', ctv, hob, hco⟩ (frs_at I2 hEx S2 L.q.sc L.q.js e4) L.q.sc L.q.bnd L.rt hk
        (fun d hd d' hd' => hal _ (List.mem_map_of_mem hd) _ (List.mem_map_of_mem hd')) fun v rv => hkq v _ ι1 (l1.trans l2) S2 rv
    · cases hf'
theorem hop_lt : ∀ (A : Around) (s : Shared) (a b : Value) (da db : PyData) (as bs : List Addr), Reads s.heap a da as → Reads s.heap b db bs → PySem.W.alike da db = true → da ≠ .none → A.units + min da.depth db.depth < cLine → PySem.SeqAt.RcOp .Lt A s a b (PySem.W.dataLt da db) :=
  fun A s a b da db as bs r1 r2 h n u => PySem.SeqAt.RcOp.of_lt (PySem.W.rcLt_alike da db A s a b as bs r1 r2 h n u)
theorem hop_gt : ∀ (A : Around) (s : Shared) (a b : Value) (da db : PyData) (as bs : List Addr), Reads s.heap a da as → Reads s.heap b db bs → PySem.W.alike da db = true → da ≠ .none → A.units + min da.depth db.depth < cLine → PySem.SeqAt.RcOp .Gt A s a b (PySem.W.dataLt db da) :=
  fun A s a b da db as bs r1 r2 h n u => PySem.W.rcGt_alike da db A s a b as bs r1 r2 h n u
theorem qe_minK {f : Ev} {c P : Addr} {params : Arguments} {body : Expr} {scope : Scope} {q : Str} {g : Kv} {js : List (Str × Nat)} {k : Nat} {lpos kpos : Pos} (hc : X.calm = true) (hu : Room k X.A) (B : Bls X.mg) (hg : Gl X "min") (ha : QE X T a f) (L : LamT X T c P params body scope q g js)
    (hs : starEach [a] X.env = (false, eval a X.env) :: starEach [] X.env := by rfl)
    (he : backTo pos (starEach [a] X.env) = (false, eval a X.env) :: backTo pos (starEach [] X.env) := by rfl) (hpl : (backTo pos (starEach [a] X.env)).any (·.1) = false := by rfl)
    (hall : (backToKw pos (keywordEach [⟨some "key", .Lambda params body scope lpos, kpos⟩] X.env)).all (·.1.isSome) = true := by rfl) (hnone : (backToKw pos (keywordEach [⟨some "key", .Lambda params body scope lpos, kpos⟩] X.env)).any (·.1.isNone) = false := by rfl) (hks : (backToKw pos (keywordEach [⟨some "key", .Lambda params body scope lpos, kpos⟩] X.env)).filterMap (·.1) = [("key" : Str)] := by rfl) :
    QE X T (.Call (.Name "min" p) [a] [⟨some "key", .Lambda params body scope lpos, kpos⟩] pos) (eBestK PySem.W.dataLt f js q g) :=
  qe_bestK hop_lt call_min_walkK (by decide +kernel) B.min (by decide) (by decide) hc hu hg ha L hs he hpl hall hnone hks
theorem qe_maxK {f : Ev} {c P : Addr} {params : Arguments} {body : Expr} {scope : Scope} {q : Str} {g : Kv} {js : List (Str × Nat)} {k : Nat} {lpos kpos : Pos} (hc : X.calm = true) (hu : Room k X.A) (B : Bls X.mg) (hg : Gl X "max") (ha : QE X T a f) (L : LamT X T c P params body scope q g js)
    (hs : starEach [a] X.env = (false, eval a X.env) :: starEach [] X.env := by rfl)
    (he : backTo pos (starEach [a] X.env) = (false, eval a X.env) :: backTo pos (starEach [] X.env) := by rfl) (hpl : (backTo pos (starEach [a] X.env)).any (·.1) = false := by rfl)
    (hall : (backToKw pos (keywordEach [⟨some "key", .Lambda params body scope lpos, kpos⟩] X.env)).all (·.1.isSome) = true := by rfl) (hnone : (backToKw pos (keywordEach [⟨some "key", .Lambda params body scope lpos, kpos⟩] X.env)).any (·.1.isNone) = false := by rfl) (hks : (backToKw pos (keywordEach [⟨some "key", .Lambda params body scope lpos, kpos⟩] X.env)).filterMap (·.1) = [("key" : Str)] := by rfl) :
    QE X T (.Call (.Name "max" p) [a] [⟨some "key", .Lambda params body scope lpos, kpos⟩] pos) (eBestK (fun a b => PySem.W.dataLt b a) f js q g) :=
  qe_bestK hop_gt call_max_walkK (by decide +kernel) B.max (by decide) (by decide) hc hu hg ha L hs he hpl hall hnone hks
end
end QL

end
section
set_option Elab.async false
set_option linter.all false
set_option autoImplicit false
set_option maxRecDepth 100000
set_option maxHeartbeats 4000000
/-! QF0: set(x), x a list of ints. -/
namespace QL
open PySem PySem.Spec PyProof.Rows L2
section
variable {P : Program} {w : World} {A : Around} {E : Value → Shared → Prop} {s : Shared}
set_option maxRecDepth 100000 in
set_option maxHeartbeats 3200000 in
theorem call_set_lst {l : Addr} {items : Array Value} (ns : List Int) {Q : Value → Shared → Prop} (hh : A.handled = none) (hl : s.heap.IsList l items) (hit : IntsAre items.toList ns) (hb : ns.length + 1 < scanBound)
    (h : ∀ (h' : Heap) (tk c : Nat), SetR w h' s.heap.objs.size (fun j => decide (j ∈ ns)) c → c ≤ ns.length → (∀ b o, s.heap.get? b = some o → h'.get? b = some o) → Q (.ref s.heap.objs.size) { s with heap := h', toks := tk }) :
    wpAny (model P w) A (call (.type "set") [.ref l]) Q E s := by
  have hisz : items.size = ns.length := by
    have q := IntsAre.length hit
    rw [Array.length_toList] at q
    exact q
  obtain ⟨c, tl, hmro⟩ := F.called_set.mro
  have hmade := F.called_set.made
  have hsub := F.called_set.sub
  refine wpAny_call (codeAny_of_tree ?_)
  show wpAny _ _ (callAny (.type "set") _) _ _ _
  refine wpAny_pure ⟨Code.quiet_builtin _ (by decide +kernel), codeAny_builtin F.entry_type_call ?_⟩
  rw [Around.under_plain (weight_type_call_type "set" [.ref l] []) rfl]
  have h1 := F.called_set.notType
  have h2 := F.called_set.canCreate
  have hct := F.typeCall_set_1 (.ref l)
  repeat (any_goals (first | assumption | wp_step))

  refine codeAny_mono (code_set_led1 (.ref l) (E := E) (Q₁ := fun obj s₁ => obj = .ref s.heap.objs.size ∧ s₁ = { s with heap := s.heap.push { cls := .type "set", dict := none, data := .set #[] 0 (.fresh 0 0 (!w.params.followText "set-order")) } }) ⟨rfl, rfl⟩) fun r s₁ hr => ?_
  cases r with
  | error e => exact hr
  | ok fl =>
    cases fl with
    | ret obj =>
      obtain ⟨rfl, rfl⟩ := hr
      have hS : (s.heap.push { cls := .type "set", dict := none, data := .set #[] 0 (.fresh 0 0 (!w.params.followText "set-order")) }).get? s.heap.objs.size = some { cls := .type "set", dict := none, data := .set #[] 0 (.fresh 0 0 (!w.params.followText "set-order")) } := Heap.get?_push_size _ rfl
      have hT : Shared.TypeIs { s with heap := s.heap.push { cls := .type "set", dict := none, data := .set #[] 0 (.fresh 0 0 (!w.params.followText "set-order")) } } (.ref s.heap.objs.size) "set" := ⟨_, hS, rfl⟩
      have hli := F.called_set.init.lookup
      have hbi := F.called_set.init.bind (.ref s.heap.objs.size)
      repeat (any_goals (first | assumption | wp_step))

      refine codeAny_mono (codeAny_call_builtin (R := wants (fun r s₂ => r = .none ∧ ∃ h' tk c, s₂ = { s with heap := h', toks := tk } ∧ SetR w h' s.heap.objs.size (fun j => decide (j ∈ ns)) c ∧ c ≤ ns.length ∧
          (∀ b o, s.heap.get? b = some o → h'.get? b = some o)) E) F.called_set.init.plain F.entry_set_init (check_set_init_1 hT ?_)) fun r₂ s₂ hr₂ => ?_
      · obtain ⟨ol, hol, hcl, nl, hdl⟩ := hl
        obtain ⟨ocls, odict, odata, oslots⟩ := ol
        simp only at hcl hdl
        subst hcl; subst hdl
        have hol' : (s.heap.push { cls := .type "set", dict := none, data := .set #[] 0 (.fresh 0 0 (!w.params.followText "set-order")) }).get? l = some { cls := .type "list", dict := odict, data := .seq items nl, slots := oslots } := Heap.get?_push_of_some _ hol
        have hsls := F.sub_list_set
        have hslf := F.sub_list_frozenset
        have hne : (Value.type "list" == Value.type "dict") = false := by decide
        have hl1 : (s.heap.push { cls := .type "set", dict := none, data := .set #[] 0 (.fresh 0 0 (!w.params.followText "set-order")) }).IsList l items := ⟨_, hol', rfl, nl, rfl⟩
        unfold Builtin.«set.__init__» noKeywords Builtin.Frozenset.updateFrom
        generalize hPI : pyIter = PI
        wp_walk
        subst hPI

        refine wpAny_pyIter_list hl1 ?_
        refine wpAny_bind (wpAny_runValue ?_)
        have hlS : l < s.heap.objs.size := Heap.lt_size hol
        have hh3 : A.in1.in1.in1.handled = none := by simp [hh]
        have hz1 : (s.heap.push { cls := .type "set", dict := none, data := .set #[] 0 (.fresh 0 0 (!w.params.followText "set-order")) }).objs.size = s.heap.objs.size + 1 := Heap.size_push ..
        have hneI : l ≠ (s.heap.push { cls := .type "set", dict := none, data := .set #[] 0 (.fresh 0 0 (!w.params.followText "set-order")) }).objs.size := by
          rw [Heap.size_push]; exact Nat.ne_of_lt (Nat.lt_succ_of_lt hlS)
        have hSf : s.heap.objs.size ∉ [(s.heap.push { cls := .type "set", dict := none, data := .set #[] 0 (.fresh 0 0 (!w.params.followText "set-order")) }).objs.size, l] := by
          rw [Heap.size_push]; simp only [List.mem_cons, List.mem_singleton, List.not_mem_nil, or_false, not_or]
          exact ⟨Nat.ne_of_lt (Nat.lt_succ_self _), Nat.ne_of_gt hlS⟩
        have hval : ∀ (i : Nat) (v : Value), items[i]? = some v → ∃ k t, ns[i]? = some k ∧ v = .int k t := fun i v hv => by
          have hi : i < ns.length := by rw [← hisz]; exact (Array.getElem?_eq_some_iff.mp hv).1
          obtain ⟨t, e⟩ := PyProof.Rows.IntsAre.int_at hit i v (by rw [Array.getElem?_toList]; exact hv)
          refine ⟨ns[i], t, List.getElem?_eq_getElem hi, ?_⟩
          rw [e, List.getD_eq_getElem?_getD, List.getElem?_eq_getElem hi] <;> rfl
        refine set_update_ints ((Walks.list hh3 _ l hneI items).toS) s.heap.objs.size
          hSf ns hisz hb hval (items.size - 0) 0 _ (by omega) (Nat.zero_le _)
          ⟨⟨_, Heap.get?_push_size _ rfl, rfl, rfl⟩, (hl1.push _)⟩ ?hS0 ?hR
        case hS0 =>
          have hget : ((s.heap.push { cls := .type "set", dict := none, data := .set #[] 0 (.fresh 0 0 (!w.params.followText "set-order")) }).push { cls := .type "list_iterator", data := .fields #[.ref l, .int 0 0] }).get? s.heap.objs.size
              = some { cls := .type "set", dict := none, data := .set #[] 0 (.fresh 0 0 (!w.params.followText "set-order")) } := Heap.get?_push_of_some _ hS
          exact ⟨0, Nat.le_refl 0, setR_new_at hget⟩
        case hR =>
          intro s' c' hm hc' hS'
          obtain ⟨h', g2, d', tk', os'⟩ := s'
          have eg : g2 = s.gens := hm.gens
          have ed : d' = s.drawn := hm.drawn
          have eo : os' = s.os := hm.os
          subst eg; subst ed; subst eo
          show wpAny _ _ _ _ _ _
          refine wpAny_pure ?_
          show wpAny _ _ (ret Value.none) _ _ _
          rw [hisz] at hc'
          refine wpAny_pure ⟨rfl, h', tk', c', rfl, hS', hc', fun b o e => ?_⟩
          have hb0 : b < s.heap.objs.size := Heap.lt_size e
          have hb1 : b ≠ s.heap.objs.size := Nat.ne_of_lt hb0
          have hb2 : b ≠ (s.heap.push { cls := .type "set", dict := none, data := .set #[] 0 (.fresh 0 0 (!w.params.followText "set-order")) }).objs.size := by
            rw [Heap.size_push]; exact Nat.ne_of_lt (Nat.lt_succ_of_lt hb0)
          exact hm.heap b o (by simp only [List.mem_cons, List.mem_singleton, List.not_mem_nil, or_false, not_or]; exact ⟨hb1, hb2⟩) (Heap.get?_push_of_some _ (Heap.get?_push_of_some _ e))

      · cases r₂ with
        | error e => exact hr₂
        | ok fl₂ =>
          cases fl₂ with
          | ret r =>
            obtain ⟨rfl, h', tk, c', rfl, hS', hc', hk'⟩ := hr₂
            repeat (any_goals (first | assumption | wp_step))
            exact h _ _ _ hS' hc' hk'
          | _ => exact hr₂.elim
    | _ => exact hr.elim
end
end QL

end
section
set_option Elab.async false
set_option linter.all false
set_option autoImplicit false
set_option maxRecDepth 100000
set_option maxHeartbeats 4000000
/-! QF: sorted(set(x)), sorted(range(..), key=f), max(x), min(x) of data. -/
namespace QL
open PySem PySem.Spec PyProof.Rows L2
/-- put into a strictly increasing list -/
def insI (x : Int) : List Int → List Int
  | [] => [x]
  | y :: l => if x < y then x :: y :: l else if x = y then y :: l else y :: insI x l
def ssetI : List Int → List Int
  | [] => []
  | x :: l => insI x (ssetI l)
theorem insI_mem {x z : Int} : ∀ {l : List Int}, z ∈ insI x l ↔ z = x ∨ z ∈ l
  | [] => by simp [insI]
  | y :: l => by
    unfold insI
    split
    · simp
    · split
      · rename_i e
        subst e
        simp
      · simp [insI_mem (l := l)]
        constructor
        · rintro (h | h | h) <;> simp [h]
        · rintro (h | h | h) <;> simp [h]
theorem insI_lt {x : Int} : ∀ {l : List Int}, l.Pairwise (· < ·) → (insI x l).Pairwise (· < ·)
  | [], _ => by simp [insI]
  | y :: l, h => by
    obtain ⟨h1, h2⟩ := List.pairwise_cons.mp h
    unfold insI
    split
    · rename_i hx
      exact List.pairwise_cons.mpr ⟨fun z hz => by
        rcases List.mem_cons.mp hz with e | e
        · rw [e]; exact hx
        · exact Int.lt_trans hx (h1 z e), h⟩
    · split
      · exact h
      · rename_i a b
        refine List.pairwise_cons.mpr ⟨fun z hz => ?_, insI_lt h2⟩
        rcases insI_mem.mp hz with e | e
        · rw [e]; omega
        · exact h1 z e
theorem ssetI_lt : ∀ l : List Int, (ssetI l).Pairwise (· < ·)
  | [] => .nil
  | _ :: l => insI_lt (ssetI_lt l)
theorem ssetI_mem {z : Int} : ∀ {l : List Int}, z ∈ ssetI l ↔ z ∈ l
  | [] => by simp [ssetI]
  | x :: l => by
    unfold ssetI
    rw [insI_mem, ssetI_mem (l := l)]
    simp
/-- strictly increasing lists of the same members are one -/
theorem lt_unique : ∀ {l m : List Int}, l.Pairwise (· < ·) → m.Pairwise (· < ·) → (∀ z, z ∈ l ↔ z ∈ m) → l = m
  | [], [], _, _, _ => rfl
  | [], y :: m, _, _, h => absurd ((h y).mpr List.mem_cons_self) (by simp)
  | x :: l, [], _, _, h => absurd ((h x).mp List.mem_cons_self) (by simp)
  | x :: l, y :: m, h1, h2, h => by
    obtain ⟨a1, a2⟩ := List.pairwise_cons.mp h1
    obtain ⟨b1, b2⟩ := List.pairwise_cons.mp h2
    have exy : x = y := by
      rcases List.mem_cons.mp ((h x).mp List.mem_cons_self) with e | e
      · exact e
      · rcases List.mem_cons.mp ((h y).mpr List.mem_cons_self) with e' | e'
        · exact e'.symm
        · have := a1 y e'
          have := b1 x e
          omega
    subst exy
    rw [lt_unique a2 b2 fun z => ⟨fun hz => ?_, fun hz => ?_⟩]
    · rcases List.mem_cons.mp ((h z).mp (List.mem_cons_of_mem _ hz)) with e | e
      · have := a1 z hz
        omega
      · exact e
    · rcases List.mem_cons.mp ((h z).mpr (List.mem_cons_of_mem _ hz)) with e | e
      · have := b1 z hz
        omega
      · exact e
section
variable {X : Cx} {T : Tb} {a e : Expr} {p p2 rp pos pos2 : Pos}
def gSSet : GL := fun d => do
  let ds ← seqOf d
  let ns ← intsOf ds
  if ns.length < 64 then some ((ssetI ns).map .int) else none
theorem raw_sset {pins : List (Addr × Obj)} {σ : L2.St} {H : Hp} {s : Shared} {Q : VK} {A : Addr} {ns : List Int} {c : Nat} (hc : X.calm = true) (I : Inv X pins σ H s) (R : SetR X.w s.heap A (fun j => decide (j ∈ ns)) c) (hcn : c ≤ ns.length) (h64 : ns.length < 64)
    (hq : ∀ p, H p = none → Q (.ref p) (upd H p (.lst ((ssetI ns).map V.int)))) : wpAny (model X.prog X.w) X.A (call (.builtin "sorted") [.ref A]) (EP X pins σ Q) X.xe s := by
  refine sorted_set R (I.ok.hd hc) (by omega) fun s' p out c' ms k g o hp hg hi hs hm hl => ?_
  have em : ms = ssetI ns := lt_unique hs (ssetI_lt ns) fun z => by
    rw [hm z, ssetI_mem]
    simp
  subst em
  have hlen : ((ssetI ns).map V.int).length ≤ sizeLine := by rw [List.length_map, hl, sizeLine_eq]; omega
  have hn : H p = none := I.hok.fresh hp
  have J : Inv X pins σ (upd H p (.lst ((ssetI ns).map V.int))) { s with heap := s'.heap, gens := s'.gens, drawn := s'.drawn, toks := s'.toks } :=
    I.call (ch := []) (Un.laid k hp hn) (I.hok.laid k hp ⟨hlen, out.toList, c', vals_of_ints hi, hg⟩) (by rw [g]; exact I.bare) (fun _ z => nomatch z)
  have e : s' = { s with heap := s'.heap, gens := s'.gens, drawn := s'.drawn, toks := s'.toks } := by
    cases s'
    cases s
    cases o
    rfl
  rw [e]
  exact ⟨.ref p, _, J, rfl, hq p hn⟩
theorem ql_sset {f : Ev} (hc : X.calm = true) (B : Bls X.mg) (hg : Gl X "sorted") (hg2 : Gl X "set") (ha : QE X T a f) (hs : starEach [a] X.env = [(false, eval a X.env)] := by rfl)
    (hs2 : starEach [.Call (.Name "set" p2) [a] [] pos2] X.env = [(false, eval (.Call (.Name "set" p2) [a] [] pos2) X.env)] := by rfl) : QL X T (.Call (.Name "sorted" p) [.Call (.Name "set" p2) [a] [] pos2] [] pos) (lOp1 gSSet f) := by
  refine ⟨⟨fun pins s σ H Q I ⟨ρ, ι, st, zs, st', hE, hS, hf, hkq⟩ => ?_⟩⟩
  obtain ⟨⟨x, s1⟩, e1, hf⟩ := bnd hf
  obtain ⟨d, e2, hf⟩ := bnd hf
  obtain ⟨z, e3, hf⟩ := bnd hf
  obtain ⟨rfl, rfl⟩ := Prod.mk.inj (Option.some.inj hf)
  obtain ⟨ds, e4, e3⟩ := bnd e3
  obtain ⟨ns, e5, e3⟩ := bnd e3
  split at e3
  · rename_i h64
    cases e3
    refine Call_ (ld_blt I hg B.sorted PyProof.Rows.boot_sorted (PyProof.Rows.callWith_builtin1 (args_cons (Call_ (ld_blt I hg2 B.set PyProof.Rows.boot_set (PyProof.Rows.callWith_type1 (args_cons (thn (ha.pe.run pins s σ H _ I ⟨ρ, ι, st, x, s1, hE, hS, e1, fun v H1 ι1 l1 S1 r1 => (⟨ι1, l1, S1, r1⟩ : ∃ ι1, Le H ι H1 ι1 ∧ SR X.K T H1 ι1 s1 ∧ VlR X.K H1 ι1 v x)⟩) fun u s2 ⟨v, H1, I1, rv, ι1, l1, S1, r1⟩ => args_nil ?_) hs) hs rfl))) hs2) hs2 rfl))
    have hd := I1.ok.hd hc
    have ed := intsOf_eq e5
    subst ed
    have hq : ∀ p, H1 p = none → Q (.ref p) (upd H1 p (.lst ((ssetI ns).map V.int))) := fun p hp => by
      have hs := same_upd (o := HO.lst ((ssetI ns).map V.int)) hp
      exact hkq p _ _ ι1 (l1.free S1 hp) (l1.trans (Le.same hs)) (S1.same hs) upd_same (nmem_of S1 hp) RepAll.ofInts
    have rr := rd_rep S1 r1 e2
    cases d with
    | list xs =>
      cases e4
      obtain ⟨l, vs, rfl, h1, h2⟩ := rr.list
      cases rv
      have := h2.ints
      subst this
      obtain ⟨its, rvv, pl, hz⟩ := I1.list h1
      have hi : IntsAre its.toArray.toList ns := ints_of_vals rvv
      exact call_set_lst ns hd pl.isList hi (by unfold scanBound; omega) fun h' tk c R1 hcn k => args_nil (raw_sset hc (I1.kept (t' := tk) k) R1 hcn h64 hq)
    | tuple xs =>
      cases e4
      obtain ⟨l, vs, rfl, h1, h2⟩ := rr.tuple
      cases rv
      have := h2.ints
      subst this
      obtain ⟨its, rvv, pl, hz⟩ := I1.tuple h1
      have hi : IntsAre its.toArray.toList ns := ints_of_vals rvv
      exact call_set_tupI ns hd (show s2.heap.IsTuple l its.toArray from pl) hi (by unfold scanBound; omega) fun h' tk c R1 hcn k => args_nil (raw_sset hc (I1.kept (t' := tk) k) R1 hcn h64 hq)
    | _ => cases e4
  · cases e3
end
end QL

end
section
set_option Elab.async false
set_option linter.all false
set_option autoImplicit false
set_option maxRecDepth 100000
set_option maxHeartbeats 4000000
/-! QG: sorted(range(..), key=f), max(x), min(x) of data. -/
namespace QL
open PySem PySem.Spec PyProof.Rows L2
section
variable {X : Cx} {T : Tb} {a e : Expr} {p rp pos rpos : Pos}
def notN (d : PyData) : Bool := match d with
  | .none => false
  | _ => true
def gBest (best : PyData → List PyData → PyData) : G1 := fun d => match seqOf d with
  | some (y :: ys) => if alikeB (y :: ys) && (y :: ys).all notN && decide (PyData.depthAll (y :: ys) ≤ 60) then some (best y ys) else none
  | _ => none
theorem each_readsAll' {pins : List (Addr × Obj)} {s : Shared} {σ : L2.St} {H : Hp} (I : Inv X pins σ H s) : ∀ {its : List Value} {ds : List PyData}, PySem.W.EachIs (ItR X H) its ds → ∃ as, ReadsAll s.heap its ds as
  | _, _, .nil => ⟨[], .nil⟩
  | _, _, .cons h t => by
    obtain ⟨as, h1⟩ := itR_reads I h
    obtain ⟨bs, h2⟩ := each_readsAll' I t
    exact ⟨as ++ bs, .cons h1 h2⟩
theorem foldl_mem {α : Type} {f : α → α → α} (hf : ∀ a b, f a b = a ∨ f a b = b) : ∀ (l : List α) (x : α), l.foldl f x = x ∨ l.foldl f x ∈ l
  | [], _ => .inl rfl
  | y :: l, x => by
    rcases foldl_mem hf l (f x y) with h | h
    · rw [List.foldl_cons, h]
      rcases hf x y with e | e
      · exact .inl e
      · rw [e]; exact .inr List.mem_cons_self
    · rw [List.foldl_cons]; exact .inr (List.mem_cons_of_mem _ h)
theorem maxD_mem (y : PyData) (ys : List PyData) : PySem.W.maxD y ys ∈ y :: ys := by
  unfold PySem.W.maxD
  rcases foldl_mem (f := fun a z => if PySem.W.dataLt a z then z else a) (fun a b => by split <;> simp) ys y with h | h
  · rw [h]; exact List.mem_cons_self
  · exact List.mem_cons_of_mem _ h
theorem minD_mem (y : PyData) (ys : List PyData) : PySem.W.minD y ys ∈ y :: ys := by
  unfold PySem.W.minD
  rcases foldl_mem (f := fun a z => if PySem.W.dataLt z a then z else a) (fun a b => by split <;> simp) ys y with h | h
  · rw [h]; exact List.mem_cons_self
  · exact List.mem_cons_of_mem _ h
def rBestQ (X : Cx) (best : PyData → List PyData → PyData) : List V → Hp → VK → Prop := fun vs H Q => ∃ x d y ys, vs = [x] ∧ RepR X.K H x d ∧ seqOf d = some (y :: ys) ∧ PySem.W.AlikeAll (y :: ys) ∧ PyData.depthAll (y :: ys) ≤ 60 ∧ ∀ v, Rep X.K H v (best y ys) → Q v H
theorem cr_bestQ {id : String} {best : PyData → List PyData → PyData} (hu : X.A.units + 64 < cLine) (hc : X.calm = true) (hm : ∀ y ys, best y ys ∈ y :: ys)
    (hl : ∀ {s : Shared} {l : Addr} {vs : Array Value} {x : PyData} {xs : List PyData} {as : List Addr} {Q : Value → Shared → Prop}, X.A.handled = none → s.heap.IsList l vs → ReadsAll s.heap vs.toList (x :: xs) as → PySem.W.AlikeAll (x :: xs) → X.A.units + 1 + PyData.depthAll (x :: xs) < cLine →
      (∀ (i : Nat) v h' tk bs, vs[i]? = some v → Reads h' v (best x xs) bs → (∀ b o, s.heap.get? b = some o → h'.get? b = some o) → Q v { s with heap := h', toks := tk }) → wpAny (model X.prog X.w) X.A (call (.builtin id) [.ref l]) Q X.xe s)
    (ht : ∀ {s : Shared} {l : Addr} {vs : Array Value} {x : PyData} {xs : List PyData} {as : List Addr} {Q : Value → Shared → Prop}, X.A.handled = none → s.heap.IsTuple l vs → ReadsAll s.heap vs.toList (x :: xs) as → PySem.W.AlikeAll (x :: xs) → X.A.units + 1 + PyData.depthAll (x :: xs) < cLine →
      (∀ (i : Nat) v h' tk bs, vs[i]? = some v → Reads h' v (best x xs) bs → (∀ b o, s.heap.get? b = some o → h'.get? b = some o) → Q v { s with heap := h', toks := tk }) → wpAny (model X.prog X.w) X.A (call (.builtin id) [.ref l]) Q X.xe s) : CallR X (.builtin id) (rBestQ X best) := by
  intro pins s σ H vs us Q I r h
  obtain ⟨x, d, y, ys, rfl, h1, h2, h3, h4, h5⟩ := h
  obtain ⟨u, rfl, ru⟩ := vals1 r
  obtain ⟨l, its, rfl, hR, hsq⟩ := items_of I h1 ru h2
  obtain ⟨as, hr⟩ := each_readsAll' I hR
  have hr' : ReadsAll s.heap its.toArray.toList (y :: ys) as := by simpa using hr
  have fin : ∀ (i : Nat) v h' tk bs, its.toArray[i]? = some v → Reads h' v (best y ys) bs → (∀ b o, s.heap.get? b = some o → h'.get? b = some o) → EP X pins σ Q v { s with heap := h', toks := tk } := fun i v h' tk bs hv r kp => by
    have hv' : its[i]? = some v := by simpa using hv
    have hit := item_at hR hv'
    have hl : i < (y :: ys).length := by rw [← hR.length]; exact (List.getElem?_eq_some_iff.mp hv').1
    have hm' : (y :: ys).getD i .none ∈ y :: ys := by
      rw [List.getD_eq_getElem?_getD, List.getElem?_eq_getElem hl]
      exact List.getElem_mem hl
    obtain ⟨as', r1⟩ := (itR_reads I hit).keeps kp
    have e := PySem.W.alike_unique _ _ _ _ _ (h3.1 _ hm' _ (hm y ys)) r1 r
    obtain ⟨x', rx, rp⟩ := hit
    rw [e] at rp
    exact ⟨x', H, I.kept kp, rx, h5 x' rp⟩
  rcases hsq with hsq | hsq
  · exact hl (I.ok.hd hc) hsq hr' h3 (by omega) fin
  · exact ht (I.ok.hd hc) hsq hr' h3 (by omega) fin
theorem st_best {best : PyData → List PyData → PyData} : StepC1 X.K (rBestQ X best) (gBest best) := fun H v x z Q hx hg hk => by
  unfold gBest at hg
  split at hg
  · rename_i y ys e
    split at hg
    · rename_i ok
      cases hg
      simp only [Bool.and_eq_true, decide_eq_true_eq] at ok
      obtain ⟨⟨ok1, ok2⟩, ok3⟩ := ok
      refine ⟨v, x, y, ys, rfl, hx, e, ⟨alikeB_spec ok1, fun d hd en => ?_⟩, ok3, fun v' rv => hk v' H (Same.refl H) rv⟩
      have := List.all_eq_true.mp ok2 d hd
      rw [en] at this
      cases this
    · cases hg
  · cases hg
theorem qe_maxD {f : Ev} {k : Nat} (hr : Room k X.A) (hc : X.calm = true) (B : Bls X.mg) (hg : Gl X "max") (ha : QE X T a f) (hs : starEach [a] X.env = (false, eval a X.env) :: starEach [] X.env := by rfl) : QE X T (.Call (.Name "max" p) [a] [] pos) (eOp1 (gBest PySem.W.maxD) f) :=
  qe_c1 (fun h => pe_callB (cr_bestQ (by have := hr.un; omega) hc maxD_mem PySem.W.max_list_data PySem.W.max_tuple_data) hg B.max (by decide +kernel) h (he := hs) (hpl := rfl)) st_best ha hs
theorem qe_minD {f : Ev} {k : Nat} (hr : Room k X.A) (hc : X.calm = true) (B : Bls X.mg) (hg : Gl X "min") (ha : QE X T a f) (hs : starEach [a] X.env = (false, eval a X.env) :: starEach [] X.env := by rfl) : QE X T (.Call (.Name "min" p) [a] [] pos) (eOp1 (gBest PySem.W.minD) f) :=
  qe_c1 (fun h => pe_callB (cr_bestQ (by have := hr.un; omega) hc minD_mem PySem.W.min_list_data PySem.W.min_tuple_data) hg B.min (by decide +kernel) h (he := hs) (hpl := rfl)) st_best ha hs
/-! ### sorted(range(n), key=f) -/
theorem itR_rg {H : Hp} {i j : Int} {vs : List Value} (h : Vals (rgV i j) vs) : PySem.W.EachIs (ItR X H) vs (rgD i (j - i).toNat) := itR_of (rgV_rep i j) h
def cRg1 (f : Ev) : Cv := fun ρ st => do
  let (x, s1) ← f ρ st
  match x with
  | .d (.int n) => if rgOkB 0 n then some (rgD 0 (n - 0).toNat, s1) else none
  | _ => none
theorem ql_sortedKRg {f : Ev} {c P : Addr} {params : Arguments} {body : Expr} {scope : Scope} {q : Str} {g : Kv} {js : List (Str × Nat)} {k : Nat} {lpos kpos : Pos} (hc : X.calm = true) (hu : Room k X.A) (B : Bls X.mg) (hg : Gl X "sorted") (hg2 : Gl X "range") (ha : QE X T a f) (L : LamQ X T c P params body scope q g js)
    (hs : starEach [a] X.env = (false, eval a X.env) :: starEach [] X.env := by rfl) (hs2 : starEach [.Call (.Name "range" rp) [a] [] rpos] X.env = (false, eval (.Call (.Name "range" rp) [a] [] rpos) X.env) :: starEach [] X.env := by rfl)
    (he : backTo pos (starEach [.Call (.Name "range" rp) [a] [] rpos] X.env) = (false, eval (.Call (.Name "range" rp) [a] [] rpos) X.env) :: backTo pos (starEach [] X.env) := by rfl) (hpl : (backTo pos (starEach [.Call (.Name "range" rp) [a] [] rpos] X.env)).any (·.1) = false := by rfl)
    (hall : (backToKw pos (keywordEach [⟨some "key", .Lambda params body scope lpos, kpos⟩] X.env)).all (·.1.isSome) = true := by rfl) (hnone : (backToKw pos (keywordEach [⟨some "key", .Lambda params body scope lpos, kpos⟩] X.env)).any (·.1.isNone) = false := by rfl) (hks : (backToKw pos (keywordEach [⟨some "key", .Lambda params body scope lpos, kpos⟩] X.env)).filterMap (·.1) = [("key" : Str)] := by rfl) :
    QL X T (.Call (.Name "sorted" p) [.Call (.Name "range" rp) [a] [] rpos] [⟨some "key", .Lambda params body scope lpos, kpos⟩] pos) (lSortK (cRg1 f) js q g) := by
  refine ⟨⟨fun pins s σ H Q I ⟨ρ, ι, st, zs, st', hE, hS, hf, hkq⟩ => ?_⟩⟩
  obtain ⟨⟨ds, s1⟩, e0, hf⟩ := bnd hf
  obtain ⟨⟨x, s1'⟩, e1, e0⟩ := bnd e0
  obtain ⟨m, e4, hf⟩ := bnd hf
  obtain ⟨ks, e5, hf⟩ := bnd hf
  have hf' : (if (sortOk ks && decide (ds.length ≤ 16777216)) = true then some (ds.mergeSort (PySem.W.dataLe false (keyAt g q m)), s1) else none) = some (zs, st') := hf
  split at hf'
  · rename_i ok
    obtain ⟨rfl, rfl⟩ := Prod.mk.inj (Option.some.inj hf')
    simp only [Bool.and_eq_true, decide_eq_true_eq] at ok
    obtain ⟨ok1, ok2⟩ := ok
    obtain ⟨ek, hk⟩ := keysOf_spec e5
    cases x with
    | loc _ => cases e0
    | d y0 =>
     cases y0 with
     | int n =>
      have e0' : (if rgOkB 0 n = true then some (rgD 0 (n - 0).toNat, s1') else none) = some (ds, s1) := e0
      clear e0
      split at e0'
      · rename_i okr
        have e0 := e0'
        obtain ⟨rfl, rfl⟩ := Prod.mk.inj (Option.some.inj e0)
        refine wpAny_Call_Name_kw (ld_blt I hg B.sorted PyProof.Rows.boot_sorted ?_ (by decide) (by decide))
        refine PyProof.Rows.callWith_kw (args_cons (Call_ (ld_blt I hg2 B.range boot_range (PyProof.Rows.callWith_type1 (args_cons (thn (ha.pe.run pins s σ H _ I ⟨ρ, ι, st, _, _, hE, hS, e1, fun v H1 ι1 l1 S1 r1 => (⟨ι1, l1, S1, r1⟩ : ∃ ι1, Le H ι H1 ι1 ∧ SR X.K T H1 ι1 s1' ∧ VlR X.K H1 ι1 v (.d (.int n)))⟩) fun u s2 ⟨v, H1, I1, rv, ι1, l1, S1, r1⟩ => args_nil ?_) hs) hs rfl))) hs2) he hpl hall hnone
        have r1' : Rep X.K H1 v (.int n) := r1
        cases r1'
        obtain ⟨t, rfl⟩ := rv
        refine call_range_1 (args_nil ?_)
        have hn0 : H1 s2.heap.objs.size = none := I1.hok.fresh (Nat.le_refl _)
        have F0 := I1.fpOk (Nat.le_refl _) hn0
        have I1' := I1.kept (t' := s2.toks + 1 + 1) (h' := s2.heap.push { cls := .type "range", data := .fields #[.int 0 s2.toks, .int n t, .int 1 (s2.toks + 1)] }) fun b o e => Heap.get?_push_of_some _ e
        have I2 := I1'.pins_of (pins' := pins ++ [(s2.heap.objs.size, { cls := .type "range", data := .fields #[.int 0 s2.toks, .int n t, .int 1 (s2.toks + 1)] })]) fun p hp => by
          rcases List.mem_append.mp hp with z | z
          · exact I1'.pin p (List.mem_append_right _ z)
          · rw [List.mem_singleton.mp z]
            exact ⟨Heap.get?_push_size _ rfl, hn0, F0.2.1, F0.2.2.1, fun v z => by cases z⟩
        refine kwAll_cons (lam_make3 I2 L.tb L.code L.mem L.uni S1.tabs L.dfl (lam_free I2.ok L.sc) fun f' c' pm ctv H2 s3 I3 g1 g2 T2 hob hco => kwAll_nil ?_)
        rw [hks]
        have hR := (I3.pin (s2.heap.objs.size, { cls := .type "range", data := .fields #[.int 0 s2.toks, .int n t, .int 1 (s2.toks + 1)] }) (by simp)).1
        have I4 : Inv X pins σ H2 s3 := I3.unpinned
        have l2 : Le H1 ι1 H2 ι1 := le_lam g1 g2
        have S2 := sr_lam S1 g1 g2 T2
        have hEx := hE.le (l1.trans l2)
        have hcol := coll_range (prog := X.prog) (w := X.w) (A := X.A) (s := s3) (a := 0) (b := n) (I4.ok.hd hc) hR (rgOkB_ok okr)
        refine raw_sortedK (keyAt g q m) (by have := hu.un; omega) hu.depth I4 hcol (fun vs h => itR_rg h) ok2 ⟨_, pm, c', ctv, hob, hco⟩ (frs_at I4 hEx S2 L.sc L.js e4) L.sc L.bnd L.rk hk (by rw [← ek]; exact ok1) fun p ys hp ry => ?_
        have hs := same_upd (o := HO.lst ys) hp
        exact hkq p ys _ ι1 (l1.free S1 (free_lam g1 g2 hp)) ((l1.trans l2).trans (Le.same hs)) (S2.same hs) upd_same (nmem_of S2 hp) (RepAll.ext (Ext.same hs) _ _ ry)
      · cases e0'
     | _ => cases e0
  · cases hf'
end
end QL

end
section
set_option Elab.async false
set_option linter.all false
set_option autoImplicit false
set_option maxRecDepth 100000
set_option maxHeartbeats 4000000
/-! QH: xs[i] op= e, powers of a wide base. -/
namespace QL
open PySem PySem.Spec PyProof.Rows L2
section
variable {X : Cx} {T : Tb} {a b e o i : Expr} {pos tpos : Pos}
def gPowW : G2
  | .int i, .int j => if 0 ≤ j ∧ (Builtin.Int.intBits i : Int) * j ≤ 2 ^ 27 then some (.int (i ^ j.toNat)) else none
  | _, _ => none
theorem op_powW : OpR X (binaryOp .Pow) (rI (fun i j => 0 ≤ j ∧ (Builtin.Int.intBits i : Int) * j ≤ 2 ^ 27) fun i j => .int (i ^ j.toNat)) := opI fun _ _ _ _ _ _ _ hc q => pow_int hc.1 hc.2 q
theorem st_powW {K : PySem.W.Frag} : Step2 K (rI (fun i j => 0 ≤ j ∧ (Builtin.Int.intBits i : Int) * j ≤ 2 ^ 27) fun i j => .int (i ^ j.toNat)) gPowW := fun H v u x y z Q hx hy hg hk => by
  unfold gPowW at hg
  split at hg
  · split at hg
    · rename_i hc
      cases hg
      rw [hx.int, hy.int]
      exact ⟨_, _, rfl, rfl, hc, hk _ H (Same.refl H) (.int _)⟩
    · cases hg
  · cases hg
theorem qe_powW {f1 f2 : Ev} (ha : QE X T a f1) (hb : QE X T b f2) : QE X T (.BinOp a .Pow b pos) (eOp2 gPowW f1 f2) := qe_op2 (fun h1 h2 => pe_op op_powW h1 h2) st_powW ha hb
/-! ### xs[i] op= e -/
def rGetL : V → V → Hp → VK → Prop := fun o i H Q => ∃ p xs k j v, o = .ref p ∧ i = .int k ∧ H p = some (.lst xs) ∧ ixN xs.length k = some j ∧ xs[j]? = some v ∧ Q v H
theorem pget_list : PGet X rGetL := by
  intro pins s σ H o i ov iv Q I ro ri h
  obtain ⟨p, xs, k, j, v, rfl, rfl, hp, hj, hv, q⟩ := h
  cases ro
  obtain ⟨t, rfl⟩ := ri
  obtain ⟨its, n, rv, ho, hz⟩ := I.lst hp
  obtain ⟨h1, h2, h3, h4⟩ := ixN_seq hj
  obtain ⟨w, ew, rw'⟩ := rv.get hv
  have hl := rv.length
  have hn := line63
  have hL : s.heap.IsList p its.toArray := ⟨_, ho, rfl, n, rfl⟩
  have fin : EP X pins σ Q w s := ⟨v, H, I, rw', q⟩
  by_cases h0 : 0 ≤ k
  · have hj' : k.toNat = j := by
      rw [seqIndex_of h0 h4] at h1
      exact Option.some.inj h1
    exact wpAny_getItem_list hL h0 (by omega) (by rw [hj']; simpa using ew) fin
  · have hj' : (k + (its.toArray.size : Int)).toNat = j := by
      rw [seqIndex_neg (by omega) h3] at h1
      rw [List.size_toArray, ← hl]
      exact Option.some.inj h1
    exact wpAny_getItem_list_neg hL (by omega) (by rw [List.size_toArray] <;> omega) (by omega) (by rw [hj']; simpa using ew) fin
def sAugIx (g : G2) (fo fi f : Ev) : Ex := fun ρ st => do
  let (o, s1) ← fo ρ st
  let (i, s2) ← fi ρ s1
  match o, i with
  | .loc n, .d (.int k) => match s2[n]? with
    | some (some (.lst ds)) => do
      let j ← ixN ds.length k
      let x ← ds[j]?
      let (y, s3) ← f ρ s2
      let d ← datV y
      let z ← g x d
      match s3[n]? with
      | some (some (.lst es)) => do
        let j' ← ixN es.length k
        some (.nx, ρ, s3.set n (some (.lst (es.set j' z))))
      | _ => none
    | _ => none
  | _, _ => none
theorem qs_augIx {op : Operator} {r : R2} {g : G2} {fo fi f : Ev} (ho : QE X T o fo) (hi : QE X T i fi) (he : QE X T e f) (hop : OpR X (inplaceOp op) r) (hg : Step2 X.K r g)
    (ha : ∀ ov iv new, augStore i ov iv new = (do holding [new, ov, iv] (setItem ov iv new); release [new, ov, iv] []; pure .next) := by intros; rfl) :
    QS X T (.AugAssign (.Subscript o i tpos) op e pos) (sAugIx g fo fi f) := ⟨PS.imp (ps_augS (tip := r) ho.pe hi.pe pget_list he.pe (fun pins s σ H x y v u Q I r1 r2 q => hop pins s σ H x y v u Q I r1 r2 q) set_list ha) fun σ H D ⟨ρ, ι, st, oo, ρ', st', hE, hS, hf, hk⟩ => by
  obtain ⟨⟨ov, s1⟩, e1, hf⟩ := bnd hf
  obtain ⟨⟨iv, s2⟩, e2, hf⟩ := bnd hf
  refine ⟨ρ, ι, st, ov, s1, hE, hS, e1, fun w H1 ι1 l1 S1 r1 => ⟨ρ, ι1, s1, iv, s2, hE.le l1, S1, e2, fun u H2 ι2 l2 S2 r2 => ?_⟩⟩
  cases ov with
  | d y => cases hf
  | loc n =>
    cases iv with
    | loc m => cases hf
    | d y =>
      cases y with
      | int k =>
        have hf' : (match s2[n]? with
          | some (some (.lst ds)) => (ixN ds.length k) >>= fun j => ds[j]? >>= fun x => f ρ s2 >>= fun ys => datV ys.1 >>= fun d => g x d >>= fun z => match ys.2[n]? with
            | some (some (.lst es)) => ixN es.length k >>= fun j' => some (.nx, ρ, ys.2.set n (some (.lst (es.set j' z))))
            | _ => none
          | _ => none) = some (oo, ρ', st') := hf
        split at hf'
        · rename_i ds q
          obtain ⟨j, ej, hf'⟩ := bnd hf'
          obtain ⟨x, ex, hf'⟩ := bnd hf'
          obtain ⟨⟨yv, s3⟩, e3, hf'⟩ := bnd hf'
          obtain ⟨d, e4, hf'⟩ := bnd hf'
          obtain ⟨z, e5, hf'⟩ := bnd hf'
          obtain ⟨a, ha1, ev⟩ := r1.le l2
          subst ev
          obtain ⟨a', ha', vs, hp, ra⟩ := S2.cell n _ q
          rw [ha1] at ha'; cases ha'
          cases r2
          obtain ⟨v0, hv0, rv0⟩ := ra.get' ex
          refine ⟨a, vs, k, j, v0, rfl, rfl, hp, by rw [ra.len]; exact ej, hv0, ?_⟩
          refine ⟨ρ, ι2, s2, yv, s3, (hE.le l1).le l2, S2, e3, fun v1 H3 ι3 l3 S3 r3 => ?_⟩
          dsimp only at hf'
          split at hf'
          · rename_i es q3
            obtain ⟨j', ej', hf'⟩ := bnd hf'
            cases hf'
            cases yv with
            | loc m => cases e4
            | d y1 =>
              cases e4
              refine hg H3 v0 v1 x _ z _ (.inl (Rep.ext l3.ext _ _ rv0)) (.inl r3) e5 fun w5 H5 hs5 r5 => ?_
              have S5 := S3.same hs5
              have l5 := l3.trans (Le.same (ι := ι3) hs5)
              have ha5 : ι3[n]? = some a := pre_get l5.pre ha1
              obtain ⟨a5, ha5', vs5, hp5, ra5⟩ := S5.cell n _ q3
              rw [ha5] at ha5'; cases ha5'
              refine ⟨a, vs5, k, j', rfl, rfl, hp5, by rw [ra5.len]; exact ej', ?_⟩
              have l05 := (l1.trans l2).trans l5
              have l' := l05.put (o := HO.lst (vs5.set j' w5)) (List.mem_of_getElem? ha5) hp5
              exact hk σ _ ι3 l' (hE.le l') (S5.put (ds := es) ha5 hp5 (ra5.set r5 j'))
          · cases hf'
        · cases hf'
      | _ => cases hf⟩
theorem qs_augIxSub {fo fi f : Ev} (ho : QE X T o fo) (hi : QE X T i fi) (he : QE X T e f)
    (ha : ∀ ov iv new, augStore i ov iv new = (do holding [new, ov, iv] (setItem ov iv new); release [new, ov, iv] []; pure .next) := by intros; rfl) : QS X T (.AugAssign (.Subscript o i tpos) .Sub e pos) (sAugIx gSub fo fi f) := qs_augIx ho hi he iop_sub st_sub ha
def gAddI : G2 := fun x y => match x, y with | .int i, .int j => some (.int (i + j)) | _, _ => none
theorem qs_augIxAdd {fo fi f : Ev} (ho : QE X T o fo) (hi : QE X T i fi) (he : QE X T e f)
    (ha : ∀ ov iv new, augStore i ov iv new = (do holding [new, ov, iv] (setItem ov iv new); release [new, ov, iv] []; pure .next) := by intros; rfl) : QS X T (.AugAssign (.Subscript o i tpos) .Add e pos) (sAugIx gAddI fo fi f) := qs_augIx ho hi he iop_add (fun H v u x y z Q hx hy hg hk => by
    unfold gAddI at hg
    split at hg
    · cases hg
      rw [hx.int, hy.int]
      exact ⟨_, _, rfl, rfl, hk _ H (Same.refl H) (.int _)⟩
    · cases hg) ha
end
end QL

end
section
set_option Elab.async false
set_option linter.all false
set_option autoImplicit false
set_option maxRecDepth 100000
set_option maxHeartbeats 4000000
/-! QI: more assignments, scopes by lists, what a head tells of a def. -/
namespace QL
open PySem PySem.Spec PyProof.Rows L2
theorem RmG.u {k : Nat} {A : Around} (r : RmG k A) : A.units + 64 < cLine := by have := r.r.un; omega
/-! ### scopes -/
def scT (sc : Scope) (l : List (Str × NameKind)) : Bool := l.all fun p => decide (sc.names.lookup p.1 = some p.2)
theorem scT_get {sc : Scope} {l : List (Str × NameKind)} (h : scT sc l = true) {i : Nat} {x : Str} {k : NameKind} (hi : l[i]? = some (x, k)) : sc.names.lookup x = some k := by
  unfold scT at h
  have := List.all_eq_true.mp h _ (List.mem_of_getElem? hi)
  exact of_decide_eq_true this
/-! ### a, b, .. = e, f, .. by an own tuple -/
section
variable {X : Cx} {T : Tb} {e a b c : Expr} {pos p : Pos}
def setN : List Nat → List Vl → Rho → Rho
  | i :: is, x :: xs, ρ => setN is xs (ρ.set i (some x))
  | _, _, ρ => ρ
def tVs (K : PySem.W.Frag) (is : List Nat) : TGs := fun vs σ H Q => ∃ ρ ι xs, EnvR K H ι σ ρ ∧ VlsR K H ι vs xs ∧ xs.length = is.length ∧ ∀ σ', EnvR K H ι σ' (setN is xs ρ) → Q σ' H
structure QVs (X : Cx) (es : List Expr) (is : List Nat) : Prop where
  pgs : PGs X es (tVs X.K is)
theorem qvs_nil : QVs X [] [] := ⟨PGs.imp pgs_nil fun vs σ H Q ⟨ρ, ι, xs, hE, hv, hl, hk⟩ => by
  cases xs with
  | nil => cases hv; exact ⟨rfl, hk σ hE⟩
  | cons x xs => simp at hl⟩
theorem qvs_cons {i : Nat} {x : Str} {is : List Nat} {es : List Expr} (hN : X.N.Nodup) (hi : X.N[i]? = some x) (hx : Loc X.env.scope x) (h2 : QVs X es is) (hf : X.fn x = true ∨ X.env.scope.names.lookup x = some .local := by first | exact .inl rfl | exact .inr rfl | assumption)
    (hs : (assignEach (.Name x p :: es) X.env).map (·.2) = assign (.Name x p) X.env :: (assignEach es X.env).map (·.2) := by rfl) : QVs X (.Name x p :: es) (i :: is) := ⟨PGs.imp (pgs_cons (pg_name hN hi hx hf) h2.pgs hs) fun vs σ H Q ⟨ρ, ι, xs, hE, hv, hl, hk⟩ => by
  cases hv with
  | nil => simp at hl
  | @cons v y vs ys h1 h3 => exact ⟨v, vs, rfl, ρ.set i (some y), ι, ys, hE.set h1, h3, by simpa using hl, fun σ' hE' => hk σ' hE'⟩⟩
def sParT (is : List Nat) (g : Evs) : Ex := fun ρ st => do
  let (xs, s1) ← g ρ st
  if xs.length = is.length ∧ xs.length ≤ 16777216 then some (.nx, setN is xs ρ, s1) else none
theorem qs_parT {es ts : List Expr} {is : List Nat} {g : Evs} {k1 k2 : Nat} {p1 p2 : Pos} (hc : X.calm = true) (ha : QA X T es g) (ht : QVs X ts is)
    (hw : swappedStores [.Tuple ts k1 p1] (.Tuple es k2 p2) X.env = pure none) (hn : (assignEach ts X.env).length = is.length := by rfl) (hst : (assignEach ts X.env).findIdx? (·.1) = none := by rfl)
    (hs : swapsWithSole [.Tuple ts k1 p1] (.Tuple es k2 p2) pos.line X.env = pure false := by rfl)
    (h1 : (assignEach [.Tuple ts k1 p1] X.env).map (·.2) = [assign (.Tuple ts k1 p1) X.env] := by rfl) : QS X T (.Assign [.Tuple ts k1 p1] (.Tuple es k2 p2) pos) (sParT is g) :=
  ⟨PS.imp (ps_asg (pe_tup ha.pa) (pg_tup hc ht.pgs hn hst) hs hw h1) fun σ H D ⟨ρ, ι, st, o, ρ', st', hE, hS, hf, hk⟩ => by
    obtain ⟨⟨xs, s1⟩, e1, hf⟩ := bnd hf
    have hf' : (if xs.length = is.length ∧ xs.length ≤ 16777216 then some (Out.nx, setN is xs ρ, s1) else none) = some (o, ρ', st') := hf
    split at hf'
    · rename_i hl
      cases hf'
      refine ⟨ρ, ι, st, xs, _, hE, hS, e1, fun vs H1 ι1 l1 S1 r1 => ⟨by rw [r1.len]; exact size_ok hl.2, fun p hp => ?_⟩⟩
      have hs := same_upd (o := HO.tup vs) hp
      exact ⟨p, vs, rfl, .inl (.inl upd_same), by rw [r1.len]; exact hl.1, ρ, ι1, xs, (hE.le l1).le (Le.same hs), r1.le (Le.same hs), hl.1, fun σ' hE' => hk σ' _ ι1 (l1.trans (Le.same hs)) hE' (S1.same hs)⟩
    · cases hf'⟩
/-! ### name = [.. for ..] on one line -/
theorem own_imp {f : Lv} {σ : L2.St} {H : Hp} {Q : VK} (h : tEv X.K T (eOwn f) σ H Q) : tFr X.K T f σ H Q := by
  obtain ⟨ρ, ι, st, r, st', hE, hS, hf, hk⟩ := h
  obtain ⟨⟨ds, s1⟩, e1, hf⟩ := bnd hf
  cases hf
  refine ⟨ρ, ι, st, ds, s1, hE, hS, e1, fun p vs H' ι' h0 l S hp np ra => hk _ H' (ι' ++ [p]) (l.own h0) (S.own hp np ra) ⟨p, ?_, rfl⟩⟩
  rw [← S.len, List.getElem?_append_right (Nat.le_refl _)]
  simp
theorem lc_imp {own : List Nat} {fi : Lv} {bd : Bd} {t : Tv} {f : Ev} {σ : L2.St} {H : Hp} {Q : VK} (h : tFr X.K T (lComp own fi bd t f) σ H Q) : tLc (tIt X.K T fi) (tBd X.K T own bd) (tTs X.K T t) (tEv X.K T f) own σ H Q := by
  obtain ⟨ρ, ι, st, zs, sE, hE, hS, hf, hk⟩ := h
  obtain ⟨⟨ds, s1⟩, e1, hf⟩ := bnd hf
  have hf' : (if ds.length ≤ 16777216 then compD own bd t f ρ ds s1 else none) = some (zs, sE) := hf
  split at hf'
  · rename_i hz
    refine ⟨ρ, ι, st, ds, s1, hE, hS, e1, fun J H1 ι1 l1 S1 W D hD => ?_⟩
    exact comp_turns W (hE.le l1) S1 hD hz hf' fun vs H' ι' l S hH nD ra => hk D vs H' ι' (l1.free S1 hD) (l1.trans l) S hH nD ra
  · cases hf'
def blkB (N : List Str) (sc scope : Scope) (own : List (Str × Nat)) : Bool :=
  decide (scope.kind = .function) && scope.names.all (fun y => decide (scope.names.lookup y.1 = some y.2)) && own.all (fun p => decide (N[p.2]? = some p.1)) &&
  scope.names.all (fun y => !decide (y.2 = .free) || decide (sc.names.lookup y.1 = some .cell) || decide (sc.names.lookup y.1 = some .free)) &&
  scope.names.all (fun y => !(decide (y.2 = .local) || decide (y.2 = .cell)) || (own.map (·.1)).contains y.1 || !N.contains y.1)
theorem blkB_ok {N : List Str} {sc scope : Scope} {own : List (Str × Nat)} (h : blkB N sc scope own = true) : BlkOk N sc scope own := by
  unfold blkB at h
  simp only [Bool.and_eq_true, List.all_eq_true, Bool.or_eq_true, Bool.not_eq_true', decide_eq_true_eq, decide_eq_false_iff_not] at h
  obtain ⟨⟨⟨⟨h1, h2⟩, h3⟩, h4⟩, h5⟩ := h
  refine ⟨h1, h2, h3, fun y hy e => ?_, fun y hy e => ?_⟩
  · rcases h4 y hy with (z | z) | z
    · exact absurd e z
    · exact .inl z
    · exact .inr z
  · rcases h5 y hy with (z | z) | z
    · rw [Bool.or_eq_false_iff, decide_eq_false_iff_not, decide_eq_false_iff_not] at z
      rcases e with e | e
      · exact absurd e z.1
      · exact absurd e z.2
    · exact .inl (by simpa using z)
    · exact .inr (by simpa using z)
/-- [.. for ..], the block's scope told by a list -/
theorem ql_compS {elt tg iter : Expr} {ifs : List Expr} {scope : Scope} {own : List (Str × Nat)} {fi : Lv} {bd : Bd} {t : Tv} {f : Ev} {l : List (Str × NameKind)} (hc : X.calm = true) (hN : X.N.Nodup) (ok : blkB X.N X.env.scope scope own = true) (hl : scT (relabel scope X.env) l = true) (hi : QI X T tg iter fi)
    (hg : scT (relabel scope X.env) l = true → ∀ (s : Shared) (H : Hp) (C : Addr) (cl : List (Str × Addr)) (fp : List Addr), QG (X.blk s H scope (compEnvC scope cl C X.env) fp) T tg (own.map (·.2)) bd)
    (ht : scT (relabel scope X.env) l = true → ∀ (s : Shared) (H : Hp) (C : Addr) (cl : List (Str × Addr)) (fp : List Addr), QTs (X.blk s H scope (compEnvC scope cl C X.env) fp) T ifs t)
    (he : scT (relabel scope X.env) l = true → ∀ (s : Shared) (H : Hp) (C : Addr) (cl : List (Str × Addr)) (fp : List Addr), QE (X.blk s H scope (compEnvC scope cl C X.env) fp) T elt f)
    (hs : ∀ x, foldedSetIterable iter X.env x = pure x := by intro _; rfl) : QL X T (.ListComp elt [⟨tg, iter, ifs, 0⟩] scope pos) (lComp (own.map (·.2)) fi bd t f) :=
  ql_comp hc hN (blkB_ok ok) hi (hg hl) (ht hl) (he hl) hs
theorem qs_setLc {i : Nat} {y : Str} {py pos2 : Pos} {elt tg iter : Expr} {ifs : List Expr} {scope : Scope} {own : List (Str × Nat)} {fi : Lv} {bd : Bd} {t : Tv} {f : Ev} {l : List (Str × NameKind)} (hc : X.calm = true) (hN : X.N.Nodup) (hy : X.N[i]? = some y) (hyl : X.env.scope.names.lookup y = some .local)
    (hk : X.env.scope.kind = .function) (hln : (py.line == pos2.line) = true) (hnl : (scope.names.any fun (n, k) => n == y && (k == .local || k == .cell)) = false) (ok : blkB X.N X.env.scope scope own = true) (hl : scT (relabel scope X.env) l = true) (hi : QI X T tg iter fi)
    (hg : scT (relabel scope X.env) l = true → ∀ (s : Shared) (H : Hp) (C : Addr) (cl : List (Str × Addr)) (fp : List Addr), QG (X.blk s H scope (compEnvC scope cl C X.env) fp) T tg (own.map (·.2)) bd)
    (ht : scT (relabel scope X.env) l = true → ∀ (s : Shared) (H : Hp) (C : Addr) (cl : List (Str × Addr)) (fp : List Addr), QTs (X.blk s H scope (compEnvC scope cl C X.env) fp) T ifs t)
    (he : scT (relabel scope X.env) l = true → ∀ (s : Shared) (H : Hp) (C : Addr) (cl : List (Str × Addr)) (fp : List Addr), QE (X.blk s H scope (compEnvC scope cl C X.env) fp) T elt f)
    (hs : ∀ x, foldedSetIterable iter X.env x = pure x := by intro _; rfl) : QS X T (.Assign [.Name y py] (.ListComp elt [⟨tg, iter, ifs, 0⟩] scope pos2) pos) (sAsg (eOwn (lComp (own.map (·.2)) fi bd t f)) (bName i)) :=
  ⟨PS.imp (ps_setLc hc hN hy hyl (sw_true hk hyl hln hnl) hi.pi (blkB_ok ok) (fun s H C cl fp => (hg hl s H C cl fp).pg) (fun s H C cl fp => (ht hl s H C cl fp).pt) (fun s H C cl fp => (he hl s H C cl fp).pe) hs) fun σ H D ⟨ρ, ι, st, o, ρ', st', hE, hS, hf, hk⟩ => by
    obtain ⟨⟨x, s1⟩, e1, hf⟩ := bnd hf
    obtain ⟨⟨ρ1, s2⟩, e2, hf⟩ := bnd hf
    cases hf
    cases e2
    exact lc_imp (own_imp ⟨ρ, ι, st, x, _, hE, hS, e1, fun v H1 ι1 l1 S1 r1 => hk _ H1 ι1 l1 ((hE.le l1).set r1) S1⟩)⟩
end
/-! ### what is known of a def, of a lambda's table -/
structure DefF (K : PySem.W.Frag) (mg : Str → Option Value) (st : Stmt) (x : Str) (ps : List Str) (f : Addr) (fd : FuncData) : Prop where
  hm : mg x = some (.ref f)
  F : FunD K x x (C8.fnArgs st) (C8.fnBody st) (C8.fnScope st) [] [] f fd
  hb : L2.Binds K fd ps []
structure LamF (base : Heap) (mg : Str → Option Value) (T : Tb) (x : Str) (fd : FuncData) (c P : Addr) : Prop where
  code : fd.code = .ref c
  tb : LamX.TabB base mg c P
  mem : (P, (x ++ ".<locals>.") ++ "<lambda>") ∈ T
  uni : ∀ q ∈ T, q.1 = P → q.2 = (x ++ ".<locals>.") ++ "<lambda>"
end QL

end
section
set_option Elab.async false
set_option linter.all false
set_option autoImplicit false
set_option maxRecDepth 100000
set_option maxHeartbeats 4000000
/-! QJ: [.. for x in xs], xs a cell that stays as it is. -/
namespace QL
open PySem PySem.Spec PyProof.Rows L2
variable {T : Tb}
open Classical in
noncomputable def compC (n : Nat) (dc : List PyData) (own : List Nat) (b : Bd) (t : Tv) (f : Ev) (ρ : Rho) : List PyData → Sto → Option (List PyData × Sto)
  | [], st => match st[n]? with
    | some (some (.lst ds')) => if ds' = dc then some ([], st) else none
    | _ => none
  | d :: ds, st => match st[n]? with
    | some (some (.lst ds')) => if ds' = dc then do
        let (ρ1, s1) ← b (.d d) (wipeR ρ own) st
        let (z, s2) ← t ρ1 s1
        if z = true then do
          let (x, s3) ← f ρ1 s2
          let y ← datV x
          let (ys, s4) ← compC n dc own b t f ρ ds (s3.take st.length)
          some (y :: ys, s4)
        else compC n dc own b t f ρ ds (s2.take st.length)
      else none
    | _ => none
theorem compC_nil {n : Nat} {dc : List PyData} {own : List Nat} {b : Bd} {t : Tv} {f : Ev} {ρ : Rho} {st : Sto} {r : List PyData × Sto} (h : compC n dc own b t f ρ [] st = some r) : st[n]? = some (some (.lst dc)) ∧ some (([] : List PyData), st) = some r := by
  rw [compC.eq_def] at h
  dsimp only at h
  split at h
  · rename_i ds' q
    split at h
    · rename_i e
      subst e
      exact ⟨q, h⟩
    · cases h
  · cases h
theorem compC_cons {n : Nat} {dc : List PyData} {own : List Nat} {b : Bd} {t : Tv} {f : Ev} {ρ : Rho} {st : Sto} {d : PyData} {ds : List PyData} {r : List PyData × Sto} (h : compC n dc own b t f ρ (d :: ds) st = some r) : st[n]? = some (some (.lst dc)) ∧
    (b (.d d) (wipeR ρ own) st >>= fun q1 => t q1.1 q1.2 >>= fun q2 => if q2.1 = true then f q1.1 q2.2 >>= fun q3 => datV q3.1 >>= fun y => compC n dc own b t f ρ ds (q3.2.take st.length) >>= fun q4 => some (y :: q4.1, q4.2) else compC n dc own b t f ρ ds (q2.2.take st.length)) = some r := by
  rw [compC.eq_def] at h
  dsimp only at h
  split at h
  · rename_i ds' q
    split at h
    · rename_i e
      subst e
      exact ⟨q, h⟩
    · cases h
  · cases h
noncomputable def lCompC (own : List Nat) (i : Nat) (b : Bd) (t : Tv) (f : Ev) : Lv := fun ρ st => match ρ[i]? with
  | some (some (.loc n)) => match st[n]? with
    | some (some (.lst ds)) => if ds.length ≤ 16777216 then compC n ds own b t f ρ ds st else none
    | _ => none
  | _ => none
/-- the turns of a comprehension over a cell -/
theorem comp_turnsC {own : List Nat} {b : Bd} {t : Tv} {f : Ev} {K : PySem.W.Frag} {n : Nat} {a : Addr} {dc ds : List PyData} {H0 : Hp} {ι0 : List Addr} {s0 : Sto} {ρ : Rho} {σ : L2.St} {D : Addr} {Q : VK} {zs : List PyData} {sE : Sto}
    (hdc : dc = ds) (hna : ι0[n]? = some a) (hE : EnvR K H0 ι0 σ ρ) (hS : SR K T H0 ι0 s0) (hD : H0 D = none) (hz : ds.length ≤ 16777216) (hf : compC n dc own b t f ρ ds s0 = some (zs, sE))
    (hk : ∀ vs H' ι', Le H0 ι0 H' ι' → SR K T H' ι' sE → H' D = some (.lst vs) → D ∉ ι' → RepAll K H' vs zs → Q (.ref D) H') :
    ∃ Wd : Nat → Nat → Hp → Prop, (∃ m, Wd 0 m (upd H0 D (.lst []))) ∧ ∀ i m H, Wd i m H →
      ((Itl K a).stop i H ∧ Q (.ref D) H) ∨ ((Itl K a).go i H ∧ ∃ Nx : Hp → Prop, (∀ H', Nx H' → ∃ m', m' < m ∧ Wd (i + 1) m' H') ∧ ∀ x H', (Itl K a).yld i H x H' → tBd K T own b x (wipe σ own) H' fun σ2 H2 => wipe σ2 own = wipe σ own ∧ tTs K T t σ2 H2 fun z H3 =>
        if z = true then tEv K T f σ2 H3 fun y H4 => ∃ acc, H4 D = some (.lst acc) ∧ acc.length < sizeLine ∧ Nx (upd H4 D (.lst (acc ++ [y]))) else Nx H3) := by
  refine ⟨fun i m H => m = ds.length - i ∧ i ≤ ds.length ∧ ∃ (ι : List Addr) (st : Sto) (vs : List V) (ys : List PyData) (rest : List PyData), Le H0 ι0 H ι ∧ SR K T H ι st ∧ H D = some (.lst vs) ∧ D ∉ ι ∧ vs.length ≤ i ∧ RepAll K H vs ys ∧
      compC n dc own b t f ρ (ds.drop i) st = some (rest, sE) ∧ zs = ys ++ rest, ⟨ds.length, by simp, Nat.zero_le _, ι0, s0, [], [], zs, Le.same (same_upd hD), hS.same (same_upd hD), upd_same, nmem_of hS hD, Nat.le_refl _, .nil, hf, rfl⟩, ?_⟩
  rintro i m H ⟨rfl, hi, ι, st, vs, ys, rest, l, S, hH, nD, hv, ra, hc, ez⟩
  by_cases hlt : i < ds.length
  · have hd : ds[i]? = some ds[i] := List.getElem?_eq_getElem hlt
    have hdr : ds.drop i = ds[i] :: ds.drop (i + 1) := List.drop_eq_getElem_cons hlt
    rw [hdr] at hc
    obtain ⟨hchk, hc⟩ := compC_cons hc
    obtain ⟨a2, ha2, vc, hpc, rac⟩ := S.cell n _ hchk
    rw [pre_get l.pre hna] at ha2; cases ha2
    rw [hdc] at rac
    have hvc : i < vc.length := by rw [rac.len]; exact hlt
    obtain ⟨⟨ρ1, s1⟩, e1, hc⟩ := bnd hc
    obtain ⟨⟨z, s2⟩, e2, hc⟩ := bnd hc
    refine .inr ⟨⟨vc, vc[i], SqL.of hpc, List.getElem?_eq_getElem hvc⟩, fun H' => ∃ (ι' : List Addr) (st' : Sto) (vs' : List V) (ys' rest' : List PyData), Le H0 ι0 H' ι' ∧ SR K T H' ι' st' ∧ H' D = some (.lst vs') ∧ D ∉ ι' ∧ vs'.length ≤ i + 1 ∧ RepAll K H' vs' ys' ∧
      compC n dc own b t f ρ (ds.drop (i + 1)) st' = some (rest', sE) ∧ zs = ys' ++ rest', fun H' hN => ?_, fun x H' hy => ?_⟩
    · obtain ⟨ι', st', vs', ys', rest', h⟩ := hN
      exact ⟨ds.length - (i + 1), by omega, rfl, by omega, ι', st', vs', ys', rest', h⟩
    · obtain ⟨hs, rx⟩ : Same H H' ∧ Rep K H' x ds[i] := by
        obtain ⟨q1, q2⟩ := hy
        subst q1
        obtain ⟨w0, h1, h2⟩ := rac.get' hd
        have q3 := q2 vc (SqL.of hpc)
        rw [h1] at q3
        cases q3
        exact ⟨Same.refl _, h2⟩
      have lH : Le H0 ι0 H' ι := l.trans (Le.same hs)
      have SH := S.same hs
      have hH' : H' D = some (.lst vs) := hs _ _ hH
      have step : ∀ {H2 : Hp} {ι2 : List Addr}, Le H' ι H2 ι2 → H2 D = some (.lst vs) ∧ D ∉ ι2 := fun {H2 ι2} l2 => ⟨l2.fr D _ hH' (fun ps z => by cases z) nD, fun hm => by
        have := l2.new D hm nD
        rw [hH'] at this; cases this⟩
      refine ⟨wipeR ρ own, ι, st, .d ds[i], ρ1, s1, (hE.le lH).wipe own, SH, rx, e1, fun σ1 H1 ι1 l1 E1 S1 w1 => ⟨w1.trans (wipe_wipe σ own), ρ1, ι1, s1, z, s2, E1, S1, e2, fun H2 ι2 l2 S2 => ?_⟩⟩
      have l12 := l1.trans l2
      cases z with
      | true =>
        refine iteT ?_
        have hc' : (f ρ1 s2 >>= fun q => datV q.1 >>= fun y => compC n dc own b t f ρ (ds.drop (i + 1)) (q.2.take st.length) >>= fun r => some (y :: r.1, r.2)) = some (rest, sE) := hc
        obtain ⟨⟨y, s3⟩, e3, hc'⟩ := bnd hc'
        obtain ⟨d, e4, hc'⟩ := bnd hc'
        obtain ⟨⟨rest', s4⟩, e5, hc'⟩ := bnd hc'
        cases hc'
        refine ⟨ρ1, ι2, s2, y, s3, E1.le l2, S2, e3, fun v H4 ι4 l4 S4 r4 => ?_⟩
        cases y with
        | loc n => cases e4
        | d y =>
          cases e4
          have l14 := l12.trans l4
          obtain ⟨h4, n4⟩ := step l14
          have hvl : vs.length < 16777216 := by omega
          have x4 : Ext H4 (upd H4 D (.lst (vs ++ [v]))) := ext_but h4
          have xH : Ext H' (upd H4 D (.lst (vs ++ [v]))) := l14.ext.trans x4
          refine ⟨vs, h4, hvl, ι4.take st.length, s3.take st.length, vs ++ [v], ys ++ [d], rest', ?_, ?_, upd_same, ?_, ?_, ?_, e5, ?_⟩
          · have q := (lH.trans l14).upd (o := HO.lst (vs ++ [v])) hD
            refine ⟨q.ext, ?_, q.fr, q.tb, fun b hb hm => q.new b (List.mem_of_mem_take hb) hm⟩
            have p1 : ι <+: ι4 := l14.pre
            have p2 := pre_take p1
            rw [S.len] at p2
            exact l.pre.trans p2
          · exact (S4.but h4 n4).take _
          · exact fun hm => n4 (List.mem_of_mem_take hm)
          · rw [List.length_append]; simp; omega
          · exact (RepAll.ext ((Ext.same hs).trans xH) _ _ ra).app (.cons (Rep.ext x4 _ _ r4) .nil)
          · rw [ez]; simp
      | false =>
        refine iteF ?_
        have hc' : compC n dc own b t f ρ (ds.drop (i + 1)) (s2.take st.length) = some (rest, sE) := hc
        obtain ⟨h2, n2⟩ := step l12
        refine ⟨ι2.take st.length, s2.take st.length, vs, ys, rest, ?_, S2.take _, h2, fun hm => n2 (List.mem_of_mem_take hm), by omega, RepAll.ext ((Ext.same hs).trans l12.ext) _ _ ra, hc', ez⟩
        have q := lH.trans l12
        refine ⟨q.ext, ?_, q.fr, q.tb, fun b hb hm => q.new b (List.mem_of_mem_take hb) hm⟩
        have p2 := pre_take l12.pre
        rw [S.len] at p2
        exact l.pre.trans p2
  · have e : i = ds.length := by omega
    subst e
    rw [List.drop_length] at hc
    obtain ⟨hchk, hc⟩ := compC_nil hc
    obtain ⟨a2, ha2, vc, hpc, rac⟩ := S.cell n _ hchk
    rw [pre_get l.pre hna] at ha2; cases ha2
    rw [hdc] at rac
    cases hc
    rw [List.append_nil] at ez
    subst ez
    exact .inl ⟨⟨vc, SqL.of hpc, by rw [rac.len]; exact Nat.le_refl _⟩, hk vs H ι l S hH nD ra⟩

section
variable {X : Cx} {pos ip : Pos}
theorem ql_compC {elt tg : Expr} {x : Str} {i : Nat} {ifs : List Expr} {scope : Scope} {own : List (Str × Nat)} {bd : Bd} {t : Tv} {f : Ev} {l : List (Str × NameKind)} (hc : X.calm = true) (hN : X.N.Nodup) (hi : X.N[i]? = some x) (hv : Vis X.env.scope x) (ok : blkB X.N X.env.scope scope own = true) (hl : scT (relabel scope X.env) l = true)
    (hg : scT (relabel scope X.env) l = true → ∀ (s : Shared) (H : Hp) (C : Addr) (cl : List (Str × Addr)) (fp : List Addr), QG (X.blk s H scope (compEnvC scope cl C X.env) fp) T tg (own.map (·.2)) bd)
    (ht : scT (relabel scope X.env) l = true → ∀ (s : Shared) (H : Hp) (C : Addr) (cl : List (Str × Addr)) (fp : List Addr), QTs (X.blk s H scope (compEnvC scope cl C X.env) fp) T ifs t)
    (he : scT (relabel scope X.env) l = true → ∀ (s : Shared) (H : Hp) (C : Addr) (cl : List (Str × Addr)) (fp : List Addr), QE (X.blk s H scope (compEnvC scope cl C X.env) fp) T elt f)
    (hs : ∀ y, foldedSetIterable (.Name x ip) X.env y = pure y := by intro _; rfl) (hd : (x == ("__debug__" : Str)) = false := by decide) (hcd : (x == ("__classdict__" : Str)) = false := by decide) : QL X T (.ListComp elt [⟨tg, .Name x ip, ifs, 0⟩] scope pos) (lCompC (own.map (·.2)) i bd t f) :=
  ⟨PE.imp (pe_lc (g := tBd X.K T (own.map (·.2)) bd) (tt := tTs X.K T t) (te := tEv X.K T f) hc hN (pi_list (qe_var (T := T) (pos := ip) hi hv hd hcd).pe) (blkB_ok ok) (fun s H C cl fp => (hg hl s H C cl fp).pg) (fun s H C cl fp => (ht hl s H C cl fp).pt) (fun s H C cl fp => (he hl s H C cl fp).pe) hs) fun σ H Q ⟨ρ, ι, st, zs, sE, hE, hS, hf, hk⟩ => by
    unfold lCompC at hf
    split at hf
    · rename_i n q
      split at hf
      · rename_i ds q2
        split at hf
        · rename_i hz
          refine ⟨ρ, ι, st, .loc n, st, hE, hS, by unfold eVar; rw [q], fun v H1 ι1 l1 S1 r1 => ?_⟩
          obtain ⟨a, ha, ev⟩ := r1
          subst ev
          obtain ⟨a2, ha2, vs, hp, ra⟩ := S1.cell n _ q2
          rw [ha] at ha2; cases ha2
          refine ⟨a, rfl, ⟨vs, SqL.of hp⟩, fun D hD => ?_⟩
          exact comp_turnsC rfl ha (hE.le l1) S1 hD hz hf fun vs H' ι' l S hH nD ra => hk D vs H' ι' (l1.free S1 hD) (l1.trans l) S hH nD ra
        · cases hf
      · cases hf
    · cases hf⟩
end
end QL

end
section
set_option Elab.async false
set_option linter.all false
set_option autoImplicit false
set_option maxRecDepth 100000
set_option maxHeartbeats 4000000
/-! QK: for what is printed. -/
namespace QL
open PySem PySem.Spec PyProof.Rows L2
def cSeq (f : Ev) : Cv := fun ρ st => do
  let (x, s1) ← f ρ st
  let d ← rd x s1
  let ds ← seqOf d
  some (ds, s1)
def jsB (N : List Str) (scope : Scope) (js : List (Str × Nat)) : Bool := js.all fun y => decide (scope.names.lookup y.1 = some .free) && decide (N[y.2]? = some y.1)
section
variable {X : Cx} {T : Tb} {e : Expr} {pos : Pos}
theorem lamT_of {c P : Addr} {params : Arguments} {body : Expr} {scope : Scope} {p x : Str} {g : Kv} {js : List (Str × Nat)} {fd : FuncData} (LF : LamF X.base X.mg T x fd c P) (hcode : X.env.code = .ref c) (hdef : defaultsOf params X.env = ([], [])) (hsc : lamOk X.env.scope scope p = true)
    (hb : ∀ (q : Str) (cl : List (Str × Addr)) (pm cv ctv v : Value), bindArgs (PySem.W.kla_fn "<lambda>" q params body scope cl pm cv ctv) ⟨[v], []⟩ = pure [(p, v)]) (hjs : jsB X.N scope js = true) (rt : RKt X.prog X.w body g) (hq : X.env.qual = x ++ ".<locals>." := by rfl) : LamT X T c P params body scope p g js :=
  ⟨⟨LF.tb, hcode, by rw [hq]; exact LF.mem, by rw [hq]; exact LF.uni, hdef, hsc, hb, rt.rk, fun y hy => by
    have := List.all_eq_true.mp hjs y hy
    simpa [Bool.and_eq_true, decide_eq_true_eq] using this⟩, rt⟩
theorem qe_isiI {a : Expr} {p p2 : Pos} {C : String} {f : Ev} {x : Str} (B : Bls X.mg) (hC : C ∈ ["int", "bool", "str", "list", "tuple", "dict"]) (hg : Gl X "isinstance") (hg2 : Gl X x) (hm : X.mg x = none) (hv : bootBuiltins x = some (.type C)) (ha : QE X T a f) (hn : x ≠ "__name__") (hd : (x == ("__debug__" : Str)) = false)
    (hs : starEach [a, .Name x p2] X.env = (false, eval a X.env) :: starEach [.Name x p2] X.env := by rfl) : QE X T (.Call (.Name "isinstance" p) [a, .Name x p2] [] pos) (eOp1 (gIsi C) f) := qe_isi C B hC hg hg2 hm hv ha hn hd hs
theorem qs_augAddI {i : Nat} {x : Str} {f : Ev} {p' : Pos} (hN : X.N.Nodup) (hi : X.N[i]? = some x) (hx : Loc X.env.scope x) (he : QE X T e f) (hf : X.fn x = true ∨ X.env.scope.names.lookup x = some .local) :
    QS X T (.AugAssign (.Name x p') .Add e pos) (sAug i gAddI f) := qs_augAdd hN hi hx he hf
end
end QL

end
section
set_option Elab.async false
set_option linter.all false
set_option autoImplicit false
set_option maxRecDepth 100000
set_option maxHeartbeats 4000000
/-! QN: list + list. -/
namespace QL
open PySem PySem.Spec PyProof.Rows L2
section
variable {X : Cx} {T : Tb} {e a b c : Expr} {f g h : Ev} {pos : Pos}
def rCatL (K : PySem.W.Frag) : R2 := fun x y H Q => ∃ l b xs zs, x = .ref l ∧ y = .ref b ∧ SqL K H l xs ∧ SqL K H b zs ∧ xs.length + zs.length ≤ sizeLine ∧ ∀ p, H p = none → Q (.ref p) (upd H p (.lst (xs ++ zs)))
theorem op_catL : OpR X (binaryOp .Add) (rCatL X.K) := by
  intro pins s σ H x y v u Q I rx ry h
  obtain ⟨l, b, xs, zs, rfl, rfl, hH, hB, hz, q⟩ := h
  cases rx
  cases ry
  obtain ⟨its, r, ⟨⟨cls, dd, data, sl⟩, n, ho, hc, hd, hs⟩, hz1⟩ := I.list hH
  obtain ⟨its2, r2, ⟨⟨cls2, dd2, data2, sl2⟩, n2, ho2, hc2, hd2, hs2⟩, hz2⟩ := I.list hB
  simp only at hc hd hs hc2 hd2 hs2
  subst hc hd hs hc2 hd2 hs2
  have l1 := r.length
  have l2 := r2.length
  have ea : its.toArray ++ its2.toArray = (its ++ its2).toArray := by simp
  refine concat_meets ⟨_, ho, rfl⟩ ⟨_, ho2, rfl⟩ noFill_list_add seq_list_add PySem.F.slot_list_add PySem.F.entry_list_add (PySem.F.args_list_add_2 _ _) (list_addW l b its.toArray its2.toArray n n2 _ _ sl sl2 (by simp only [List.size_toArray]; omega)) ⟨ho, ho2, ?_⟩
  rw [ea]
  refine ⟨.ref s.heap.objs.size, _, I.laid (t' := s.toks) (o := .lst (xs ++ zs)) (fun b ob q => Heap.get?_push_of_some _ q) (Nat.le_refl _) ?_, rfl, q _ (I.hok.fresh (Nat.le_refl _))⟩
  exact ⟨by rw [List.length_append]; exact hz, _, 0, r.append r2, Heap.get?_push_size _ rfl⟩
def lAdd (f1 f2 : Ev) : Lv := fun ρ st => do
  let (x, s1) ← f1 ρ st
  let (y, s2) ← f2 ρ s1
  match rd x s2, rd y s2 with
  | some (.list xs), some (.list ys) => if xs.length + ys.length ≤ 16777216 then some (xs ++ ys, s2) else none
  | _, _ => none
theorem ql_addL {f1 f2 : Ev} (ha : QE X T a f1) (hb : QE X T b f2) : QL X T (.BinOp a .Add b pos) (lAdd f1 f2) :=
  ⟨PE.imp (pe_op op_catL ha.pe hb.pe) fun σ H Q ⟨ρ, ι, st, r, st', hE, hS, hf, hk⟩ => by
    obtain ⟨⟨x, s1⟩, e1, hf⟩ := bnd hf
    obtain ⟨⟨y, s2⟩, e2, hf⟩ := bnd hf
    refine ⟨ρ, ι, st, x, s1, hE, hS, e1, fun v H1 ι1 l1 S1 r1 => ⟨ρ, ι1, s1, y, s2, hE.le l1, S1, e2, fun u H2 ι2 l2 S2 r2 => ?_⟩⟩
    have hf' : (match rd x s2, rd y s2 with
      | some (.list xs), some (.list ys) => if xs.length + ys.length ≤ 16777216 then some (xs ++ ys, s2) else none
      | _, _ => none) = some (r, st') := hf
    split at hf'
    · rename_i xs ys q1 q2
      split at hf'
      · rename_i hz
        cases hf'
        obtain ⟨p1, vs, rfl, h1, h2⟩ := (rd_rep S2 (r1.le l2) q1).list
        obtain ⟨p2, ws, rfl, h3, h4⟩ := (rd_rep S2 r2 q2).list
        refine ⟨p1, p2, vs, ws, rfl, rfl, h1, h3, by rw [h2.len, h4.len]; exact hz, fun p hp => ?_⟩
        have hs := same_upd (o := HO.lst (vs ++ ws)) hp
        exact hk p _ _ ι2 ((l1.trans l2).free S2 hp) ((l1.trans l2).trans (Le.same hs)) (S2.same hs) upd_same (nmem_of S2 hp) (RepAll.ext (Ext.same hs) _ _ (h2.app h4))
      · cases hf'
    · cases hf'⟩
theorem v_lAdd (f1 f2 : Ev) (ρ : Rho) (st s1 s2 : Sto) (xs ys : List PyData) (h1 : f1 ρ st = some (.d (.list xs), s1)) (h2 : f2 ρ s1 = some (.d (.list ys), s2)) (hz : xs.length + ys.length ≤ 16777216) : lAdd f1 f2 ρ st = some (xs ++ ys, s2) := by
  unfold lAdd
  rw [h1]
  show (f2 ρ s1 >>= fun a => _) = _
  rw [h2]
  show (if _ then _ else _) = _
  rw [if_pos hz]
end
end QL

end
section
set_option Elab.async false
set_option linter.all false
set_option maxRecDepth 100000
set_option maxHeartbeats 2000000
/-! QZ: the end of a law's row (turned from the library's rule with tables to a promise where nothing is under way). -/
namespace QL
open PySem PySem.Spec PyProof.Rows L2
/-- the end of a law's row, the law's promise told of the place where nothing is under way -/
theorem law_callG {P : Program} {w : World} {K : PySem.W.Frag} {mg mb : Str → Option Value} {k : Nat} {fa a : Addr} {cs : List (Addr × Addr)} {fd : FuncData} {x : Str} {F : Fn} {T : Tb} {s₁ : Shared} {vs : List Value} {ns : List Int}
    (KX : K.In s₁.heap) (hns : s₁.heap.Ns mainGlobals mg) (hb : s₁.heap.Ns builtinsNs mb) (hbb : ∀ x : Str, x ≠ "__name__" → mb x = bootBuiltins x) (hlim : s₁.heap.NoLimit) (hg : s₁.gens = #[])
    (hT : ∀ p ∈ cs, s₁.heap.get? p.2 = some { cls := .none, data := .fields #[] }) (nT : ∀ p ∈ cs, K.lookup p.2 = none) (C : ∀ p ∈ cs, PySem.W.CodeHd s₁.heap p.1 p.2)
    (hbm : ∃ (bm : Addr) (ob : Obj), mg "__builtins__" = some (.ref bm) ∧ bm ≠ builtinsNs ∧ s₁.heap.get? bm = some ob ∧ ob.cls = .type "module" ∧ ob.dict = some builtinsNs ∧ ob.data = .plain)
    (ha : s₁.heap.get? a = some { cls := .type "list", data := .seq vs.toArray }) (hi : IntsAre vs ns) (hl : ns.length ≤ sizeLine) (hr : RmG k callerA)
    (Fo : ∀ base : Heap, K.In base → base.Ns mainGlobals mg → (∀ p ∈ cs, LamX.TabB base mg p.1 p.2) → FnG P w K mg base T k fa fd [x] F) (hbind : ∀ (s : Shared) (u : Value), BindsTo s fd ⟨[u], []⟩ [(x, u)])
    (hsp : ∀ H : Hp, (∀ p ∈ cs, H p.2 = some (.tbl #[])) → SqL K H a (ns.map V.int) → (∀ xs, H a ≠ some (.lst xs)) → spS K T F [.ref a] H (fun v _ => v = .bl true) C8.E0)
    :
    codeAny (model P w) callerA (.call (.ref fa) ⟨[.ref a], []⟩) (fun r s' => r = .ok (.ret (.bool true)) ∧ OldK s₁.heap s'.heap ∧ s'.os = s₁.os ∧ AllBare s'.gens) s₁ := by
  have rv := vals_ints hi
  have lenV := hi.length
  have isT : ∀ b : Addr, b ∈ cs.map (·.2) → s₁.heap.get? b = some { cls := .none, data := .fields #[] } := fun b hb => by
    obtain ⟨p, hp, e⟩ := List.mem_map.mp hb
    rw [← e]
    exact hT p hp
  have aT : a ∉ cs.map (·.2) := fun z => by
    have q := isT a z
    rw [ha] at q
    have z' : Data.seq vs.toArray _ = Data.fields #[] := congrArg Obj.data (Option.some.inj q)
    cases z'
  have memT : ∀ p ∈ cs, p.2 ∈ cs.map (·.2) := fun p hp => List.mem_map.mpr ⟨p, hp, rfl⟩
  -- from an abstract heap in which nothing but the script and the tables may be tracked
  have core : ∀ H : Hp, (∀ p ∈ cs, H p.2 = some (.tbl #[])) → (∀ b, H b = none ∨ b ∈ cs.map (·.2) ∨ ∃ o xs, H b = some (.frz o (.lst xs))) → SqL K H a (ns.map V.int) → HOk P w H s₁.heap → (∀ b, H b ≠ none → b = a ∨ b ∈ cs.map (·.2)) → (H a ≠ none → K.lookup a = none) →
      codeAny (model P w) callerA (.call (.ref fa) ⟨[.ref a], []⟩) (fun r s' => r = .ok (.ret (.bool true)) ∧ OldK s₁.heap s'.heap ∧ s'.os = s₁.os ∧ AllBare s'.gens) s₁ := by
    intro H hH hO hS hok hA hK
    have base_of : ∀ {b : Addr} {o : Obj}, s₁.heap.get? b = some o → H b = none → (hidT s₁.heap H).get? b = some o := fun e n => hidT_get e n
    have noD : ∀ {b : Addr} {o : Obj}, s₁.heap.get? b = some o → (∀ vs n, o.data ≠ .seq vs n) → o.data ≠ .fields #[] → H b = none := fun {b o} e h1 h2 => by
      cases q : H b with
      | none => rfl
      | some u =>
        rcases hA b (by rw [q]; simp) with e' | e'
        · rw [e', ha] at e
          cases e
          exact (h1 _ _ rfl).elim
        · rw [isT b e'] at e
          cases e
          exact (h2 rfl).elim
    have noA : ∀ {b : Addr} {o : Obj} {es : Array DictEntry} {ep : Nat}, s₁.heap.get? b = some o → o.data = .dict es ep → H b = none := fun {b o es ep} e d => by
      refine noD e (fun vs n z => ?_) fun z => ?_
      · rw [d] at z
        cases z
      · rw [d] at z
        cases z
    have nsK : ∀ {b : Addr} {m : Str → Option Value}, s₁.heap.Ns b m → (hidT s₁.heap H).Ns b m := fun {b m} ⟨o, es, ep, e, d, r⟩ => ⟨o, es, ep, base_of e (noA e d), d, r⟩
    have hKb : K.In (hidT s₁.heap H) := fun b o e => base_of (KX b o e) (by
      cases q : H b with
      | none => rfl
      | some u =>
        rcases hA b (by rw [q]; simp) with e' | e'
        · rw [e'] at e q
          rw [hK (by rw [q]; simp)] at e
          cases e
        · obtain ⟨p, hp, ep⟩ := List.mem_map.mp e'
          rw [← ep, nT p hp] at e
          cases e)
    have hM : L2.Mod K mg (hidT s₁.heap H) := ⟨hKb, nsK hns, ⟨mb, nsK hb, hbb⟩, let ⟨mc, h1, h2⟩ := hlim; ⟨mc, nsK h1, h2⟩⟩
    have TB : ∀ p ∈ cs, LamX.TabB (hidT s₁.heap H) mg p.1 p.2 := fun p hp => by
      have hTp := hT p hp
      refine ⟨?_, ?_, fun z => ?_⟩
      · obtain ⟨o, us, file, tf, flags, tg, inF, text, tt, e1, r1, r2, r3, r4, r5, r6, r7, r8, hne⟩ := C p hp
        refine ⟨o, us, file, tf, flags, tg, inF, text, tt, base_of e1 (noD e1 (fun vs n z => ?_) fun z => ?_), r1, r2, r3, r4, r5, r6, r7, r8, hne⟩
        · rw [r2] at z
          cases z
        · rw [r2] at z
          cases z
          simp at r3
      · obtain ⟨bm, ob, b1, b2, b3, b4, b5, b6⟩ := hbm
        have nG : bm ≠ mainGlobals := fun q => by
          obtain ⟨o, es, ep, e, hd, _⟩ := hns
          rw [q, e] at b3
          cases b3
          rw [hd] at b6
          cases b6
        have nP : bm ≠ p.2 := fun q => by
          rw [q, hTp] at b3
          cases b3
          cases b6
        refine ⟨bm, ob, b1, b2, nG, nP, base_of b3 (noD b3 (fun vs n z => ?_) fun z => ?_), b4, b5, b6⟩
        · rw [b6] at z
          cases z
        · rw [b6] at z
          cases z
      · obtain ⟨o, es, ep, e, hd, _⟩ := hns
        rw [z, hTp] at e
        cases e
        cases hd
    have e0 : Env0 P w K mg (hidT s₁.heap H) callerA [] s₁ H := ⟨rfl, hM, fun b o e => of_hidT e, Nat.le_of_eq (hidT_size _ _), trivial, fun b hb => absurd (show b ∈ ([] : List Addr) from hb) (by simp), hok, .of_eq hg⟩
    refine codeAny_mono ((Fo _ hKb (nsK hns) TB).run callerA [] s₁ H ⟨[.ref a], []⟩ [.ref a] [.ref a] _ hr e0 (hbind s₁ (.ref a)) (.cons rfl .nil) (hsp H hH hS fun xs z => by
      rcases hO a with q | q | ⟨o, ys, q⟩
      · rw [q] at z; cases z
      · exact aT q
      · rw [q] at z; cases z)) fun r s' h => ?_
    cases r with
    | error e => exact (show False from h).elim
    | ok fl =>
      cases fl with
      | next => exact False.elim h
      | brk => exact False.elim h
      | cont => exact False.elim h
      | ret u =>
        obtain ⟨v, H', os, bare, un, hok', r', q⟩ := h
        have q' : v = .bl true := q
        subst q'
        obtain rfl : u = Value.bool true := r'
        have key : ∀ b o, b ∉ cs.map (·.2) → s₁.heap.get? b = some o → s'.heap.get? b = some o := fun b o nb e => by
          cases q : H b with
          | none => exact un.keep b o e q (by intro z; exact absurd (show b ∈ ([] : List Addr) from z) (by simp)) (by simp)
          | some u =>
            rcases hO b with z | z | ⟨ob, xs, z⟩
            · rw [q] at z; cases z
            · exact absurd z nb
            · have z2 := un.frzs b ob _ z
              obtain ⟨e1, _⟩ := hok b _ z
              obtain ⟨e2, _⟩ := hok' b _ z2
              rw [e] at e1; cases e1
              exact e2
        have grown : ∀ p ∈ cs, ∃ more : Array Value, s'.heap.get? p.2 = some { cls := .none, data := .fields more } := fun p hp => by
          obtain ⟨more, z⟩ := un.tbls p.2 #[] (hH p hp)
          exact ⟨_, hok' p.2 _ z⟩
        refine ⟨rfl, ⟨fun b o e => ?_, fun b o e => ?_⟩, os, bare⟩
        · by_cases hb : b ∈ cs.map (·.2)
          · obtain ⟨p, hp, ep⟩ := List.mem_map.mp hb
            obtain ⟨more, hm⟩ := grown p hp
            rw [← ep] at e ⊢
            rw [hT p hp] at e
            cases e
            exact .inr (.inl ⟨((C p hp).tab (hT p hp)).isCodeTable, rfl, #[], more, rfl, by rw [Array.empty_append]; exact hm⟩)
          · exact .inl (key b o hb e)
        · by_cases hb : b ∈ cs.map (·.2)
          · obtain ⟨p, hp, ep⟩ := List.mem_map.mp hb
            obtain ⟨more, hm⟩ := grown p hp
            rw [← ep]
            exact ⟨_, hm⟩
          · exact ⟨o, key b o hb e⟩
  cases hk : K.lookup a with
  | some o =>
    have e := KX a o hk
    rw [ha] at e
    cases e
    refine core (fun b => if b ∈ cs.map (·.2) then some (.tbl #[]) else none) (fun p hp => if_pos (memT p hp)) (fun b => ?_) (.inr ⟨_, vs.toArray, _, hk, rfl, rfl, rfl, by rw [List.size_toArray, lenV]; exact hl, by simpa using rv⟩) (fun b u z => ?_) (fun b z => ?_) fun z => absurd (show (if a ∈ cs.map (·.2) then some (HO.tbl #[]) else none) = none from if_neg aT) z
    · by_cases hb : b ∈ cs.map (·.2)
      · exact .inr (.inl hb)
      · exact .inl (if_neg hb)
    · by_cases hb : b ∈ cs.map (·.2)
      · have z' := (if_pos hb).symm.trans z
        cases z'
        exact isT b hb
      · have z' := (if_neg hb).symm.trans z
        cases z'
    · by_cases hb : b ∈ cs.map (·.2)
      · exact .inr hb
      · exact absurd (if_neg hb) z
  | none =>
    refine core (fun b => if b = a then some (.frz { cls := .type "list", data := .seq vs.toArray } (.lst (ns.map V.int))) else if b ∈ cs.map (·.2) then some (.tbl #[]) else none) (fun p hp => (if_neg (show ¬ p.2 = a from fun z => aT (by rw [← z]; exact memT p hp))).trans (if_pos (memT p hp))) (fun b => ?_)
      (.inl (.inr ⟨{ cls := .type "list", data := .seq vs.toArray }, if_pos rfl⟩)) (fun b u z => ?_) (fun b z => ?_) fun _ => hk
    · by_cases hb : b = a
      · exact .inr (.inr ⟨_, _, if_pos hb⟩)
      · by_cases hb2 : b ∈ cs.map (·.2)
        · exact .inr (.inl hb2)
        · exact .inl ((if_neg hb).trans (if_neg hb2))
    · by_cases hb : b = a
      · have z' := (if_pos hb).symm.trans z
        cases z'
        rw [hb]
        exact ⟨ha, by rw [List.length_map]; exact hl, vs, _, rv, ha⟩
      · have z1 := (if_neg hb).symm.trans z
        by_cases hb2 : b ∈ cs.map (·.2)
        · have z' := (if_pos hb2).symm.trans z1
          cases z'
          exact isT b hb2
        · have z' := (if_neg hb2).symm.trans z1
          cases z'
    · by_cases hb : b = a
      · exact .inl hb
      · by_cases hb2 : b ∈ cs.map (·.2)
        · exact .inr hb2
        · exact absurd ((if_neg hb).trans (if_neg hb2)) z

def LawG (l : PySem.W.OpenLaw) (w : World) (K : PySem.W.Frag) (k n : Nat) (x : Str) (mg : Str → Option Value) (fa : Addr) (h : Heap) : Prop :=
  ∃ (fd : FuncData) (cs : List (Addr × Addr)) (T : Tb) (F : Fn), (∀ p ∈ cs, h.get? p.2 = some { cls := .none, data := .fields #[] }) ∧ (∀ p ∈ cs, K.lookup p.2 = none) ∧ (∀ p ∈ cs, PySem.W.CodeHd h p.1 p.2) ∧ (∀ (s : Shared) (u : Value), BindsTo s fd ⟨[u], []⟩ [(x, u)]) ∧
    (∀ (H : Hp) (a : Addr) (ns : List Int), ns.length ≤ n → (∀ z ∈ ns, Builtin.Int.intBits z ≤ 1048576) → (∀ p ∈ cs, H p.2 = some (.tbl #[])) → SqL K H a (ns.map V.int) → (∀ xs, H a ≠ some (.lst xs)) → spS K T F [.ref a] H (fun v _ => v = .bl true) C8.E0) ∧
    ∀ base : Heap, K.In base → base.Ns mainGlobals mg → (∀ p ∈ cs, LamX.TabB base mg p.1 p.2) → FnG l.prog w K mg base T k fa fd [x] F
theorem walk_G {l : PySem.W.OpenLaw} {n k : Nat} {q : Program} {loose : List Str} {XP : (Str → Option Value) → Heap → Prop} {YP : World → Heap → Prop} {d : DefRec} {x : Str}
    (hn : l.most = some n) (hn2 : n ≤ sizeLine) (hdf : d.params.defaults = []) (hr : RmG k callerA)
    (F : ∀ (w : World) (mg : Str → Option Value) (fa : Addr) (h : Heap), YP w h → h.Ns mainGlobals mg → mg d.name = some (.ref fa) → ∃ K : PySem.W.Frag, K.In h ∧ LawG l w K k n x mg fa h) :
    PySem.W.WalkO q loose XP YP l.row.toRowW d [] (fun f vs => PySem.call f vs) := by
  refine Att.attach_callB hn hdf fun w s₀ s₁ mg mb fa o pm cd doc a vs ns G Y ho hd hcd hmg hobj hints hlen hbits hg => ?_
  obtain ⟨K, KX, fd, cs, T, F, hT, nT, C, hb, hsp, hF⟩ := F w mg fa _ Y G.T.g hmg
  exact law_callG KX G.T.g G.T.b G.T.builtins G.T.nolimit hg hT nT C G.T.bmain hobj hints (Nat.le_trans hlen hn2) hr hF hb fun H hH hS hn => hsp H a ns hlen hbits hH hS hn
theorem inj_of_nodup {α β : Type} {f : α → β} : ∀ {l : List α}, (l.map f).Nodup → ∀ {p q : α}, p ∈ l → q ∈ l → f p = f q → p = q
  | [], _, p, q, hp, _, _ => by cases hp
  | a :: l, nd, p, q, hp, hq, e => by
    rw [List.map_cons, List.nodup_cons] at nd
    rcases List.mem_cons.mp hp with h1 | h1 <;> rcases List.mem_cons.mp hq with h2 | h2
    · rw [h1, h2]
    · exact absurd (List.mem_map.mpr ⟨q, h2, by rw [← e, h1]⟩) nd.1
    · exact absurd (List.mem_map.mpr ⟨p, h1, by rw [e, h2]⟩) nd.1
    · exact inj_of_nodup nd.2 h1 h2 e
/-- the script as data -/
theorem fz_of {K : PySem.W.Frag} {H : Hp} {a : Addr} {xs : List V} (h : SqL K H a xs) (hn : ∀ ys, H a ≠ some (.lst ys)) : FzL K H a xs := by
  rcases h with (h | h) | h
  · exact absurd h (hn xs)
  · exact .inl h
  · exact .inr h
end QL

end
section
set_option Elab.async false
set_option linter.all false
set_option maxRecDepth 100000
set_option maxHeartbeats 0
namespace Hd
open PySem PySem.Spec PyProof.Rows L2
def PP : Program := PySem.Challenge.pw_leastendwithcuts_k42_whole_most_in_time
def stAt (i : Nat) : Stmt := PP.main.body.getD i (.Pass ⟨0, 0, 0, 0⟩)
def mk (i : Nat) (x : Str) : He.DefD := ⟨(x, none), x, x, C8.fnArgs (stAt i), C8.fnBody (stAt i), C8.fnScope (stAt i), [], []⟩
def fn : List He.DefD := [mk 5 "is_int", mk 6 "are_ints", mk 12 "are_dues", mk 13 "look_at_dues", mk 14 "told_in_time", mk 15 "most_in_time", mk 16 "are_in_time", mk 17 "is_most_in_time", mk 21 "are_tasks", mk 22 "look_at_tasks", mk 23 "told_over", mk 24 "told_lots", mk 25 "told_worst", mk 26 "too_long", mk 27 "told_broken", mk 28 "with_breaks", mk 29 "lateness_of", mk 31 "_law_pot", mk 32 "_law_take", mk 33 "_law_of", mk 34 "_law_cells", mk 35 "_law_drawn", mk 36 "_law_most", mk 37 "_law_are_in_time", mk 38 "_law_as_tasks", mk 39 "_law_is_more_right", mk 40 "_law_are_others_right", mk 41 "_law_right", mk 42 "law"]
def fa : List He.Fa := [.glo "is_int", .glo "are_ints", .glo "are_dues", .glo "look_at_dues", .glo "told_in_time", .glo "most_in_time", .glo "are_in_time", .glo "is_most_in_time", .glo "are_tasks", .glo "look_at_tasks", .glo "told_over", .glo "told_lots", .glo "told_worst", .glo "too_long", .glo "told_broken", .glo "with_breaks", .glo "lateness_of", .glo "_law_pot", .glo "_law_take", .glo "_law_of", .glo "_law_cells", .glo "_law_drawn", .glo "_law_most", .glo "_law_are_in_time", .glo "_law_as_tasks", .glo "_law_is_more_right", .glo "_law_are_others_right", .glo "_law_right", .glo "law", .int "MOST_JOBS" 12, .int "MOST_LENGTH" 1000, .int "MOST_TIME" 1000000, .int "MOST_WORKS" 24, .str "BROKEN" "broken", .str "LOT" "lot", .free "len", .free "int", .free "abs", .free "sum", .free "max", .free "min", .free "all", .free "any", .free "sorted", .free "list", .free "tuple", .free "set", .free "range", .free "enumerate", .free "zip", .free "repr", .free "isinstance", .free "bool", .free "str"]
def tf : List He.Defn := [("told_in_time", none), ("are_in_time", none), ("told_broken", none)]
def ex (K : PySem.W.Frag) : Bool := decide (tf.map fun p => (He.cT K p).2).Nodup
abbrev R : PySem.W.OpenRow := PySem.W.OpenLaw.row PySem.Challenge.rw_leastendwithcuts_k42_whole_most_in_time
abbrev hk : PySem.W.Hook := He.hookX 4 fa fn [] tf ex
def ob (s : PySem.W.SharedT) : He.AlX := He.obsX 4 fa fn [] tf ex (HandSHeadRun.getT s)
theorem ob_eq (s : PySem.W.SharedT) : ob s = hk.obs s.abs := He.obsX_eq (HandSHeadRun.getT_eq s)
def loose : List Str := PP.main.scope.names.filterMap fun p => if p.1 = ("law" : Str) ∨ p.1 = ("__name__" : Str) then none else some p.1
theorem run (w : World) : HandSHeadRun.RunEq R (PySem.W.view R.prog [42]) hk ob 4000 loose w := by
  intro os
  kernel_rfl
end Hd

end
section
set_option Elab.async false
set_option linter.all false
set_option autoImplicit false
set_option maxRecDepth 100000
set_option maxHeartbeats 0
namespace K42
open PySem PySem.Spec PyProof.Rows L2 QL
def stAt (i : Nat) : Stmt := Hd.PP.main.body.getD i (.Pass ⟨0, 0, 0, 0⟩)
noncomputable section
/-! is_int -/
def sem_is_int : Fn := fnS 3 3 (sCons (sRet (eAnd (eOp1 (gIsi "int") (eVar 0)) (eAnd (eNot (eOp1 (gIsi "bool") (eVar 0))) (eT (tChn pLe pLe (eVar 1) (eVar 0) (eVar 2))))))
 sNil)
theorem SC_is_int : scT (C8.fnScope (stAt 5)) [("value", .local), ("low", .local), ("high", .local), ("isinstance", .globalImplicit), ("int", .globalImplicit), ("bool", .globalImplicit)] = true := by kernel_rfl
theorem FS_is_int : FnScope ["value", "low", "high"] ["value", "low", "high"] (C8.fnScope (stAt 5)) := C8.fnScope_by (by kernel_rfl)
theorem G_is_int {w : World} {K : PySem.W.Frag} {mg : Str → Option Value} {base : Heap} {T : Tb} (B : Bls mg)
 {f : Addr} {fd : FuncData}
 (D : DefF K mg (stAt 5) "is_int" ["value", "low", "high"] f fd) :
 FnG Hd.PP w K mg base T 2 f fd ["value", "low", "high"] sem_is_int :=
 have S := FS_is_int
 fnG_of D.F S fun cdv A outer s H hcd hr =>
 (show QSs _ T (C8.fnBody (stAt 5)) _ from
 (qss_cons (qs_ret (qe_and (qe_isiI B (by decide) (scT_get SC_is_int (i := 3) rfl) (scT_get SC_is_int (i := 4) rfl) B.int (by decide +kernel) (qe_var (i := 0) rfl (.inl (scT_get SC_is_int (i := 0) rfl))) (by decide) (by decide)) (qe_and (qe_not (qe_isiI B (by decide) (scT_get SC_is_int (i := 3) rfl) (scT_get SC_is_int (i := 5) rfl) B.bool (by decide +kernel) (qe_var (i := 0) rfl (.inl (scT_get SC_is_int (i := 0) rfl))) (by decide) (by decide))) (qe_one (qe_chain c_le c_le (qe_var (i := 1) rfl (.inl (scT_get SC_is_int (i := 1) rfl))) (qe_var (i := 0) rfl (.inl (scT_get SC_is_int (i := 0) rfl))) (qe_var (i := 2) rfl (.inl (scT_get SC_is_int (i := 2) rfl))))))))
 qss_nil))
/-! are_ints -/
def sem_are_ints : Fn := fnS 4 3 (sCons (sRet (eAnd (eOp1 (gIsi "tuple") (eVar 0)) (eOp1 gAll (eFz (lComp [3] (iSeq (eVar 0)) (bName 3) tYesQ (eCall sem_is_int (aCons (eVar 3) (aCons (eVar 1) (aCons (eVar 2) aNil)))))))))
 sNil)
theorem SC_are_ints : scT (C8.fnScope (stAt 6)) [("value", .local), ("low", .cell), ("high", .cell), ("isinstance", .globalImplicit), ("tuple", .globalImplicit), ("all", .globalImplicit)] = true := by kernel_rfl
theorem FS_are_ints : FnScope ["value", "low", "high", "one"] ["value", "low", "high"] (C8.fnScope (stAt 6)) := C8.fnScope_by (by kernel_rfl)
theorem G_are_ints {w : World} {K : PySem.W.Frag} {mg : Str → Option Value} {base : Heap} {T : Tb} (B : Bls mg)
 {f : Addr} {fd : FuncData}
 (D : DefF K mg (stAt 6) "are_ints" ["value", "low", "high"] f fd)
 {f_is_int : Addr} {fd_is_int : FuncData} (D_is_int : DefF K mg (stAt 5) "is_int" ["value", "low", "high"] f_is_int fd_is_int) (G_is_int : FnG Hd.PP w K mg base T 2 f_is_int fd_is_int ["value", "low", "high"] sem_is_int) :
 FnG Hd.PP w K mg base T 3 f fd ["value", "low", "high"] sem_are_ints :=
 have S := FS_are_ints
 fnG_of D.F S fun cdv A outer s H hcd hr =>
 (show QSs _ T (C8.fnBody (stAt 6)) _ from
 (qss_cons (qs_ret (qe_and (qe_isiI B (by decide) (scT_get SC_are_ints (i := 3) rfl) (scT_get SC_are_ints (i := 4) rfl) B.tuple (by decide +kernel) (qe_var (i := 0) rfl (.inl (scT_get SC_are_ints (i := 0) rfl))) (by decide) (by decide)) (qe_one (qe_all rfl B (scT_get SC_are_ints (i := 5) rfl) (qe_fz (ql_compS (own := [("one", 3)]) (l := [("one", .local), ("low", .cell), ("high", .cell), ("is_int", .globalImplicit)]) rfl S.nd (by kernel_rfl) (by kernel_rfl) (qi_seq (qe_var (i := 0) rfl (.inl (scT_get SC_are_ints (i := 0) rfl)))) (fun g s H C cl fp => (qg_name S.nd (i := 3) rfl (.inl (scT_get g (i := 0) rfl)) (by decide) (.inr (scT_get g (i := 0) rfl)))) (fun g s H C cl fp => qts_nil) (fun g s H C cl fp => (qe_callG G_is_int (hr.mono (by decide)) (scT_get g (i := 3) rfl) D_is_int.hm D_is_int.F.kp D_is_int.hb (qa_cons (qe_var (i := 3) rfl (.inl (scT_get g (i := 0) rfl))) (qa_cons (qe_var (i := 1) rfl (.inr (.inl (scT_get g (i := 1) rfl)))) (qa_cons (qe_var (i := 2) rfl (.inr (.inl (scT_get g (i := 2) rfl)))) qa_nil)))))))))))
 qss_nil))
/-! are_dues -/
def sem_are_dues : Fn := fnS 2 1 (sCons (sIf (tOrQ (tNotQ (tV (eOp1 (gIsi "tuple") (eVar 0)))) (tCmp2 pGt (eOp1 gLen (eVar 0)) (eOp2 gMul (eC (.int 2)) (eC (.int 12))))) (sCons (sRet (eC (.bool false)))
 sNil) sNil)
 (sCons (sFor (iSeq (eVar 0)) (bName 1) (sCons (sIf (tOrQ (tNotQ (tV (eCall sem_are_ints (aCons (eVar 1) (aCons (eC (.int 0)) (aCons (eC (.int 1000000)) aNil)))))) (tOrQ (tCmp2 pNe (eOp1 gLen (eVar 1)) (eC (.int 2))) (tNotQ (tChn pLe pLe (eC (.int 1)) (eOp2 gIx (eVar 1) (eC (.int 0))) (eC (.int 1000)))))) (sCons (sRet (eC (.bool false)))
 sNil) sNil)
 sNil))
 (sCons (sRet (eC (.bool true)))
 sNil)))
theorem SC_are_dues : scT (C8.fnScope (stAt 12)) [("value", .local), ("one", .local), ("isinstance", .globalImplicit), ("tuple", .globalImplicit), ("len", .globalImplicit), ("MOST_JOBS", .globalImplicit), ("MOST_TIME", .globalImplicit), ("are_ints", .globalImplicit), ("MOST_LENGTH", .globalImplicit)] = true := by kernel_rfl
theorem FS_are_dues : FnScope ["value", "one"] ["value"] (C8.fnScope (stAt 12)) := C8.fnScope_by (by kernel_rfl)
theorem G_are_dues {w : World} {K : PySem.W.Frag} {mg : Str → Option Value} {base : Heap} {T : Tb} (B : Bls mg)
 (c_MOST_JOBS : ∃ t, mg "MOST_JOBS" = some (.int 12 t))
 (c_MOST_LENGTH : ∃ t, mg "MOST_LENGTH" = some (.int 1000 t))
 (c_MOST_TIME : ∃ t, mg "MOST_TIME" = some (.int 1000000 t))
 {f : Addr} {fd : FuncData}
 (D : DefF K mg (stAt 12) "are_dues" ["value"] f fd)
 {f_are_ints : Addr} {fd_are_ints : FuncData} (D_are_ints : DefF K mg (stAt 6) "are_ints" ["value", "low", "high"] f_are_ints fd_are_ints) (G_are_ints : FnG Hd.PP w K mg base T 3 f_are_ints fd_are_ints ["value", "low", "high"] sem_are_ints) :
 FnG Hd.PP w K mg base T 4 f fd ["value"] sem_are_dues :=
 have S := FS_are_dues
 fnG_of D.F S fun cdv A outer s H hcd hr =>
 (show QSs _ T (C8.fnBody (stAt 12)) _ from
 (qss_cons (qs_if (QW.t (qw_or (qt_not (qt_val (qe_isiI B (by decide) (scT_get SC_are_dues (i := 2) rfl) (scT_get SC_are_dues (i := 3) rfl) B.tuple (by decide +kernel) (qe_var (i := 0) rfl (.inl (scT_get SC_are_dues (i := 0) rfl))) (by decide) (by decide)))) (qw_or1 (qt_cmp c_gt (qe_len B (scT_get SC_are_dues (i := 4) rfl) (qe_var (i := 0) rfl (.inl (scT_get SC_are_dues (i := 0) rfl)))) (qe_mul qe_int (qe_gint (i := 12) c_MOST_JOBS (scT_get SC_are_dues (i := 5) rfl))) rfl)))) (qss_cons (qs_ret qe_bl)
 qss_nil) qss_nil)
 (qss_cons (qs_for (own := [1]) PassesOwn.never rfl (qi_seq (qe_var (i := 0) rfl (.inl (scT_get SC_are_dues (i := 0) rfl)))) (qg_name S.nd (i := 1) rfl (.inl (scT_get SC_are_dues (i := 1) rfl)) (by decide) (.inl rfl)) (qss_cons (qs_if (QW.t (qw_or (qt_not (qt_val (qe_callG G_are_ints (hr.mono (by decide)) (scT_get SC_are_dues (i := 7) rfl) D_are_ints.hm D_are_ints.F.kp D_are_ints.hb (qa_cons (qe_var (i := 1) rfl (.inl (scT_get SC_are_dues (i := 1) rfl))) (qa_cons qe_int (qa_cons (qe_gint (i := 1000000) c_MOST_TIME (scT_get SC_are_dues (i := 6) rfl)) qa_nil)))))) (qw_or (qt_cmp (c_ne hr.u) (qe_len B (scT_get SC_are_dues (i := 4) rfl) (qe_var (i := 1) rfl (.inl (scT_get SC_are_dues (i := 1) rfl)))) qe_int rfl) (qw_or1 (qt_not (qt_chain c_le c_le qe_int (qe_ix (qe_var (i := 1) rfl (.inl (scT_get SC_are_dues (i := 1) rfl))) qe_int (fun _ _ => rfl)) (qe_gint (i := 1000) c_MOST_LENGTH (scT_get SC_are_dues (i := 8) rfl)))))))) (qss_cons (qs_ret qe_bl)
 qss_nil) qss_nil)
 qss_nil))
 (qss_cons (qs_ret qe_bl)
 qss_nil))))
/-! look_at_dues -/
def sem_look_at_dues : Fn := fnS 1 1 (sCons (sIf (tNotQ (tV (eCall sem_are_dues (aCons (eVar 0) aNil)))) (sCons sNever
 sNil) sNil)
 sNil)
theorem SC_look_at_dues : scT (C8.fnScope (stAt 13)) [("jobs", .local), ("are_dues", .globalImplicit)] = true := by kernel_rfl
theorem FS_look_at_dues : FnScope ["jobs"] ["jobs"] (C8.fnScope (stAt 13)) := C8.fnScope_by (by kernel_rfl)
theorem G_look_at_dues {w : World} {K : PySem.W.Frag} {mg : Str → Option Value} {base : Heap} {T : Tb} (B : Bls mg)
 {f : Addr} {fd : FuncData}
 (D : DefF K mg (stAt 13) "look_at_dues" ["jobs"] f fd)
 {f_are_dues : Addr} {fd_are_dues : FuncData} (D_are_dues : DefF K mg (stAt 12) "are_dues" ["value"] f_are_dues fd_are_dues) (G_are_dues : FnG Hd.PP w K mg base T 4 f_are_dues fd_are_dues ["value"] sem_are_dues) :
 FnG Hd.PP w K mg base T 5 f fd ["jobs"] sem_look_at_dues :=
 have S := FS_look_at_dues
 fnG_of D.F S fun cdv A outer s H hcd hr =>
 (show QSs _ T (C8.fnBody (stAt 13)) _ from
 (qss_cons (qs_if (qt_not (qt_val (qe_callG G_are_dues (hr.mono (by decide)) (scT_get SC_look_at_dues (i := 1) rfl) D_are_dues.hm D_are_dues.F.kp D_are_dues.hb (qa_cons (qe_var (i := 0) rfl (.inl (scT_get SC_look_at_dues (i := 0) rfl))) qa_nil)))) (qss_cons qs_never
 qss_nil) qss_nil)
 qss_nil))
/-! told_in_time -/
def sem_told_in_time : Fn := fnS 5 1 (sCons (sPar2 1 2 (aCons (eOwn (lDisp aNil)) (aCons (eC (.int 0)) aNil)))
 (sCons (sFor (iSeq (eFz (lSortK (cRg1 (eOp1 gLen (eVar 0))) [("jobs", 0)] "one" (kTwo (kIx (kIx (kVar "jobs") (kVar "one")) (kInt 1)) (kVar "one"))))) (bName 3) (sCons (sExpr (eMeth gApp (eVar 1) (eVar 3)))
 (sCons (sAug 2 gAddI (eOp2 gIx (eOp2 gIx (eVar 0) (eVar 3)) (eC (.int 0))))
 (sCons (sIf (tCmp2 pGt (eVar 2) (eOp2 gIx (eOp2 gIx (eVar 0) (eVar 3)) (eC (.int 1)))) (sCons (sAsg (eBestK (fun a b => PySem.W.dataLt b a) (eVar 1) [("jobs", 0)] "one" (kTwo (kIx (kIx (kVar "jobs") (kVar "one")) (kInt 0)) (kVar "one"))) (bName 4))
 (sCons (sExpr (eMeth gRem (eVar 1) (eVar 4)))
 (sCons (sAug 2 gSub (eOp2 gIx (eOp2 gIx (eVar 0) (eVar 4)) (eC (.int 0))))
 sNil))) sNil)
 sNil))))
 (sCons (sRet (eFz (lOp1 gSort (eVar 1))))
 sNil)))
theorem SC_told_in_time : scT (C8.fnScope (stAt 14)) [("jobs", .cell), ("kept", .local), ("here", .local), ("at", .local), ("out", .local), ("len", .globalImplicit), ("sorted", .globalImplicit), ("range", .globalImplicit), ("max", .globalImplicit)] = true := by kernel_rfl
theorem FS_told_in_time : FnScope ["jobs", "kept", "here", "at", "out"] ["jobs"] (C8.fnScope (stAt 14)) := C8.fnScope_by (by kernel_rfl)
theorem G_told_in_time {w : World} {K : PySem.W.Frag} {mg : Str → Option Value} {base : Heap} {T : Tb} (B : Bls mg)
 {f : Addr} {fd : FuncData}
 (D : DefF K mg (stAt 14) "told_in_time" ["jobs"] f fd)
 {c P : Addr} (LF : LamF base mg T "told_in_time" fd c P) :
 FnG Hd.PP w K mg base T 2 f fd ["jobs"] sem_told_in_time :=
 have S := FS_told_in_time
 fnG_of D.F S fun cdv A outer s H hcd hr =>
 (show QSs _ T (C8.fnBody (stAt 14)) _ from
 (qss_cons (qs_par2 (i := 1) (j := 2) rfl S.nd rfl rfl (by decide) (scT_get SC_told_in_time (i := 1) rfl) (scT_get SC_told_in_time (i := 2) rfl) (qa_cons (qe_own (ql_lst qa_nil)) (qa_cons qe_int qa_nil)) (by kernel_rfl))
 (qss_cons (qs_for (own := [3]) PassesOwn.never rfl (qi_seq (qe_fz (ql_sortedKRg rfl hr.r B (scT_get SC_told_in_time (i := 6) rfl) (scT_get SC_told_in_time (i := 7) rfl) (qe_len B (scT_get SC_told_in_time (i := 5) rfl) (qe_var (i := 0) rfl (.inr (.inl (scT_get SC_told_in_time (i := 0) rfl))))) (lamT_of (js := [("jobs", 0)]) (g := (kTwo (kIx (kIx (kVar "jobs") (kVar "one")) (kInt 1)) (kVar "one"))) LF (hcd.symm.trans LF.code) rfl (by kernel_rfl) (fun _ _ _ _ _ _ => rfl) (by kernel_rfl) (rkt_two (rk_ix (rk_ix rk_var rk_var (fun _ _ => rfl)) rk_int (fun _ _ => rfl)) rk_var)).q))) (qg_name S.nd (i := 3) rfl (.inl (scT_get SC_told_in_time (i := 3) rfl)) (by decide) (.inl rfl)) (qss_cons (qs_expr (qe_append (qe_var (i := 1) rfl (.inl (scT_get SC_told_in_time (i := 1) rfl))) (qe_var (i := 3) rfl (.inl (scT_get SC_told_in_time (i := 3) rfl)))))
 (qss_cons (qs_augAddI S.nd (i := 2) rfl (.inl (scT_get SC_told_in_time (i := 2) rfl)) (qe_ix (qe_ix (qe_var (i := 0) rfl (.inr (.inl (scT_get SC_told_in_time (i := 0) rfl)))) (qe_var (i := 3) rfl (.inl (scT_get SC_told_in_time (i := 3) rfl))) (fun _ _ => rfl)) qe_int (fun _ _ => rfl)) (.inl rfl))
 (qss_cons (qs_if (qt_cmp c_gt (qe_var (i := 2) rfl (.inl (scT_get SC_told_in_time (i := 2) rfl))) (qe_ix (qe_ix (qe_var (i := 0) rfl (.inr (.inl (scT_get SC_told_in_time (i := 0) rfl)))) (qe_var (i := 3) rfl (.inl (scT_get SC_told_in_time (i := 3) rfl))) (fun _ _ => rfl)) qe_int (fun _ _ => rfl)) rfl) (qss_cons (qs_set S.nd (i := 4) rfl (.inl (scT_get SC_told_in_time (i := 4) rfl)) (qe_maxK rfl hr.r B (scT_get SC_told_in_time (i := 8) rfl) (qe_var (i := 1) rfl (.inl (scT_get SC_told_in_time (i := 1) rfl))) (lamT_of (js := [("jobs", 0)]) (g := (kTwo (kIx (kIx (kVar "jobs") (kVar "one")) (kInt 0)) (kVar "one"))) LF (hcd.symm.trans LF.code) rfl (by kernel_rfl) (fun _ _ _ _ _ _ => rfl) (by kernel_rfl) (rkt_two (rk_ix (rk_ix rk_var rk_var (fun _ _ => rfl)) rk_int (fun _ _ => rfl)) rk_var))) rfl (.inl rfl))
 (qss_cons (qs_expr (qe_remove (qe_var (i := 1) rfl (.inl (scT_get SC_told_in_time (i := 1) rfl))) (qe_var (i := 4) rfl (.inl (scT_get SC_told_in_time (i := 4) rfl)))))
 (qss_cons (qs_augSub S.nd (i := 2) rfl (.inl (scT_get SC_told_in_time (i := 2) rfl)) (qe_ix (qe_ix (qe_var (i := 0) rfl (.inr (.inl (scT_get SC_told_in_time (i := 0) rfl)))) (qe_var (i := 4) rfl (.inl (scT_get SC_told_in_time (i := 4) rfl))) (fun _ _ => rfl)) qe_int (fun _ _ => rfl)) (.inl rfl))
 qss_nil))) qss_nil)
 qss_nil))))
 (qss_cons (qs_ret (qe_fz (ql_sorted hr.u B (scT_get SC_told_in_time (i := 6) rfl) (qe_var (i := 1) rfl (.inl (scT_get SC_told_in_time (i := 1) rfl))))))
 qss_nil))))
/-! most_in_time -/
def sem_most_in_time : Fn := fnS 1 1 (sCons (sExpr (eCall sem_look_at_dues (aCons (eVar 0) aNil)))
 (sCons (sRet (eOp1 gTuple (eCall sem_told_in_time (aCons (eVar 0) aNil))))
 sNil))
theorem SC_most_in_time : scT (C8.fnScope (stAt 15)) [("jobs", .local), ("look_at_dues", .globalImplicit), ("told_in_time", .globalImplicit), ("tuple", .globalImplicit)] = true := by kernel_rfl
theorem FS_most_in_time : FnScope ["jobs"] ["jobs"] (C8.fnScope (stAt 15)) := C8.fnScope_by (by kernel_rfl)
theorem G_most_in_time {w : World} {K : PySem.W.Frag} {mg : Str → Option Value} {base : Heap} {T : Tb} (B : Bls mg)
 {f : Addr} {fd : FuncData}
 (D : DefF K mg (stAt 15) "most_in_time" ["jobs"] f fd)
 {f_look_at_dues : Addr} {fd_look_at_dues : FuncData} (D_look_at_dues : DefF K mg (stAt 13) "look_at_dues" ["jobs"] f_look_at_dues fd_look_at_dues) (G_look_at_dues : FnG Hd.PP w K mg base T 5 f_look_at_dues fd_look_at_dues ["jobs"] sem_look_at_dues)
 {f_told_in_time : Addr} {fd_told_in_time : FuncData} (D_told_in_time : DefF K mg (stAt 14) "told_in_time" ["jobs"] f_told_in_time fd_told_in_time) (G_told_in_time : FnG Hd.PP w K mg base T 2 f_told_in_time fd_told_in_time ["jobs"] sem_told_in_time) :
 FnG Hd.PP w K mg base T 6 f fd ["jobs"] sem_most_in_time :=
 have S := FS_most_in_time
 fnG_of D.F S fun cdv A outer s H hcd hr =>
 (show QSs _ T (C8.fnBody (stAt 15)) _ from
 (qss_cons (qs_expr (qe_callG G_look_at_dues (hr.mono (by decide)) (scT_get SC_most_in_time (i := 1) rfl) D_look_at_dues.hm D_look_at_dues.F.kp D_look_at_dues.hb (qa_cons (qe_var (i := 0) rfl (.inl (scT_get SC_most_in_time (i := 0) rfl))) qa_nil)))
 (qss_cons (qs_ret (qe_tuple B (scT_get SC_most_in_time (i := 3) rfl) (qe_callG G_told_in_time (hr.mono (by decide)) (scT_get SC_most_in_time (i := 2) rfl) D_told_in_time.hm D_told_in_time.F.kp D_told_in_time.hb (qa_cons (qe_var (i := 0) rfl (.inl (scT_get SC_most_in_time (i := 0) rfl))) qa_nil))))
 qss_nil)))
/-! are_in_time -/
def sem_are_in_time : Fn := fnS 4 2 (sCons (sExpr (eCall sem_look_at_dues (aCons (eVar 0) aNil)))
 (sCons (sIf (tOrQ (tNotQ (tV (eCall sem_are_ints (aCons (eVar 1) (aCons (eC (.int 0)) (aCons (eOp2 gSub (eOp1 gLen (eVar 0)) (eC (.int 1))) aNil)))))) (tCmp2 pNe (eFz (lOp1 seqOf (eVar 1))) (eFz (lOp1 gSSet (eVar 1))))) (sCons (sRet (eC (.bool false)))
 sNil) sNil)
 (sCons (sAsg (eC (.int 0)) (bName 2))
 (sCons (sFor (iSeq (eFz (lSortK (cSeq (eVar 1)) [("jobs", 0)] "one" (kOne (kIx (kIx (kVar "jobs") (kVar "one")) (kInt 1)))))) (bName 3) (sCons (sAug 2 gAddI (eOp2 gIx (eOp2 gIx (eVar 0) (eVar 3)) (eC (.int 0))))
 (sCons (sIf (tCmp2 pGt (eVar 2) (eOp2 gIx (eOp2 gIx (eVar 0) (eVar 3)) (eC (.int 1)))) (sCons (sRet (eC (.bool false)))
 sNil) sNil)
 sNil)))
 (sCons (sRet (eC (.bool true)))
 sNil)))))
theorem SC_are_in_time : scT (C8.fnScope (stAt 16)) [("jobs", .cell), ("some", .local), ("here", .local), ("at", .local), ("look_at_dues", .globalImplicit), ("len", .globalImplicit), ("are_ints", .globalImplicit), ("list", .globalImplicit), ("sorted", .globalImplicit), ("set", .globalImplicit)] = true := by kernel_rfl
theorem FS_are_in_time : FnScope ["jobs", "some", "here", "at"] ["jobs", "some"] (C8.fnScope (stAt 16)) := C8.fnScope_by (by kernel_rfl)
theorem G_are_in_time {w : World} {K : PySem.W.Frag} {mg : Str → Option Value} {base : Heap} {T : Tb} (B : Bls mg)
 {f : Addr} {fd : FuncData}
 (D : DefF K mg (stAt 16) "are_in_time" ["jobs", "some"] f fd)
 {f_are_ints : Addr} {fd_are_ints : FuncData} (D_are_ints : DefF K mg (stAt 6) "are_ints" ["value", "low", "high"] f_are_ints fd_are_ints) (G_are_ints : FnG Hd.PP w K mg base T 3 f_are_ints fd_are_ints ["value", "low", "high"] sem_are_ints)
 {f_look_at_dues : Addr} {fd_look_at_dues : FuncData} (D_look_at_dues : DefF K mg (stAt 13) "look_at_dues" ["jobs"] f_look_at_dues fd_look_at_dues) (G_look_at_dues : FnG Hd.PP w K mg base T 5 f_look_at_dues fd_look_at_dues ["jobs"] sem_look_at_dues)
 {c P : Addr} (LF : LamF base mg T "are_in_time" fd c P) :
 FnG Hd.PP w K mg base T 6 f fd ["jobs", "some"] sem_are_in_time :=
 have S := FS_are_in_time
 fnG_of D.F S fun cdv A outer s H hcd hr =>
 (show QSs _ T (C8.fnBody (stAt 16)) _ from
 (qss_cons (qs_expr (qe_callG G_look_at_dues (hr.mono (by decide)) (scT_get SC_are_in_time (i := 4) rfl) D_look_at_dues.hm D_look_at_dues.F.kp D_look_at_dues.hb (qa_cons (qe_var (i := 0) rfl (.inr (.inl (scT_get SC_are_in_time (i := 0) rfl)))) qa_nil)))
 (qss_cons (qs_if (QW.t (qw_or (qt_not (qt_val (qe_callG G_are_ints (hr.mono (by decide)) (scT_get SC_are_in_time (i := 6) rfl) D_are_ints.hm D_are_ints.F.kp D_are_ints.hb (qa_cons (qe_var (i := 1) rfl (.inl (scT_get SC_are_in_time (i := 1) rfl))) (qa_cons qe_int (qa_cons (qe_sub (qe_len B (scT_get SC_are_in_time (i := 5) rfl) (qe_var (i := 0) rfl (.inr (.inl (scT_get SC_are_in_time (i := 0) rfl))))) qe_int) qa_nil)))))) (qw_or1 (qt_cmp (c_ne hr.u) (qe_fz (ql_list B (scT_get SC_are_in_time (i := 7) rfl) (qe_var (i := 1) rfl (.inl (scT_get SC_are_in_time (i := 1) rfl))))) (qe_fz (ql_sset rfl B (scT_get SC_are_in_time (i := 8) rfl) (scT_get SC_are_in_time (i := 9) rfl) (qe_var (i := 1) rfl (.inl (scT_get SC_are_in_time (i := 1) rfl))))) rfl)))) (qss_cons (qs_ret qe_bl)
 qss_nil) qss_nil)
 (qss_cons (qs_set S.nd (i := 2) rfl (.inl (scT_get SC_are_in_time (i := 2) rfl)) qe_int rfl (.inl rfl))
 (qss_cons (qs_for (own := [3]) PassesOwn.never rfl (qi_seq (qe_fz (ql_sortedK hr.r B (scT_get SC_are_in_time (i := 8) rfl) (qe_var (i := 1) rfl (.inl (scT_get SC_are_in_time (i := 1) rfl))) (lamT_of (js := [("jobs", 0)]) (g := (kOne (kIx (kIx (kVar "jobs") (kVar "one")) (kInt 1)))) LF (hcd.symm.trans LF.code) rfl (by kernel_rfl) (fun _ _ _ _ _ _ => rfl) (by kernel_rfl) (rkt_one (rk_ix (rk_ix rk_var rk_var (fun _ _ => rfl)) rk_int (fun _ _ => rfl)))).q))) (qg_name S.nd (i := 3) rfl (.inl (scT_get SC_are_in_time (i := 3) rfl)) (by decide) (.inl rfl)) (qss_cons (qs_augAddI S.nd (i := 2) rfl (.inl (scT_get SC_are_in_time (i := 2) rfl)) (qe_ix (qe_ix (qe_var (i := 0) rfl (.inr (.inl (scT_get SC_are_in_time (i := 0) rfl)))) (qe_var (i := 3) rfl (.inl (scT_get SC_are_in_time (i := 3) rfl))) (fun _ _ => rfl)) qe_int (fun _ _ => rfl)) (.inl rfl))
 (qss_cons (qs_if (qt_cmp c_gt (qe_var (i := 2) rfl (.inl (scT_get SC_are_in_time (i := 2) rfl))) (qe_ix (qe_ix (qe_var (i := 0) rfl (.inr (.inl (scT_get SC_are_in_time (i := 0) rfl)))) (qe_var (i := 3) rfl (.inl (scT_get SC_are_in_time (i := 3) rfl))) (fun _ _ => rfl)) qe_int (fun _ _ => rfl)) rfl) (qss_cons (qs_ret qe_bl)
 qss_nil) qss_nil)
 qss_nil)))
 (qss_cons (qs_ret qe_bl)
 qss_nil))))))
/-! is_most_in_time -/
def sem_is_most_in_time : Fn := fnS 2 2 (sCons (sRet (eAnd (eCall sem_are_in_time (aCons (eVar 0) (aCons (eVar 1) aNil))) (eCall sem_is_int (aCons (eOp1 gLen (eVar 1)) (aCons (eOp1 gLen (eCall sem_told_in_time (aCons (eVar 0) aNil))) (aCons (eOp1 gLen (eVar 0)) aNil))))))
 sNil)
theorem SC_is_most_in_time : scT (C8.fnScope (stAt 17)) [("jobs", .local), ("value", .local), ("are_in_time", .globalImplicit), ("len", .globalImplicit), ("told_in_time", .globalImplicit), ("is_int", .globalImplicit)] = true := by kernel_rfl
theorem FS_is_most_in_time : FnScope ["jobs", "value"] ["jobs", "value"] (C8.fnScope (stAt 17)) := C8.fnScope_by (by kernel_rfl)
theorem G_is_most_in_time {w : World} {K : PySem.W.Frag} {mg : Str → Option Value} {base : Heap} {T : Tb} (B : Bls mg)
 {f : Addr} {fd : FuncData}
 (D : DefF K mg (stAt 17) "is_most_in_time" ["jobs", "value"] f fd)
 {f_is_int : Addr} {fd_is_int : FuncData} (D_is_int : DefF K mg (stAt 5) "is_int" ["value", "low", "high"] f_is_int fd_is_int) (G_is_int : FnG Hd.PP w K mg base T 2 f_is_int fd_is_int ["value", "low", "high"] sem_is_int)
 {f_told_in_time : Addr} {fd_told_in_time : FuncData} (D_told_in_time : DefF K mg (stAt 14) "told_in_time" ["jobs"] f_told_in_time fd_told_in_time) (G_told_in_time : FnG Hd.PP w K mg base T 2 f_told_in_time fd_told_in_time ["jobs"] sem_told_in_time)
 {f_are_in_time : Addr} {fd_are_in_time : FuncData} (D_are_in_time : DefF K mg (stAt 16) "are_in_time" ["jobs", "some"] f_are_in_time fd_are_in_time) (G_are_in_time : FnG Hd.PP w K mg base T 6 f_are_in_time fd_are_in_time ["jobs", "some"] sem_are_in_time) :
 FnG Hd.PP w K mg base T 7 f fd ["jobs", "value"] sem_is_most_in_time :=
 have S := FS_is_most_in_time
 fnG_of D.F S fun cdv A outer s H hcd hr =>
 (show QSs _ T (C8.fnBody (stAt 17)) _ from
 (qss_cons (qs_ret (qe_and (qe_callG G_are_in_time (hr.mono (by decide)) (scT_get SC_is_most_in_time (i := 2) rfl) D_are_in_time.hm D_are_in_time.F.kp D_are_in_time.hb (qa_cons (qe_var (i := 0) rfl (.inl (scT_get SC_is_most_in_time (i := 0) rfl))) (qa_cons (qe_var (i := 1) rfl (.inl (scT_get SC_is_most_in_time (i := 1) rfl))) qa_nil))) (qe_one (qe_callG G_is_int (hr.mono (by decide)) (scT_get SC_is_most_in_time (i := 5) rfl) D_is_int.hm D_is_int.F.kp D_is_int.hb (qa_cons (qe_len B (scT_get SC_is_most_in_time (i := 3) rfl) (qe_var (i := 1) rfl (.inl (scT_get SC_is_most_in_time (i := 1) rfl)))) (qa_cons (qe_len B (scT_get SC_is_most_in_time (i := 3) rfl) (qe_callG G_told_in_time (hr.mono (by decide)) (scT_get SC_is_most_in_time (i := 4) rfl) D_told_in_time.hm D_told_in_time.F.kp D_told_in_time.hb (qa_cons (qe_var (i := 0) rfl (.inl (scT_get SC_is_most_in_time (i := 0) rfl))) qa_nil))) (qa_cons (qe_len B (scT_get SC_is_most_in_time (i := 3) rfl) (qe_var (i := 0) rfl (.inl (scT_get SC_is_most_in_time (i := 0) rfl)))) qa_nil)))))))
 qss_nil))
/-! are_tasks -/
def sem_are_tasks : Fn := fnS 2 1 (sCons (sIf (tOrQ (tNotQ (tV (eOp1 (gIsi "tuple") (eVar 0)))) (tCmp2 pGt (eOp1 gLen (eVar 0)) (eC (.int 24)))) (sCons (sRet (eC (.bool false)))
 sNil) sNil)
 (sCons (sFor (iSeq (eVar 0)) (bName 1) (sCons (sIf (tOrQ (tNotQ (tV (eCall sem_are_ints (aCons (eVar 1) (aCons (eC (.int 0)) (aCons (eOp2 gAdd (eC (.int 1000000)) (eC (.int 1000))) aNil)))))) (tOrQ (tCmp2 pNe (eOp1 gLen (eVar 1)) (eOp2 gAdd (eC (.int 2)) (eC (.int 1)))) (tNotQ (tChn pLe pLe (eC (.int 1)) (eOp2 gIx (eVar 1) (eC (.int 1))) (eC (.int 1000)))))) (sCons (sRet (eC (.bool false)))
 sNil) sNil)
 sNil))
 (sCons (sRet (eC (.bool true)))
 sNil)))
theorem SC_are_tasks : scT (C8.fnScope (stAt 21)) [("value", .local), ("one", .local), ("isinstance", .globalImplicit), ("tuple", .globalImplicit), ("len", .globalImplicit), ("MOST_WORKS", .globalImplicit), ("MOST_TIME", .globalImplicit), ("MOST_LENGTH", .globalImplicit), ("are_ints", .globalImplicit)] = true := by kernel_rfl
theorem FS_are_tasks : FnScope ["value", "one"] ["value"] (C8.fnScope (stAt 21)) := C8.fnScope_by (by kernel_rfl)
theorem G_are_tasks {w : World} {K : PySem.W.Frag} {mg : Str → Option Value} {base : Heap} {T : Tb} (B : Bls mg)
 (c_MOST_LENGTH : ∃ t, mg "MOST_LENGTH" = some (.int 1000 t))
 (c_MOST_TIME : ∃ t, mg "MOST_TIME" = some (.int 1000000 t))
 (c_MOST_WORKS : ∃ t, mg "MOST_WORKS" = some (.int 24 t))
 {f : Addr} {fd : FuncData}
 (D : DefF K mg (stAt 21) "are_tasks" ["value"] f fd)
 {f_are_ints : Addr} {fd_are_ints : FuncData} (D_are_ints : DefF K mg (stAt 6) "are_ints" ["value", "low", "high"] f_are_ints fd_are_ints) (G_are_ints : FnG Hd.PP w K mg base T 3 f_are_ints fd_are_ints ["value", "low", "high"] sem_are_ints) :
 FnG Hd.PP w K mg base T 4 f fd ["value"] sem_are_tasks :=
 have S := FS_are_tasks
 fnG_of D.F S fun cdv A outer s H hcd hr =>
 (show QSs _ T (C8.fnBody (stAt 21)) _ from
 (qss_cons (qs_if (QW.t (qw_or (qt_not (qt_val (qe_isiI B (by decide) (scT_get SC_are_tasks (i := 2) rfl) (scT_get SC_are_tasks (i := 3) rfl) B.tuple (by decide +kernel) (qe_var (i := 0) rfl (.inl (scT_get SC_are_tasks (i := 0) rfl))) (by decide) (by decide)))) (qw_or1 (qt_cmp c_gt (qe_len B (scT_get SC_are_tasks (i := 4) rfl) (qe_var (i := 0) rfl (.inl (scT_get SC_are_tasks (i := 0) rfl)))) (qe_gint (i := 24) c_MOST_WORKS (scT_get SC_are_tasks (i := 5) rfl)) rfl)))) (qss_cons (qs_ret qe_bl)
 qss_nil) qss_nil)
 (qss_cons (qs_for (own := [1]) PassesOwn.never rfl (qi_seq (qe_var (i := 0) rfl (.inl (scT_get SC_are_tasks (i := 0) rfl)))) (qg_name S.nd (i := 1) rfl (.inl (scT_get SC_are_tasks (i := 1) rfl)) (by decide) (.inl rfl)) (qss_cons (qs_if (QW.t (qw_or (qt_not (qt_val (qe_callG G_are_ints (hr.mono (by decide)) (scT_get SC_are_tasks (i := 8) rfl) D_are_ints.hm D_are_ints.F.kp D_are_ints.hb (qa_cons (qe_var (i := 1) rfl (.inl (scT_get SC_are_tasks (i := 1) rfl))) (qa_cons qe_int (qa_cons (qe_add (qe_gint (i := 1000000) c_MOST_TIME (scT_get SC_are_tasks (i := 6) rfl)) (qe_gint (i := 1000) c_MOST_LENGTH (scT_get SC_are_tasks (i := 7) rfl))) qa_nil)))))) (qw_or (qt_cmp (c_ne hr.u) (qe_len B (scT_get SC_are_tasks (i := 4) rfl) (qe_var (i := 1) rfl (.inl (scT_get SC_are_tasks (i := 1) rfl)))) (qe_add qe_int qe_int) rfl) (qw_or1 (qt_not (qt_chain c_le c_le qe_int (qe_ix (qe_var (i := 1) rfl (.inl (scT_get SC_are_tasks (i := 1) rfl))) qe_int (fun _ _ => rfl)) (qe_gint (i := 1000) c_MOST_LENGTH (scT_get SC_are_tasks (i := 7) rfl)))))))) (qss_cons (qs_ret qe_bl)
 qss_nil) qss_nil)
 qss_nil))
 (qss_cons (qs_ret qe_bl)
 qss_nil))))
/-! look_at_tasks -/
def sem_look_at_tasks : Fn := fnS 1 1 (sCons (sIf (tNotQ (tV (eCall sem_are_tasks (aCons (eVar 0) aNil)))) (sCons sNever
 sNil) sNil)
 sNil)
theorem SC_look_at_tasks : scT (C8.fnScope (stAt 22)) [("tasks", .local), ("are_tasks", .globalImplicit)] = true := by kernel_rfl
theorem FS_look_at_tasks : FnScope ["tasks"] ["tasks"] (C8.fnScope (stAt 22)) := C8.fnScope_by (by kernel_rfl)
theorem G_look_at_tasks {w : World} {K : PySem.W.Frag} {mg : Str → Option Value} {base : Heap} {T : Tb} (B : Bls mg)
 {f : Addr} {fd : FuncData}
 (D : DefF K mg (stAt 22) "look_at_tasks" ["tasks"] f fd)
 {f_are_tasks : Addr} {fd_are_tasks : FuncData} (D_are_tasks : DefF K mg (stAt 21) "are_tasks" ["value"] f_are_tasks fd_are_tasks) (G_are_tasks : FnG Hd.PP w K mg base T 4 f_are_tasks fd_are_tasks ["value"] sem_are_tasks) :
 FnG Hd.PP w K mg base T 5 f fd ["tasks"] sem_look_at_tasks :=
 have S := FS_look_at_tasks
 fnG_of D.F S fun cdv A outer s H hcd hr =>
 (show QSs _ T (C8.fnBody (stAt 22)) _ from
 (qss_cons (qs_if (qt_not (qt_val (qe_callG G_are_tasks (hr.mono (by decide)) (scT_get SC_look_at_tasks (i := 1) rfl) D_are_tasks.hm D_are_tasks.F.kp D_are_tasks.hb (qa_cons (qe_var (i := 0) rfl (.inl (scT_get SC_look_at_tasks (i := 0) rfl))) qa_nil)))) (qss_cons qs_never
 qss_nil) qss_nil)
 qss_nil))
/-! told_over -/
def sem_told_over : Fn := fnS 5 2 (sCons (sAsg (eOwn (lComp [3] (iSeq (eVar 1)) (bName 3) tYesQ (eOp2 gIx (eVar 0) (eVar 3)))) (bName 2))
 (sFrz 2 (sCons (sRet (eOp2 gSub (eOp1 gSum (eFz (lComp [4] (iSeq (eVar 2)) (bName 4) tYesQ (eOp2 gIx (eVar 4) (eC (.int 1)))))) (eOp2 gSub (eOp1 (gBest PySem.W.maxD) (eFz (lComp [4] (iSeq (eVar 2)) (bName 4) tYesQ (eOp2 gIx (eVar 4) (eC (.int 2)))))) (eOp1 (gBest PySem.W.minD) (eFz (lComp [4] (iSeq (eVar 2)) (bName 4) tYesQ (eOp2 gIx (eVar 4) (eC (.int 0)))))))))
 sNil)))
theorem SC_told_over : scT (C8.fnScope (stAt 23)) [("tasks", .cell), ("lot", .local), ("some", .local), ("sum", .globalImplicit), ("max", .globalImplicit), ("min", .globalImplicit)] = true := by kernel_rfl
theorem FS_told_over : FnScope ["tasks", "lot", "some", "at", "one"] ["tasks", "lot"] (C8.fnScope (stAt 23)) := C8.fnScope_by (by kernel_rfl)
theorem G_told_over {w : World} {K : PySem.W.Frag} {mg : Str → Option Value} {base : Heap} {T : Tb} (B : Bls mg)
 {f : Addr} {fd : FuncData}
 (D : DefF K mg (stAt 23) "told_over" ["tasks", "lot"] f fd) :
 FnG Hd.PP w K mg base T 2 f fd ["tasks", "lot"] sem_told_over :=
 have S := FS_told_over
 fnG_of D.F S fun cdv A outer s H hcd hr =>
 (show QSs _ T (C8.fnBody (stAt 23)) _ from
 (qss_cons (qs_setLc (own := [("at", 3)]) (l := [("at", .local), ("tasks", .cell)]) rfl S.nd (i := 2) rfl (scT_get SC_told_over (i := 2) rfl) rfl rfl (by kernel_rfl) (by kernel_rfl) (by kernel_rfl) (qi_seq (qe_var (i := 1) rfl (.inl (scT_get SC_told_over (i := 1) rfl)))) (fun g s H C cl fp => (qg_name S.nd (i := 3) rfl (.inl (scT_get g (i := 0) rfl)) (by decide) (.inr (scT_get g (i := 0) rfl)))) (fun g s H C cl fp => qts_nil) (fun g s H C cl fp => (qe_ix (qe_var (i := 0) rfl (.inr (.inl (scT_get g (i := 1) rfl)))) (qe_var (i := 3) rfl (.inl (scT_get g (i := 0) rfl))) (fun _ _ => rfl))))
 (qss_frz 2 (qss_cons (qs_ret (qe_sub (qe_sum rfl B (scT_get SC_told_over (i := 3) rfl) (qe_fz (ql_compS (own := [("one", 4)]) (l := [("one", .local)]) rfl S.nd (by kernel_rfl) (by kernel_rfl) (qi_seq (qe_var (i := 2) rfl (.inl (scT_get SC_told_over (i := 2) rfl)))) (fun g s H C cl fp => (qg_name S.nd (i := 4) rfl (.inl (scT_get g (i := 0) rfl)) (by decide) (.inr (scT_get g (i := 0) rfl)))) (fun g s H C cl fp => qts_nil) (fun g s H C cl fp => (qe_ix (qe_var (i := 4) rfl (.inl (scT_get g (i := 0) rfl))) qe_int (fun _ _ => rfl)))))) (qe_sub (qe_maxD hr.r rfl B (scT_get SC_told_over (i := 4) rfl) (qe_fz (ql_compS (own := [("one", 4)]) (l := [("one", .local)]) rfl S.nd (by kernel_rfl) (by kernel_rfl) (qi_seq (qe_var (i := 2) rfl (.inl (scT_get SC_told_over (i := 2) rfl)))) (fun g s H C cl fp => (qg_name S.nd (i := 4) rfl (.inl (scT_get g (i := 0) rfl)) (by decide) (.inr (scT_get g (i := 0) rfl)))) (fun g s H C cl fp => qts_nil) (fun g s H C cl fp => (qe_ix (qe_var (i := 4) rfl (.inl (scT_get g (i := 0) rfl))) qe_int (fun _ _ => rfl)))))) (qe_minD hr.r rfl B (scT_get SC_told_over (i := 5) rfl) (qe_fz (ql_compS (own := [("one", 4)]) (l := [("one", .local)]) rfl S.nd (by kernel_rfl) (by kernel_rfl) (qi_seq (qe_var (i := 2) rfl (.inl (scT_get SC_told_over (i := 2) rfl)))) (fun g s H C cl fp => (qg_name S.nd (i := 4) rfl (.inl (scT_get g (i := 0) rfl)) (by decide) (.inr (scT_get g (i := 0) rfl)))) (fun g s H C cl fp => qts_nil) (fun g s H C cl fp => (qe_ix (qe_var (i := 4) rfl (.inl (scT_get g (i := 0) rfl))) qe_int (fun _ _ => rfl)))))))))
 qss_nil))))
/-! told_lots -/
def sem_told_lots : Fn := fnS 7 1 (sCons (sAsg (eOwn (lDisp aNil)) (bName 1))
 (sCons (sFor (iSeq (eFz (lOp1 gSSet (eFz (lComp [5] (iSeq (eVar 0)) (bName 5) tYesQ (eOp2 gIx (eVar 5) (eC (.int 0)))))))) (bName 2) (sCons (sFor (iSeq (eFz (lOp1 gSSet (eFz (lComp [5] (iSeq (eVar 0)) (bName 5) tYesQ (eOp2 gIx (eVar 5) (eC (.int 2)))))))) (bName 3) (sCons (sAsg (eOwn (lComp [6, 5] (iEn (eVar 0)) (bTup 2 (bsCons (bName 6) (bsCons (bName 5) bsNil))) (tAndQ (tCmp2 pLe (eVar 2) (eOp2 gIx (eVar 5) (eC (.int 0)))) (tCmp2 pLe (eOp2 gIx (eVar 5) (eC (.int 2))) (eVar 3))) (eVar 6))) (bName 4))
 (sFrz 4 (sCons (sIf (tCmp2 pNe (eVar 4) (eFz (lDisp aNil))) (sCons (sExpr (eMeth gApp (eVar 1) (eVar 4)))
 sNil) sNil)
 sNil))))
 sNil))
 (sFrz 1 (sCons (sRet (eVar 1))
 sNil))))
theorem SC_told_lots : scT (C8.fnScope (stAt 24)) [("tasks", .local), ("found", .local), ("begin", .cell), ("behind", .cell), ("lot", .local), ("sorted", .globalImplicit), ("set", .globalImplicit), ("enumerate", .globalImplicit)] = true := by kernel_rfl
theorem FS_told_lots : FnScope ["tasks", "found", "begin", "behind", "lot", "one", "at"] ["tasks"] (C8.fnScope (stAt 24)) := C8.fnScope_by (by kernel_rfl)
theorem G_told_lots {w : World} {K : PySem.W.Frag} {mg : Str → Option Value} {base : Heap} {T : Tb} (B : Bls mg)
 {f : Addr} {fd : FuncData}
 (D : DefF K mg (stAt 24) "told_lots" ["tasks"] f fd) :
 FnG Hd.PP w K mg base T 2 f fd ["tasks"] sem_told_lots :=
 have S := FS_told_lots
 fnG_of D.F S fun cdv A outer s H hcd hr =>
 (show QSs _ T (C8.fnBody (stAt 24)) _ from
 (qss_cons (qs_set S.nd (i := 1) rfl (.inl (scT_get SC_told_lots (i := 1) rfl)) (qe_own (ql_lst qa_nil)) rfl (.inl rfl))
 (qss_cons (qs_for (own := [2]) PassesOwn.never rfl (qi_seq (qe_fz (ql_sset rfl B (scT_get SC_told_lots (i := 5) rfl) (scT_get SC_told_lots (i := 6) rfl) (qe_fz (ql_compS (own := [("one", 5)]) (l := [("one", .local)]) rfl S.nd (by kernel_rfl) (by kernel_rfl) (qi_seq (qe_var (i := 0) rfl (.inl (scT_get SC_told_lots (i := 0) rfl)))) (fun g s H C cl fp => (qg_name S.nd (i := 5) rfl (.inl (scT_get g (i := 0) rfl)) (by decide) (.inr (scT_get g (i := 0) rfl)))) (fun g s H C cl fp => qts_nil) (fun g s H C cl fp => (qe_ix (qe_var (i := 5) rfl (.inl (scT_get g (i := 0) rfl))) qe_int (fun _ _ => rfl)))))))) (qg_name S.nd (i := 2) rfl (.inr (scT_get SC_told_lots (i := 2) rfl)) (by decide) (.inl rfl)) (qss_cons (qs_for (own := [3]) PassesOwn.never rfl (qi_seq (qe_fz (ql_sset rfl B (scT_get SC_told_lots (i := 5) rfl) (scT_get SC_told_lots (i := 6) rfl) (qe_fz (ql_compS (own := [("one", 5)]) (l := [("one", .local)]) rfl S.nd (by kernel_rfl) (by kernel_rfl) (qi_seq (qe_var (i := 0) rfl (.inl (scT_get SC_told_lots (i := 0) rfl)))) (fun g s H C cl fp => (qg_name S.nd (i := 5) rfl (.inl (scT_get g (i := 0) rfl)) (by decide) (.inr (scT_get g (i := 0) rfl)))) (fun g s H C cl fp => qts_nil) (fun g s H C cl fp => (qe_ix (qe_var (i := 5) rfl (.inl (scT_get g (i := 0) rfl))) qe_int (fun _ _ => rfl)))))))) (qg_name S.nd (i := 3) rfl (.inr (scT_get SC_told_lots (i := 3) rfl)) (by decide) (.inl rfl)) (qss_cons (qs_setLc (own := [("at", 6), ("one", 5)]) (l := [("one", .local), ("at", .local), ("begin", .cell), ("behind", .cell)]) rfl S.nd (i := 4) rfl (scT_get SC_told_lots (i := 4) rfl) rfl rfl (by kernel_rfl) (by kernel_rfl) (by kernel_rfl) (qi_enum B (scT_get SC_told_lots (i := 7) rfl) (qe_var (i := 0) rfl (.inl (scT_get SC_told_lots (i := 0) rfl)))) (fun g s H C cl fp => (qg_tup rfl (qgs_cons (qg_name S.nd (i := 6) rfl (.inl (scT_get g (i := 1) rfl)) (by decide) (.inr (scT_get g (i := 1) rfl))) (qgs_cons (qg_name S.nd (i := 5) rfl (.inl (scT_get g (i := 0) rfl)) (by decide) (.inr (scT_get g (i := 0) rfl))) qgs_nil)))) (fun g s H C cl fp => (qts_one (QW.t (qw_and (qt_cmp c_le (qe_var (i := 2) rfl (.inr (.inl (scT_get g (i := 2) rfl)))) (qe_ix (qe_var (i := 5) rfl (.inl (scT_get g (i := 0) rfl))) qe_int (fun _ _ => rfl)) rfl) (qw_and1 (qt_cmp c_le (qe_ix (qe_var (i := 5) rfl (.inl (scT_get g (i := 0) rfl))) qe_int (fun _ _ => rfl)) (qe_var (i := 3) rfl (.inr (.inl (scT_get g (i := 3) rfl)))) rfl)))))) (fun g s H C cl fp => (qe_var (i := 6) rfl (.inl (scT_get g (i := 1) rfl)))))
 (qss_frz 4 (qss_cons (qs_if (qt_cmp (c_ne hr.u) (qe_var (i := 4) rfl (.inl (scT_get SC_told_lots (i := 4) rfl))) (qe_fz (ql_lst qa_nil)) rfl) (qss_cons (qs_expr (qe_append (qe_var (i := 1) rfl (.inl (scT_get SC_told_lots (i := 1) rfl))) (qe_var (i := 4) rfl (.inl (scT_get SC_told_lots (i := 4) rfl)))))
 qss_nil) qss_nil)
 qss_nil))))
 qss_nil))
 (qss_frz 1 (qss_cons (qs_ret (qe_var (i := 1) rfl (.inl (scT_get SC_told_lots (i := 1) rfl))))
 qss_nil)))))
/-! told_worst -/
def sem_told_worst : Fn := fnS 4 1 (sCons (sAsg (eTup (aCons (eC .none) (aCons (eFz (lDisp aNil)) aNil))) (bName 1))
 (sCons (sFor (iSeq (eCall sem_told_lots (aCons (eVar 0) aNil))) (bName 2) (sCons (sAsg (eCall sem_told_over (aCons (eVar 0) (aCons (eVar 2) aNil))) (bName 3))
 (sCons (sIf (tOrQ (tCmp2 pIs (eOp2 gIx (eVar 1) (eC (.int 0))) (eC .none)) (tCmp2 pGt (eVar 3) (eOp2 gIx (eVar 1) (eC (.int 0))))) (sCons (sAsg (eTup (aCons (eVar 3) (aCons (eVar 2) aNil))) (bName 1))
 sNil) sNil)
 sNil)))
 (sCons (sRet (eVar 1))
 sNil)))
theorem SC_told_worst : scT (C8.fnScope (stAt 25)) [("tasks", .local), ("best", .local), ("lot", .local), ("over", .local), ("told_lots", .globalImplicit), ("told_over", .globalImplicit)] = true := by kernel_rfl
theorem FS_told_worst : FnScope ["tasks", "best", "lot", "over"] ["tasks"] (C8.fnScope (stAt 25)) := C8.fnScope_by (by kernel_rfl)
theorem G_told_worst {w : World} {K : PySem.W.Frag} {mg : Str → Option Value} {base : Heap} {T : Tb} (B : Bls mg)
 {f : Addr} {fd : FuncData}
 (D : DefF K mg (stAt 25) "told_worst" ["tasks"] f fd)
 {f_told_over : Addr} {fd_told_over : FuncData} (D_told_over : DefF K mg (stAt 23) "told_over" ["tasks", "lot"] f_told_over fd_told_over) (G_told_over : FnG Hd.PP w K mg base T 2 f_told_over fd_told_over ["tasks", "lot"] sem_told_over)
 {f_told_lots : Addr} {fd_told_lots : FuncData} (D_told_lots : DefF K mg (stAt 24) "told_lots" ["tasks"] f_told_lots fd_told_lots) (G_told_lots : FnG Hd.PP w K mg base T 2 f_told_lots fd_told_lots ["tasks"] sem_told_lots) :
 FnG Hd.PP w K mg base T 3 f fd ["tasks"] sem_told_worst :=
 have S := FS_told_worst
 fnG_of D.F S fun cdv A outer s H hcd hr =>
 (show QSs _ T (C8.fnBody (stAt 25)) _ from
 (qss_cons (qs_set S.nd (i := 1) rfl (.inl (scT_get SC_told_worst (i := 1) rfl)) (qe_tup (qa_cons qe_non (qa_cons (qe_fz (ql_lst qa_nil)) qa_nil))) rfl (.inl rfl))
 (qss_cons (qs_for (own := [2]) PassesOwn.never rfl (qi_seq (qe_callG G_told_lots (hr.mono (by decide)) (scT_get SC_told_worst (i := 4) rfl) D_told_lots.hm D_told_lots.F.kp D_told_lots.hb (qa_cons (qe_var (i := 0) rfl (.inl (scT_get SC_told_worst (i := 0) rfl))) qa_nil))) (qg_name S.nd (i := 2) rfl (.inl (scT_get SC_told_worst (i := 2) rfl)) (by decide) (.inl rfl)) (qss_cons (qs_set S.nd (i := 3) rfl (.inl (scT_get SC_told_worst (i := 3) rfl)) (qe_callG G_told_over (hr.mono (by decide)) (scT_get SC_told_worst (i := 5) rfl) D_told_over.hm D_told_over.F.kp D_told_over.hb (qa_cons (qe_var (i := 0) rfl (.inl (scT_get SC_told_worst (i := 0) rfl))) (qa_cons (qe_var (i := 2) rfl (.inl (scT_get SC_told_worst (i := 2) rfl))) qa_nil))) rfl (.inl rfl))
 (qss_cons (qs_if (QW.t (qw_or (qt_cmp c_is (qe_ix (qe_var (i := 1) rfl (.inl (scT_get SC_told_worst (i := 1) rfl))) qe_int (fun _ _ => rfl)) qe_non rfl) (qw_or1 (qt_cmp c_gt (qe_var (i := 3) rfl (.inl (scT_get SC_told_worst (i := 3) rfl))) (qe_ix (qe_var (i := 1) rfl (.inl (scT_get SC_told_worst (i := 1) rfl))) qe_int (fun _ _ => rfl)) rfl)))) (qss_cons (qs_set S.nd (i := 1) rfl (.inl (scT_get SC_told_worst (i := 1) rfl)) (qe_tup (qa_cons (qe_var (i := 3) rfl (.inl (scT_get SC_told_worst (i := 3) rfl))) (qa_cons (qe_var (i := 2) rfl (.inl (scT_get SC_told_worst (i := 2) rfl))) qa_nil))) rfl (.inl rfl))
 qss_nil) qss_nil)
 qss_nil)))
 (qss_cons (qs_ret (qe_var (i := 1) rfl (.inl (scT_get SC_told_worst (i := 1) rfl))))
 qss_nil))))
/-! too_long -/
def sem_too_long : Fn := fnS 1 1 (sCons (sExpr (eCall sem_look_at_tasks (aCons (eVar 0) aNil)))
 (sCons (sRet (eOp2 gIx (eCall sem_told_worst (aCons (eVar 0) aNil)) (eC (.int 0))))
 sNil))
theorem SC_too_long : scT (C8.fnScope (stAt 26)) [("tasks", .local), ("look_at_tasks", .globalImplicit), ("told_worst", .globalImplicit)] = true := by kernel_rfl
theorem FS_too_long : FnScope ["tasks"] ["tasks"] (C8.fnScope (stAt 26)) := C8.fnScope_by (by kernel_rfl)
theorem G_too_long {w : World} {K : PySem.W.Frag} {mg : Str → Option Value} {base : Heap} {T : Tb} (B : Bls mg)
 {f : Addr} {fd : FuncData}
 (D : DefF K mg (stAt 26) "too_long" ["tasks"] f fd)
 {f_look_at_tasks : Addr} {fd_look_at_tasks : FuncData} (D_look_at_tasks : DefF K mg (stAt 22) "look_at_tasks" ["tasks"] f_look_at_tasks fd_look_at_tasks) (G_look_at_tasks : FnG Hd.PP w K mg base T 5 f_look_at_tasks fd_look_at_tasks ["tasks"] sem_look_at_tasks)
 {f_told_worst : Addr} {fd_told_worst : FuncData} (D_told_worst : DefF K mg (stAt 25) "told_worst" ["tasks"] f_told_worst fd_told_worst) (G_told_worst : FnG Hd.PP w K mg base T 3 f_told_worst fd_told_worst ["tasks"] sem_told_worst) :
 FnG Hd.PP w K mg base T 6 f fd ["tasks"] sem_too_long :=
 have S := FS_too_long
 fnG_of D.F S fun cdv A outer s H hcd hr =>
 (show QSs _ T (C8.fnBody (stAt 26)) _ from
 (qss_cons (qs_expr (qe_callG G_look_at_tasks (hr.mono (by decide)) (scT_get SC_too_long (i := 1) rfl) D_look_at_tasks.hm D_look_at_tasks.F.kp D_look_at_tasks.hb (qa_cons (qe_var (i := 0) rfl (.inl (scT_get SC_too_long (i := 0) rfl))) qa_nil)))
 (qss_cons (qs_ret (qe_ix (qe_callG G_told_worst (hr.mono (by decide)) (scT_get SC_too_long (i := 2) rfl) D_told_worst.hm D_told_worst.F.kp D_told_worst.hb (qa_cons (qe_var (i := 0) rfl (.inl (scT_get SC_too_long (i := 0) rfl))) qa_nil)) qe_int (fun _ _ => rfl)))
 qss_nil)))
/-! told_broken -/
def sem_told_broken : Fn := fnS 11 1 (sCons (sParT [1, 2, 3] (aCons (eOwn (lComp [8] (iSeq (eVar 0)) (bName 8) tYesQ (eOp2 gIx (eVar 8) (eC (.int 1))))) (aCons (eC (.int 0)) (aCons (eOwn (lDisp aNil)) aNil))))
 (sCons (whileD (tCmp2 pGt (eOp1 gSum (eVar 1)) (eC (.int 0))) (sCons (sAsg (eOwn (lComp [9, 8] (iEn (eVar 0)) (bTup 2 (bsCons (bName 9) (bsCons (bName 8) bsNil))) (tAndQ (tCmp2 pGt (eOp2 gIx (eVar 1) (eVar 9)) (eC (.int 0))) (tCmp2 pLe (eOp2 gIx (eVar 8) (eC (.int 0))) (eVar 2))) (eVar 9))) (bName 4))
 (sFrz 4 (sCons (sAsg (eOwn (lComp [9, 8] (iEn (eVar 0)) (bTup 2 (bsCons (bName 9) (bsCons (bName 8) bsNil))) (tAndQ (tCmp2 pGt (eOp2 gIx (eVar 1) (eVar 9)) (eC (.int 0))) (tCmp2 pGt (eOp2 gIx (eVar 8) (eC (.int 0))) (eVar 2))) (eOp2 gIx (eVar 8) (eC (.int 0))))) (bName 5))
 (sFrz 5 (sCons (sIf (tCmp2 pEq (eVar 4) (eFz (lDisp aNil))) (sCons (sAsg (eOp1 (gBest PySem.W.minD) (eVar 5)) (bName 2))
 (sCons sCnt
 sNil)) sNil)
 (sCons (sAsg (eBestK PySem.W.dataLt (eVar 4) [("tasks", 0)] "at" (kTwo (kIx (kIx (kVar "tasks") (kVar "at")) (kInt 2)) (kVar "at"))) (bName 6))
 (sCons (sAsg (eOp1 (gBest PySem.W.minD) (eFz (lDisp (aCons (eOp2 gIx (eVar 1) (eVar 6)) (aStar (eFz (lComp [10] (iSeq (eVar 5)) (bName 10) tYesQ (eOp2 gSub (eVar 10) (eVar 2)))) aNil))))) (bName 7))
 (sCons (sIf (tAndQ (tCmp2 pNe (eVar 3) (eFz (lDisp aNil))) (tAndQ (tCmp2 pEq (eOp2 gIx (eOp2 gIx (eVar 3) (eOp1 gNeg (eC (.int 1)))) (eC (.int 0))) (eVar 6)) (tCmp2 pEq (eOp2 gIx (eOp2 gIx (eVar 3) (eOp1 gNeg (eC (.int 1)))) (eC (.int 2))) (eVar 2)))) (sCons (sAsg (eTup (aCons (eVar 6) (aCons (eOp2 gIx (eOp2 gIx (eVar 3) (eOp1 gNeg (eC (.int 1)))) (eC (.int 1))) (aCons (eOp2 gAdd (eVar 2) (eVar 7)) aNil)))) (bSub (eVar 3) (eOp1 gNeg (eC (.int 1)))))
 sNil) (sCons (sExpr (eMeth gApp (eVar 3) (eTup (aCons (eVar 6) (aCons (eVar 2) (aCons (eOp2 gAdd (eVar 2) (eVar 7)) aNil))))))
 sNil))
 (sCons (sAugIx gSub (eVar 1) (eVar 6) (eVar 7))
 (sCons (sAug 2 gAddI (eVar 7))
 sNil)))))))))) 100000)
 (sFrz 3 (sCons (sRet (eVar 3))
 sNil))))
theorem SC_told_broken : scT (C8.fnScope (stAt 27)) [("tasks", .cell), ("left", .cell), ("here", .cell), ("found", .local), ("begun", .local), ("later", .local), ("task", .local), ("long", .local), ("sum", .globalImplicit), ("enumerate", .globalImplicit), ("min", .globalImplicit)] = true := by kernel_rfl
theorem FS_told_broken : FnScope ["tasks", "left", "here", "found", "begun", "later", "task", "long", "one", "at", "begin"] ["tasks"] (C8.fnScope (stAt 27)) := C8.fnScope_by (by kernel_rfl)
theorem G_told_broken {w : World} {K : PySem.W.Frag} {mg : Str → Option Value} {base : Heap} {T : Tb} (B : Bls mg)
 {f : Addr} {fd : FuncData}
 (D : DefF K mg (stAt 27) "told_broken" ["tasks"] f fd)
 {c P : Addr} (LF : LamF base mg T "told_broken" fd c P) :
 FnG Hd.PP w K mg base T 2 f fd ["tasks"] sem_told_broken :=
 have S := FS_told_broken
 fnG_of D.F S fun cdv A outer s H hcd hr =>
 (show QSs _ T (C8.fnBody (stAt 27)) _ from
 (qss_cons (qs_parT rfl (qa_cons (qe_own (ql_compS (own := [("one", 8)]) (l := [("one", .local)]) rfl S.nd (by kernel_rfl) (by kernel_rfl) (qi_seq (qe_var (i := 0) rfl (.inr (.inl (scT_get SC_told_broken (i := 0) rfl))))) (fun g s H C cl fp => (qg_name S.nd (i := 8) rfl (.inl (scT_get g (i := 0) rfl)) (by decide) (.inr (scT_get g (i := 0) rfl)))) (fun g s H C cl fp => qts_nil) (fun g s H C cl fp => (qe_ix (qe_var (i := 8) rfl (.inl (scT_get g (i := 0) rfl))) qe_int (fun _ _ => rfl))))) (qa_cons qe_int (qa_cons (qe_own (ql_lst qa_nil)) qa_nil))) (qvs_cons S.nd (i := 1) rfl (.inr (scT_get SC_told_broken (i := 1) rfl)) (qvs_cons S.nd (i := 2) rfl (.inr (scT_get SC_told_broken (i := 2) rfl)) (qvs_cons S.nd (i := 3) rfl (.inl (scT_get SC_told_broken (i := 3) rfl)) qvs_nil (.inl rfl)) (.inl rfl)) (.inl rfl)) (by kernel_rfl))
 (qss_cons (qs_while 100000 PassesOwn.never (qt_cmp c_gt (qe_sum rfl B (scT_get SC_told_broken (i := 8) rfl) (qe_var (i := 1) rfl (.inr (.inl (scT_get SC_told_broken (i := 1) rfl))))) qe_int rfl) (qss_cons (qs_setLc (own := [("at", 9), ("one", 8)]) (l := [("one", .local), ("at", .local), ("left", .cell), ("here", .cell)]) rfl S.nd (i := 4) rfl (scT_get SC_told_broken (i := 4) rfl) rfl rfl (by kernel_rfl) (by kernel_rfl) (by kernel_rfl) (qi_enum B (scT_get SC_told_broken (i := 9) rfl) (qe_var (i := 0) rfl (.inr (.inl (scT_get SC_told_broken (i := 0) rfl))))) (fun g s H C cl fp => (qg_tup rfl (qgs_cons (qg_name S.nd (i := 9) rfl (.inl (scT_get g (i := 1) rfl)) (by decide) (.inr (scT_get g (i := 1) rfl))) (qgs_cons (qg_name S.nd (i := 8) rfl (.inl (scT_get g (i := 0) rfl)) (by decide) (.inr (scT_get g (i := 0) rfl))) qgs_nil)))) (fun g s H C cl fp => (qts_one (QW.t (qw_and (qt_cmp c_gt (qe_ix (qe_var (i := 1) rfl (.inr (.inl (scT_get g (i := 2) rfl)))) (qe_var (i := 9) rfl (.inl (scT_get g (i := 1) rfl))) (fun _ _ => rfl)) qe_int rfl) (qw_and1 (qt_cmp c_le (qe_ix (qe_var (i := 8) rfl (.inl (scT_get g (i := 0) rfl))) qe_int (fun _ _ => rfl)) (qe_var (i := 2) rfl (.inr (.inl (scT_get g (i := 3) rfl)))) rfl)))))) (fun g s H C cl fp => (qe_var (i := 9) rfl (.inl (scT_get g (i := 1) rfl)))))
 (qss_frz 4 (qss_cons (qs_setLc (own := [("at", 9), ("one", 8)]) (l := [("one", .local), ("at", .local), ("left", .cell), ("here", .cell)]) rfl S.nd (i := 5) rfl (scT_get SC_told_broken (i := 5) rfl) rfl rfl (by kernel_rfl) (by kernel_rfl) (by kernel_rfl) (qi_enum B (scT_get SC_told_broken (i := 9) rfl) (qe_var (i := 0) rfl (.inr (.inl (scT_get SC_told_broken (i := 0) rfl))))) (fun g s H C cl fp => (qg_tup rfl (qgs_cons (qg_name S.nd (i := 9) rfl (.inl (scT_get g (i := 1) rfl)) (by decide) (.inr (scT_get g (i := 1) rfl))) (qgs_cons (qg_name S.nd (i := 8) rfl (.inl (scT_get g (i := 0) rfl)) (by decide) (.inr (scT_get g (i := 0) rfl))) qgs_nil)))) (fun g s H C cl fp => (qts_one (QW.t (qw_and (qt_cmp c_gt (qe_ix (qe_var (i := 1) rfl (.inr (.inl (scT_get g (i := 2) rfl)))) (qe_var (i := 9) rfl (.inl (scT_get g (i := 1) rfl))) (fun _ _ => rfl)) qe_int rfl) (qw_and1 (qt_cmp c_gt (qe_ix (qe_var (i := 8) rfl (.inl (scT_get g (i := 0) rfl))) qe_int (fun _ _ => rfl)) (qe_var (i := 2) rfl (.inr (.inl (scT_get g (i := 3) rfl)))) rfl)))))) (fun g s H C cl fp => (qe_ix (qe_var (i := 8) rfl (.inl (scT_get g (i := 0) rfl))) qe_int (fun _ _ => rfl))))
 (qss_frz 5 (qss_cons (qs_if (qt_cmp (c_eq hr.u) (qe_var (i := 4) rfl (.inl (scT_get SC_told_broken (i := 4) rfl))) (qe_fz (ql_lst qa_nil)) rfl) (qss_cons (qs_set S.nd (i := 2) rfl (.inr (scT_get SC_told_broken (i := 2) rfl)) (qe_minD hr.r rfl B (scT_get SC_told_broken (i := 10) rfl) (qe_var (i := 5) rfl (.inl (scT_get SC_told_broken (i := 5) rfl)))) rfl (.inl rfl))
 (qss_cons qs_cont
 qss_nil)) qss_nil)
 (qss_cons (qs_set S.nd (i := 6) rfl (.inl (scT_get SC_told_broken (i := 6) rfl)) (qe_minK rfl hr.r B (scT_get SC_told_broken (i := 10) rfl) (qe_var (i := 4) rfl (.inl (scT_get SC_told_broken (i := 4) rfl))) (lamT_of (js := [("tasks", 0)]) (g := (kTwo (kIx (kIx (kVar "tasks") (kVar "at")) (kInt 2)) (kVar "at"))) LF (hcd.symm.trans LF.code) rfl (by kernel_rfl) (fun _ _ _ _ _ _ => rfl) (by kernel_rfl) (rkt_two (rk_ix (rk_ix rk_var rk_var (fun _ _ => rfl)) rk_int (fun _ _ => rfl)) rk_var))) rfl (.inl rfl))
 (qss_cons (qs_set S.nd (i := 7) rfl (.inl (scT_get SC_told_broken (i := 7) rfl)) (qe_minD hr.r rfl B (scT_get SC_told_broken (i := 10) rfl) (qe_fz (ql_lst (qa_cons (qe_ix (qe_var (i := 1) rfl (.inr (.inl (scT_get SC_told_broken (i := 1) rfl)))) (qe_var (i := 6) rfl (.inl (scT_get SC_told_broken (i := 6) rfl))) (fun _ _ => rfl)) (qa_star (qe_fz (ql_compS (own := [("begin", 10)]) (l := [("begin", .local), ("here", .cell)]) rfl S.nd (by kernel_rfl) (by kernel_rfl) (qi_seq (qe_var (i := 5) rfl (.inl (scT_get SC_told_broken (i := 5) rfl)))) (fun g s H C cl fp => (qg_name S.nd (i := 10) rfl (.inl (scT_get g (i := 0) rfl)) (by decide) (.inr (scT_get g (i := 0) rfl)))) (fun g s H C cl fp => qts_nil) (fun g s H C cl fp => (qe_sub (qe_var (i := 10) rfl (.inl (scT_get g (i := 0) rfl))) (qe_var (i := 2) rfl (.inr (.inl (scT_get g (i := 1) rfl)))))))) qa_nil))))) rfl (.inl rfl))
 (qss_cons (qs_if (QW.t (qw_and (qt_cmp (c_ne hr.u) (qe_var (i := 3) rfl (.inl (scT_get SC_told_broken (i := 3) rfl))) (qe_fz (ql_lst qa_nil)) rfl) (qw_and (qt_cmp (c_eq hr.u) (qe_ix (qe_ix (qe_var (i := 3) rfl (.inl (scT_get SC_told_broken (i := 3) rfl))) (qe_neg qe_int) (fun _ _ => rfl)) qe_int (fun _ _ => rfl)) (qe_var (i := 6) rfl (.inl (scT_get SC_told_broken (i := 6) rfl))) rfl) (qw_and1 (qt_cmp (c_eq hr.u) (qe_ix (qe_ix (qe_var (i := 3) rfl (.inl (scT_get SC_told_broken (i := 3) rfl))) (qe_neg qe_int) (fun _ _ => rfl)) qe_int (fun _ _ => rfl)) (qe_var (i := 2) rfl (.inr (.inl (scT_get SC_told_broken (i := 2) rfl)))) rfl))))) (qss_cons (qs_asg (own := []) (qe_tup (qa_cons (qe_var (i := 6) rfl (.inl (scT_get SC_told_broken (i := 6) rfl))) (qa_cons (qe_ix (qe_ix (qe_var (i := 3) rfl (.inl (scT_get SC_told_broken (i := 3) rfl))) (qe_neg qe_int) (fun _ _ => rfl)) qe_int (fun _ _ => rfl)) (qa_cons (qe_add (qe_var (i := 2) rfl (.inr (.inl (scT_get SC_told_broken (i := 2) rfl)))) (qe_var (i := 7) rfl (.inl (scT_get SC_told_broken (i := 7) rfl)))) qa_nil)))) (qg_sub (qe_var (i := 3) rfl (.inl (scT_get SC_told_broken (i := 3) rfl))) (qe_neg qe_int)))
 qss_nil) (qss_cons (qs_expr (qe_append (qe_var (i := 3) rfl (.inl (scT_get SC_told_broken (i := 3) rfl))) (qe_tup (qa_cons (qe_var (i := 6) rfl (.inl (scT_get SC_told_broken (i := 6) rfl))) (qa_cons (qe_var (i := 2) rfl (.inr (.inl (scT_get SC_told_broken (i := 2) rfl)))) (qa_cons (qe_add (qe_var (i := 2) rfl (.inr (.inl (scT_get SC_told_broken (i := 2) rfl)))) (qe_var (i := 7) rfl (.inl (scT_get SC_told_broken (i := 7) rfl)))) qa_nil))))))
 qss_nil))
 (qss_cons (qs_augIxSub (qe_var (i := 1) rfl (.inr (.inl (scT_get SC_told_broken (i := 1) rfl)))) (qe_var (i := 6) rfl (.inl (scT_get SC_told_broken (i := 6) rfl))) (qe_var (i := 7) rfl (.inl (scT_get SC_told_broken (i := 7) rfl))))
 (qss_cons (qs_augAddI S.nd (i := 2) rfl (.inr (scT_get SC_told_broken (i := 2) rfl)) (qe_var (i := 7) rfl (.inl (scT_get SC_told_broken (i := 7) rfl))) (.inl rfl))
 qss_nil)))))))))))
 (qss_frz 3 (qss_cons (qs_ret (qe_var (i := 3) rfl (.inl (scT_get SC_told_broken (i := 3) rfl))))
 qss_nil)))))
/-! with_breaks -/
def sem_with_breaks : Fn := fnS 3 1 (sCons (sExpr (eCall sem_look_at_tasks (aCons (eVar 0) aNil)))
 (sCons (sAsg (eCall sem_told_worst (aCons (eVar 0) aNil)) (bTup 2 (bsCons (bName 1) (bsCons (bName 2) bsNil))))
 (sCons (sIf (tAndQ (tCmp2 pIsNot (eVar 1) (eC .none)) (tCmp2 pGt (eVar 1) (eC (.int 0)))) (sCons (sRet (eTup (aCons (eC (.str "lot")) (aCons (eOp1 gTuple (eVar 2)) aNil))))
 sNil) sNil)
 (sCons (sRet (eTup (aCons (eC (.str "broken")) (aCons (eOp1 gTuple (eCall sem_told_broken (aCons (eVar 0) aNil))) aNil))))
 sNil))))
theorem SC_with_breaks : scT (C8.fnScope (stAt 28)) [("tasks", .local), ("over", .local), ("lot", .local), ("look_at_tasks", .globalImplicit), ("told_worst", .globalImplicit), ("LOT", .globalImplicit), ("tuple", .globalImplicit), ("BROKEN", .globalImplicit), ("told_broken", .globalImplicit)] = true := by kernel_rfl
theorem FS_with_breaks : FnScope ["tasks", "over", "lot"] ["tasks"] (C8.fnScope (stAt 28)) := C8.fnScope_by (by kernel_rfl)
theorem G_with_breaks {w : World} {K : PySem.W.Frag} {mg : Str → Option Value} {base : Heap} {T : Tb} (B : Bls mg)
 (c_BROKEN : ∃ t, mg "BROKEN" = some (.str "broken" t))
 (c_LOT : ∃ t, mg "LOT" = some (.str "lot" t))
 {f : Addr} {fd : FuncData}
 (D : DefF K mg (stAt 28) "with_breaks" ["tasks"] f fd)
 {f_look_at_tasks : Addr} {fd_look_at_tasks : FuncData} (D_look_at_tasks : DefF K mg (stAt 22) "look_at_tasks" ["tasks"] f_look_at_tasks fd_look_at_tasks) (G_look_at_tasks : FnG Hd.PP w K mg base T 5 f_look_at_tasks fd_look_at_tasks ["tasks"] sem_look_at_tasks)
 {f_told_worst : Addr} {fd_told_worst : FuncData} (D_told_worst : DefF K mg (stAt 25) "told_worst" ["tasks"] f_told_worst fd_told_worst) (G_told_worst : FnG Hd.PP w K mg base T 3 f_told_worst fd_told_worst ["tasks"] sem_told_worst)
 {f_told_broken : Addr} {fd_told_broken : FuncData} (D_told_broken : DefF K mg (stAt 27) "told_broken" ["tasks"] f_told_broken fd_told_broken) (G_told_broken : FnG Hd.PP w K mg base T 2 f_told_broken fd_told_broken ["tasks"] sem_told_broken) :
 FnG Hd.PP w K mg base T 6 f fd ["tasks"] sem_with_breaks :=
 have S := FS_with_breaks
 fnG_of D.F S fun cdv A outer s H hcd hr =>
 (show QSs _ T (C8.fnBody (stAt 28)) _ from
 (qss_cons (qs_expr (qe_callG G_look_at_tasks (hr.mono (by decide)) (scT_get SC_with_breaks (i := 3) rfl) D_look_at_tasks.hm D_look_at_tasks.F.kp D_look_at_tasks.hb (qa_cons (qe_var (i := 0) rfl (.inl (scT_get SC_with_breaks (i := 0) rfl))) qa_nil)))
 (qss_cons (qs_asg (own := [1, 2]) (qe_callG G_told_worst (hr.mono (by decide)) (scT_get SC_with_breaks (i := 4) rfl) D_told_worst.hm D_told_worst.F.kp D_told_worst.hb (qa_cons (qe_var (i := 0) rfl (.inl (scT_get SC_with_breaks (i := 0) rfl))) qa_nil)) (qg_tup rfl (qgs_cons (qg_name S.nd (i := 1) rfl (.inl (scT_get SC_with_breaks (i := 1) rfl)) (by decide) (.inl rfl)) (qgs_cons (qg_name S.nd (i := 2) rfl (.inl (scT_get SC_with_breaks (i := 2) rfl)) (by decide) (.inl rfl)) qgs_nil))))
 (qss_cons (qs_if (QW.t (qw_and (qt_cmp c_isnot (qe_var (i := 1) rfl (.inl (scT_get SC_with_breaks (i := 1) rfl))) qe_non rfl) (qw_and1 (qt_cmp c_gt (qe_var (i := 1) rfl (.inl (scT_get SC_with_breaks (i := 1) rfl))) qe_int rfl)))) (qss_cons (qs_ret (qe_tup (qa_cons (qe_gstr (i := "lot") c_LOT (scT_get SC_with_breaks (i := 5) rfl)) (qa_cons (qe_tuple B (scT_get SC_with_breaks (i := 6) rfl) (qe_var (i := 2) rfl (.inl (scT_get SC_with_breaks (i := 2) rfl)))) qa_nil))))
 qss_nil) qss_nil)
 (qss_cons (qs_ret (qe_tup (qa_cons (qe_gstr (i := "broken") c_BROKEN (scT_get SC_with_breaks (i := 7) rfl)) (qa_cons (qe_tuple B (scT_get SC_with_breaks (i := 6) rfl) (qe_callG G_told_broken (hr.mono (by decide)) (scT_get SC_with_breaks (i := 8) rfl) D_told_broken.hm D_told_broken.F.kp D_told_broken.hb (qa_cons (qe_var (i := 0) rfl (.inl (scT_get SC_with_breaks (i := 0) rfl))) qa_nil))) qa_nil))))
 qss_nil)))))
/-! lateness_of -/
def sem_lateness_of : Fn := fnS 8 2 (sCons (sExpr (eCall sem_look_at_tasks (aCons (eVar 0) aNil)))
 (sCons (sIf (tOrQ (tNotQ (tV (eCall sem_are_ints (aCons (eVar 1) (aCons (eC (.int 0)) (aCons (eOp2 gSub (eOp1 gLen (eVar 0)) (eC (.int 1))) aNil)))))) (tCmp2 pNe (eFz (lOp1 gSort (eVar 1))) (eFz (lRg (rg1 (eOp1 gLen (eVar 0))))))) (sCons sNever
 sNil) sNil)
 (sCons (sParT [2, 3] (aCons (eC (.int 0)) (aCons (eC .none) aNil)))
 (sCons (sFor (iSeq (eVar 1)) (bName 4) (sCons (sAsg (eOp2 gIx (eVar 0) (eVar 4)) (bTup 3 (bsCons (bName 5) (bsCons (bName 6) (bsCons (bName 7) bsNil)))))
 (sCons (sAsg (eOp2 gAdd (eOp2 gMax2 (eVar 2) (eVar 5)) (eVar 6)) (bName 2))
 (sCons (sAsg (eIf (tCmp2 pIs (eVar 3) (eC .none)) (eOp2 gSub (eVar 2) (eVar 7)) (eOp2 gMax2 (eVar 3) (eOp2 gSub (eVar 2) (eVar 7)))) (bName 3))
 sNil))))
 (sCons (sRet (eVar 3))
 sNil)))))
theorem SC_lateness_of : scT (C8.fnScope (stAt 29)) [("tasks", .local), ("order", .local), ("here", .local), ("late", .local), ("at", .local), ("begin", .local), ("length", .local), ("behind", .local), ("look_at_tasks", .globalImplicit), ("len", .globalImplicit), ("are_ints", .globalImplicit), ("sorted", .globalImplicit), ("range", .globalImplicit), ("list", .globalImplicit), ("max", .globalImplicit)] = true := by kernel_rfl
theorem FS_lateness_of : FnScope ["tasks", "order", "here", "late", "at", "begin", "length", "behind"] ["tasks", "order"] (C8.fnScope (stAt 29)) := C8.fnScope_by (by kernel_rfl)
theorem G_lateness_of {w : World} {K : PySem.W.Frag} {mg : Str → Option Value} {base : Heap} {T : Tb} (B : Bls mg)
 {f : Addr} {fd : FuncData}
 (D : DefF K mg (stAt 29) "lateness_of" ["tasks", "order"] f fd)
 {f_are_ints : Addr} {fd_are_ints : FuncData} (D_are_ints : DefF K mg (stAt 6) "are_ints" ["value", "low", "high"] f_are_ints fd_are_ints) (G_are_ints : FnG Hd.PP w K mg base T 3 f_are_ints fd_are_ints ["value", "low", "high"] sem_are_ints)
 {f_look_at_tasks : Addr} {fd_look_at_tasks : FuncData} (D_look_at_tasks : DefF K mg (stAt 22) "look_at_tasks" ["tasks"] f_look_at_tasks fd_look_at_tasks) (G_look_at_tasks : FnG Hd.PP w K mg base T 5 f_look_at_tasks fd_look_at_tasks ["tasks"] sem_look_at_tasks) :
 FnG Hd.PP w K mg base T 6 f fd ["tasks", "order"] sem_lateness_of :=
 have S := FS_lateness_of
 fnG_of D.F S fun cdv A outer s H hcd hr =>
 (show QSs _ T (C8.fnBody (stAt 29)) _ from
 (qss_cons (qs_expr (qe_callG G_look_at_tasks (hr.mono (by decide)) (scT_get SC_lateness_of (i := 8) rfl) D_look_at_tasks.hm D_look_at_tasks.F.kp D_look_at_tasks.hb (qa_cons (qe_var (i := 0) rfl (.inl (scT_get SC_lateness_of (i := 0) rfl))) qa_nil)))
 (qss_cons (qs_if (QW.t (qw_or (qt_not (qt_val (qe_callG G_are_ints (hr.mono (by decide)) (scT_get SC_lateness_of (i := 10) rfl) D_are_ints.hm D_are_ints.F.kp D_are_ints.hb (qa_cons (qe_var (i := 1) rfl (.inl (scT_get SC_lateness_of (i := 1) rfl))) (qa_cons qe_int (qa_cons (qe_sub (qe_len B (scT_get SC_lateness_of (i := 9) rfl) (qe_var (i := 0) rfl (.inl (scT_get SC_lateness_of (i := 0) rfl)))) qe_int) qa_nil)))))) (qw_or1 (qt_cmp (c_ne hr.u) (qe_fz (ql_sorted hr.u B (scT_get SC_lateness_of (i := 11) rfl) (qe_var (i := 1) rfl (.inl (scT_get SC_lateness_of (i := 1) rfl))))) (qe_fz (ql_listRg rfl B (scT_get SC_lateness_of (i := 13) rfl) (qrg_1 B (scT_get SC_lateness_of (i := 12) rfl) (qe_len B (scT_get SC_lateness_of (i := 9) rfl) (qe_var (i := 0) rfl (.inl (scT_get SC_lateness_of (i := 0) rfl))))))) rfl)))) (qss_cons qs_never
 qss_nil) qss_nil)
 (qss_cons (qs_parT rfl (qa_cons qe_int (qa_cons qe_non qa_nil)) (qvs_cons S.nd (i := 2) rfl (.inl (scT_get SC_lateness_of (i := 2) rfl)) (qvs_cons S.nd (i := 3) rfl (.inl (scT_get SC_lateness_of (i := 3) rfl)) qvs_nil (.inl rfl)) (.inl rfl)) (by kernel_rfl))
 (qss_cons (qs_for (own := [4]) PassesOwn.never rfl (qi_seq (qe_var (i := 1) rfl (.inl (scT_get SC_lateness_of (i := 1) rfl)))) (qg_name S.nd (i := 4) rfl (.inl (scT_get SC_lateness_of (i := 4) rfl)) (by decide) (.inl rfl)) (qss_cons (qs_asg (own := [5, 6, 7]) (qe_ix (qe_var (i := 0) rfl (.inl (scT_get SC_lateness_of (i := 0) rfl))) (qe_var (i := 4) rfl (.inl (scT_get SC_lateness_of (i := 4) rfl))) (fun _ _ => rfl)) (qg_tup rfl (qgs_cons (qg_name S.nd (i := 5) rfl (.inl (scT_get SC_lateness_of (i := 5) rfl)) (by decide) (.inl rfl)) (qgs_cons (qg_name S.nd (i := 6) rfl (.inl (scT_get SC_lateness_of (i := 6) rfl)) (by decide) (.inl rfl)) (qgs_cons (qg_name S.nd (i := 7) rfl (.inl (scT_get SC_lateness_of (i := 7) rfl)) (by decide) (.inl rfl)) qgs_nil)))))
 (qss_cons (qs_set S.nd (i := 2) rfl (.inl (scT_get SC_lateness_of (i := 2) rfl)) (qe_add (qe_max2 rfl B (scT_get SC_lateness_of (i := 14) rfl) (qe_var (i := 2) rfl (.inl (scT_get SC_lateness_of (i := 2) rfl))) (qe_var (i := 5) rfl (.inl (scT_get SC_lateness_of (i := 5) rfl)))) (qe_var (i := 6) rfl (.inl (scT_get SC_lateness_of (i := 6) rfl)))) rfl (.inl rfl))
 (qss_cons (qs_set S.nd (i := 3) rfl (.inl (scT_get SC_lateness_of (i := 3) rfl)) (qe_if (qt_cmp c_is (qe_var (i := 3) rfl (.inl (scT_get SC_lateness_of (i := 3) rfl))) qe_non rfl) (qe_sub (qe_var (i := 2) rfl (.inl (scT_get SC_lateness_of (i := 2) rfl))) (qe_var (i := 7) rfl (.inl (scT_get SC_lateness_of (i := 7) rfl)))) (qe_max2 rfl B (scT_get SC_lateness_of (i := 14) rfl) (qe_var (i := 3) rfl (.inl (scT_get SC_lateness_of (i := 3) rfl))) (qe_sub (qe_var (i := 2) rfl (.inl (scT_get SC_lateness_of (i := 2) rfl))) (qe_var (i := 7) rfl (.inl (scT_get SC_lateness_of (i := 7) rfl)))))) rfl (.inl rfl))
 qss_nil))))
 (qss_cons (qs_ret (qe_var (i := 3) rfl (.inl (scT_get SC_lateness_of (i := 3) rfl))))
 qss_nil))))))
/-! _law_pot -/
def sem__law_pot : Fn := fnS 5 2 (sCons (sAsg (eIf (tCmp2 pLt (eVar 1) (eOp1 gLen (eVar 0))) (eOp2 gIx (eVar 0) (eVar 1)) (eOp2 gAdd (eOp2 gAdd (eOp2 gMod (eOp1 gInt (eOp1 gSum (eFz (lSlL (eVar 0) oNone (oSome (eC (.int 1))))))) (eC (.int 1000303))) (eOp2 gMul (eC (.int 4723)) (eVar 1))) (eC (.int 2971)))) (bName 2))
 (sCons (sAsg (eOp2 gMul (eOp2 gMod (eOp1 gInt (eOp1 gAbs (eVar 2))) (eOp2 gPowW (eOp2 gPowW (eC (.int 10)) (eC (.int 60))) (eC (.int 5)))) (eOp1 gInt (eOp2 (gB pGe) (eOp1 gAbs (eVar 2)) (eOp2 gPowW (eC (.int 10)) (eC (.int 18)))))) (bName 3))
 (sCons (sAsg (eOp2 gMod (eOp1 gInt (eVar 2)) (eC (.int 2305843009213693921))) (bName 4))
 (sCons (sRet (eOwn (lDisp (aCons (eVar 3) (aCons (eOp2 gMod (eOp1 gInt (eOp2 gAdd (eOp2 gAdd (eOp2 gMul (eVar 4) (eC (.int 68111))) (eOp2 gMul (eOp2 gMul (eC (.int 12413)) (eVar 1)) (eVar 1))) (eC (.int 2843)))) (eC (.int 2305843009213693921))) (aCons (eC (.int 0)) aNil))))))
 sNil))))
theorem SC__law_pot : scT (C8.fnScope (stAt 31)) [("script", .local), ("place", .local), ("cell", .local), ("own", .local), ("small", .local), ("len", .globalImplicit), ("sum", .globalImplicit), ("int", .globalImplicit), ("abs", .globalImplicit)] = true := by kernel_rfl
theorem FS__law_pot : FnScope ["script", "place", "cell", "own", "small"] ["script", "place"] (C8.fnScope (stAt 31)) := C8.fnScope_by (by kernel_rfl)
theorem G__law_pot {w : World} {K : PySem.W.Frag} {mg : Str → Option Value} {base : Heap} {T : Tb} (B : Bls mg)
 {f : Addr} {fd : FuncData}
 (D : DefF K mg (stAt 31) "_law_pot" ["script", "place"] f fd) :
 FnG Hd.PP w K mg base T 2 f fd ["script", "place"] sem__law_pot :=
 have S := FS__law_pot
 fnG_of D.F S fun cdv A outer s H hcd hr =>
 (show QSs _ T (C8.fnBody (stAt 31)) _ from
 (qss_cons (qs_set S.nd (i := 2) rfl (.inl (scT_get SC__law_pot (i := 2) rfl)) (qe_if (qt_cmp c_lt (qe_var (i := 1) rfl (.inl (scT_get SC__law_pot (i := 1) rfl))) (qe_len B (scT_get SC__law_pot (i := 5) rfl) (qe_var (i := 0) rfl (.inl (scT_get SC__law_pot (i := 0) rfl)))) rfl) (qe_ix (qe_var (i := 0) rfl (.inl (scT_get SC__law_pot (i := 0) rfl))) (qe_var (i := 1) rfl (.inl (scT_get SC__law_pot (i := 1) rfl))) (fun _ _ => rfl)) (qe_add (qe_add (qe_mod (qe_intC B (scT_get SC__law_pot (i := 7) rfl) (qe_sum rfl B (scT_get SC__law_pot (i := 6) rfl) (qe_fz (ql_slL (qe_var (i := 0) rfl (.inl (scT_get SC__law_pot (i := 0) rfl))) qo_none (qo_some qe_int))))) qe_int) (qe_mul qe_int (qe_var (i := 1) rfl (.inl (scT_get SC__law_pot (i := 1) rfl))))) qe_int)) rfl (.inl rfl))
 (qss_cons (qs_set S.nd (i := 3) rfl (.inl (scT_get SC__law_pot (i := 3) rfl)) (qe_mul (qe_mod (qe_intC B (scT_get SC__law_pot (i := 7) rfl) (qe_abs B (scT_get SC__law_pot (i := 8) rfl) (qe_var (i := 2) rfl (.inl (scT_get SC__law_pot (i := 2) rfl))))) (qe_powW (qe_powW qe_int qe_int) qe_int)) (qe_intC B (scT_get SC__law_pot (i := 7) rfl) (qe_cmp c_ge (qe_abs B (scT_get SC__law_pot (i := 8) rfl) (qe_var (i := 2) rfl (.inl (scT_get SC__law_pot (i := 2) rfl)))) (qe_powW qe_int qe_int) rfl))) rfl (.inl rfl))
 (qss_cons (qs_set S.nd (i := 4) rfl (.inl (scT_get SC__law_pot (i := 4) rfl)) (qe_mod (qe_intC B (scT_get SC__law_pot (i := 7) rfl) (qe_var (i := 2) rfl (.inl (scT_get SC__law_pot (i := 2) rfl)))) qe_int) rfl (.inl rfl))
 (qss_cons (qs_ret (qe_own (ql_lst (qa_cons (qe_var (i := 3) rfl (.inl (scT_get SC__law_pot (i := 3) rfl))) (qa_cons (qe_mod (qe_intC B (scT_get SC__law_pot (i := 7) rfl) (qe_add (qe_add (qe_mul (qe_var (i := 4) rfl (.inl (scT_get SC__law_pot (i := 4) rfl))) qe_int) (qe_mul (qe_mul qe_int (qe_var (i := 1) rfl (.inl (scT_get SC__law_pot (i := 1) rfl)))) (qe_var (i := 1) rfl (.inl (scT_get SC__law_pot (i := 1) rfl))))) qe_int)) qe_int) (qa_cons qe_int qa_nil))))))
 qss_nil)))))
/-! _law_take -/
def sem__law_take : Fn := fnS 5 2 (sCons (sIf (tCmp2 pGt (eOp2 gIx (eVar 0) (eC (.int 0))) (eC (.int 0))) (sCons (sAsg (eOp2 gMod (eOp1 gInt (eOp2 gIx (eVar 0) (eC (.int 0)))) (eVar 1)) (bName 2))
 (sCons (sAsg (eOp2 gDiv (eOp2 gIx (eVar 0) (eC (.int 0))) (eVar 1)) (bSub (eVar 0) (eC (.int 0))))
 (sCons (sRet (eVar 2))
 sNil))) sNil)
 (sCons (sAsg (eOp2 gAdd (eOp2 gIx (eVar 0) (eC (.int 2))) (eC (.int 1))) (bSub (eVar 0) (eC (.int 2))))
 (sCons (sAsg (eOp2 gIx (eFz (lDisp (aCons (eC (.int 2147483647)) (aCons (eC (.int 2147483629)) (aCons (eC (.int 2147483587)) (aCons (eC (.int 2147483579)) (aCons (eC (.int 2147483563)) aNil))))))) (eOp2 gMod (eOp1 gInt (eOp2 gIx (eVar 0) (eC (.int 2)))) (eC (.int 5)))) (bName 3))
 (sCons (sAsg (eOp2 gMod (eOp1 gInt (eOp2 gPowW (eOp1 gInt (eOp2 gAdd (eOp2 gAdd (eOp2 gIx (eVar 0) (eC (.int 1))) (eOp2 gMul (eOp2 gMul (eC (.int 88211)) (eOp2 gIx (eVar 0) (eC (.int 2)))) (eOp2 gIx (eVar 0) (eC (.int 2))))) (eC (.int 2909)))) (eC (.int 3)))) (eVar 3)) (bName 4))
 (sCons (sAsg (eOp2 gMod (eOp1 gInt (eOp2 gMul (eVar 4) (eOp2 gAdd (eOp2 gMod (eOp1 gInt (eVar 4)) (eC (.int 13441))) (eOp2 gMul (eC (.int 419)) (eOp2 gIx (eVar 0) (eC (.int 2))))))) (eC (.int 2305843009213693907))) (bName 4))
 (sCons (sRet (eOp2 gMod (eOp1 gInt (eOp2 gDiv (eVar 4) (eC (.int 229)))) (eVar 1)))
 sNil))))))
theorem SC__law_take : scT (C8.fnScope (stAt 32)) [("pot", .local), ("upto", .local), ("digit", .local), ("prime", .local), ("mixture", .local), ("int", .globalImplicit)] = true := by kernel_rfl
theorem FS__law_take : FnScope ["pot", "upto", "digit", "prime", "mixture"] ["pot", "upto"] (C8.fnScope (stAt 32)) := C8.fnScope_by (by kernel_rfl)
theorem G__law_take {w : World} {K : PySem.W.Frag} {mg : Str → Option Value} {base : Heap} {T : Tb} (B : Bls mg)
 {f : Addr} {fd : FuncData}
 (D : DefF K mg (stAt 32) "_law_take" ["pot", "upto"] f fd) :
 FnG Hd.PP w K mg base T 2 f fd ["pot", "upto"] sem__law_take :=
 have S := FS__law_take
 fnG_of D.F S fun cdv A outer s H hcd hr =>
 (show QSs _ T (C8.fnBody (stAt 32)) _ from
 (qss_cons (qs_if (qt_cmp c_gt (qe_ix (qe_var (i := 0) rfl (.inl (scT_get SC__law_take (i := 0) rfl))) qe_int (fun _ _ => rfl)) qe_int rfl) (qss_cons (qs_set S.nd (i := 2) rfl (.inl (scT_get SC__law_take (i := 2) rfl)) (qe_mod (qe_intC B (scT_get SC__law_take (i := 5) rfl) (qe_ix (qe_var (i := 0) rfl (.inl (scT_get SC__law_take (i := 0) rfl))) qe_int (fun _ _ => rfl))) (qe_var (i := 1) rfl (.inl (scT_get SC__law_take (i := 1) rfl)))) rfl (.inl rfl))
 (qss_cons (qs_asg (own := []) (qe_div (qe_ix (qe_var (i := 0) rfl (.inl (scT_get SC__law_take (i := 0) rfl))) qe_int (fun _ _ => rfl)) (qe_var (i := 1) rfl (.inl (scT_get SC__law_take (i := 1) rfl)))) (qg_sub (qe_var (i := 0) rfl (.inl (scT_get SC__law_take (i := 0) rfl))) qe_int))
 (qss_cons (qs_ret (qe_var (i := 2) rfl (.inl (scT_get SC__law_take (i := 2) rfl))))
 qss_nil))) qss_nil)
 (qss_cons (qs_asg (own := []) (qe_add (qe_ix (qe_var (i := 0) rfl (.inl (scT_get SC__law_take (i := 0) rfl))) qe_int (fun _ _ => rfl)) qe_int) (qg_sub (qe_var (i := 0) rfl (.inl (scT_get SC__law_take (i := 0) rfl))) qe_int))
 (qss_cons (qs_set S.nd (i := 3) rfl (.inl (scT_get SC__law_take (i := 3) rfl)) (qe_ix (qe_fz (ql_lst (qa_cons qe_int (qa_cons qe_int (qa_cons qe_int (qa_cons qe_int (qa_cons qe_int qa_nil))))))) (qe_mod (qe_intC B (scT_get SC__law_take (i := 5) rfl) (qe_ix (qe_var (i := 0) rfl (.inl (scT_get SC__law_take (i := 0) rfl))) qe_int (fun _ _ => rfl))) qe_int) (fun _ _ => rfl)) rfl (.inl rfl))
 (qss_cons (qs_set S.nd (i := 4) rfl (.inl (scT_get SC__law_take (i := 4) rfl)) (qe_mod (qe_intC B (scT_get SC__law_take (i := 5) rfl) (qe_powW (qe_intC B (scT_get SC__law_take (i := 5) rfl) (qe_add (qe_add (qe_ix (qe_var (i := 0) rfl (.inl (scT_get SC__law_take (i := 0) rfl))) qe_int (fun _ _ => rfl)) (qe_mul (qe_mul qe_int (qe_ix (qe_var (i := 0) rfl (.inl (scT_get SC__law_take (i := 0) rfl))) qe_int (fun _ _ => rfl))) (qe_ix (qe_var (i := 0) rfl (.inl (scT_get SC__law_take (i := 0) rfl))) qe_int (fun _ _ => rfl)))) qe_int)) qe_int)) (qe_var (i := 3) rfl (.inl (scT_get SC__law_take (i := 3) rfl)))) rfl (.inl rfl))
 (qss_cons (qs_set S.nd (i := 4) rfl (.inl (scT_get SC__law_take (i := 4) rfl)) (qe_mod (qe_intC B (scT_get SC__law_take (i := 5) rfl) (qe_mul (qe_var (i := 4) rfl (.inl (scT_get SC__law_take (i := 4) rfl))) (qe_add (qe_mod (qe_intC B (scT_get SC__law_take (i := 5) rfl) (qe_var (i := 4) rfl (.inl (scT_get SC__law_take (i := 4) rfl)))) qe_int) (qe_mul qe_int (qe_ix (qe_var (i := 0) rfl (.inl (scT_get SC__law_take (i := 0) rfl))) qe_int (fun _ _ => rfl)))))) qe_int) rfl (.inl rfl))
 (qss_cons (qs_ret (qe_mod (qe_intC B (scT_get SC__law_take (i := 5) rfl) (qe_div (qe_var (i := 4) rfl (.inl (scT_get SC__law_take (i := 4) rfl))) qe_int)) (qe_var (i := 1) rfl (.inl (scT_get SC__law_take (i := 1) rfl)))))
 qss_nil)))))))
/-! _law_of -/
def sem__law_of : Fn := fnS 2 2 (sCons (sRet (eOp2 gIx (eVar 1) (eCall sem__law_take (aCons (eVar 0) (aCons (eOp1 gLen (eVar 1)) aNil)))))
 sNil)
theorem SC__law_of : scT (C8.fnScope (stAt 33)) [("pot", .local), ("some", .local), ("len", .globalImplicit), ("_law_take", .globalImplicit)] = true := by kernel_rfl
theorem FS__law_of : FnScope ["pot", "some"] ["pot", "some"] (C8.fnScope (stAt 33)) := C8.fnScope_by (by kernel_rfl)
theorem G__law_of {w : World} {K : PySem.W.Frag} {mg : Str → Option Value} {base : Heap} {T : Tb} (B : Bls mg)
 {f : Addr} {fd : FuncData}
 (D : DefF K mg (stAt 33) "_law_of" ["pot", "some"] f fd)
 {f__law_take : Addr} {fd__law_take : FuncData} (D__law_take : DefF K mg (stAt 32) "_law_take" ["pot", "upto"] f__law_take fd__law_take) (G__law_take : FnG Hd.PP w K mg base T 2 f__law_take fd__law_take ["pot", "upto"] sem__law_take) :
 FnG Hd.PP w K mg base T 3 f fd ["pot", "some"] sem__law_of :=
 have S := FS__law_of
 fnG_of D.F S fun cdv A outer s H hcd hr =>
 (show QSs _ T (C8.fnBody (stAt 33)) _ from
 (qss_cons (qs_ret (qe_ix (qe_var (i := 1) rfl (.inl (scT_get SC__law_of (i := 1) rfl))) (qe_callG G__law_take (hr.mono (by decide)) (scT_get SC__law_of (i := 3) rfl) D__law_take.hm D__law_take.F.kp D__law_take.hb (qa_cons (qe_var (i := 0) rfl (.inl (scT_get SC__law_of (i := 0) rfl))) (qa_cons (qe_len B (scT_get SC__law_of (i := 2) rfl) (qe_var (i := 1) rfl (.inl (scT_get SC__law_of (i := 1) rfl)))) qa_nil))) (fun _ _ => rfl)))
 qss_nil))
/-! _law_cells -/
def sem__law_cells : Fn := fnS 2 2 (sCons (sRet (eFz (lRg (rg1 (eOp2 gMax2 (eC (.int 1)) (eOp2 gMin2 (eVar 1) (eOp1 gLen (eVar 0))))))))
 sNil)
theorem SC__law_cells : scT (C8.fnScope (stAt 34)) [("script", .local), ("most", .local), ("range", .globalImplicit), ("len", .globalImplicit), ("min", .globalImplicit), ("max", .globalImplicit), ("list", .globalImplicit)] = true := by kernel_rfl
theorem FS__law_cells : FnScope ["script", "most"] ["script", "most"] (C8.fnScope (stAt 34)) := C8.fnScope_by (by kernel_rfl)
theorem G__law_cells {w : World} {K : PySem.W.Frag} {mg : Str → Option Value} {base : Heap} {T : Tb} (B : Bls mg)
 {f : Addr} {fd : FuncData}
 (D : DefF K mg (stAt 34) "_law_cells" ["script", "most"] f fd) :
 FnG Hd.PP w K mg base T 2 f fd ["script", "most"] sem__law_cells :=
 have S := FS__law_cells
 fnG_of D.F S fun cdv A outer s H hcd hr =>
 (show QSs _ T (C8.fnBody (stAt 34)) _ from
 (qss_cons (qs_ret (qe_fz (ql_listRg rfl B (scT_get SC__law_cells (i := 6) rfl) (qrg_1 B (scT_get SC__law_cells (i := 2) rfl) (qe_max2 rfl B (scT_get SC__law_cells (i := 5) rfl) qe_int (qe_min2 rfl B (scT_get SC__law_cells (i := 4) rfl) (qe_var (i := 1) rfl (.inl (scT_get SC__law_cells (i := 1) rfl))) (qe_len B (scT_get SC__law_cells (i := 3) rfl) (qe_var (i := 0) rfl (.inl (scT_get SC__law_cells (i := 0) rfl))))))))))
 qss_nil))
/-! _law_drawn -/
def sem__law_drawn : Fn := fnS 6 1 (sCons (sPar3 1 2 3 (aCons (eOp1 gInt (eOp2 gAdd (eC (.int 1)) (eCall sem__law_take (aCons (eVar 0) (aCons (eC (.int 24)) aNil))))) (aCons (eOp1 gInt (eCall sem__law_of (aCons (eVar 0) (aCons (eFz (lDisp (aCons (eC (.int 2)) (aCons (eC (.int 9)) (aCons (eC (.int 1000)) aNil))))) aNil)))) (aCons (eOwn (lDisp aNil)) aNil))))
 (sCons (sAsg (eOp2 gAdd (eC (.int 1)) (eOp2 gDiv (eOp2 gMul (eVar 1) (eVar 2)) (eOp2 gAdd (eC (.int 1)) (eOp1 gInt (eCall sem__law_take (aCons (eVar 0) (aCons (eC (.int 4)) aNil))))))) (bName 4))
 (sCons (sFor (iRg1 (eVar 1)) (bName 5) (sCons (sExpr (eMeth gApp (eVar 3) (eTup (aCons (eOp1 gInt (eOp2 gAdd (eC (.int 1)) (eCall sem__law_take (aCons (eVar 0) (aCons (eVar 2) aNil))))) (aCons (eOp1 gInt (eCall sem__law_take (aCons (eVar 0) (aCons (eVar 4) aNil)))) aNil)))))
 (sCons (sIf (tAndQ (tCmp2 pGt (eVar 5) (eC (.int 0))) (tCmp2 pEq (eCall sem__law_take (aCons (eVar 0) (aCons (eC (.int 5)) aNil))) (eC (.int 0)))) (sCons (sAsg (eCall sem__law_of (aCons (eVar 0) (aCons (eFz (lDisp (aCons (eOp2 gIx (eVar 3) (eOp1 gNeg (eC (.int 2)))) (aCons (eTup (aCons (eOp2 gIx (eOp2 gIx (eVar 3) (eOp1 gNeg (eC (.int 1)))) (eC (.int 0))) (aCons (eOp2 gIx (eOp2 gIx (eVar 3) (eOp1 gNeg (eC (.int 2)))) (eC (.int 1))) aNil))) (aCons (eTup (aCons (eOp2 gIx (eOp2 gIx (eVar 3) (eOp1 gNeg (eC (.int 2)))) (eC (.int 0))) (aCons (eOp2 gIx (eOp2 gIx (eVar 3) (eOp1 gNeg (eC (.int 1)))) (eC (.int 1))) aNil))) aNil))))) aNil))) (bSub (eVar 3) (eOp1 gNeg (eC (.int 1)))))
 sNil) sNil)
 sNil)))
 (sCons (sRet (eOp1 gTuple (eVar 3)))
 sNil))))
theorem SC__law_drawn : scT (C8.fnScope (stAt 35)) [("pot", .local), ("many", .local), ("scale", .local), ("jobs", .local), ("wide", .local), ("job", .local), ("_law_of", .globalImplicit), ("int", .globalImplicit), ("_law_take", .globalImplicit), ("range", .globalImplicit), ("tuple", .globalImplicit)] = true := by kernel_rfl
theorem FS__law_drawn : FnScope ["pot", "many", "scale", "jobs", "wide", "job"] ["pot"] (C8.fnScope (stAt 35)) := C8.fnScope_by (by kernel_rfl)
theorem G__law_drawn {w : World} {K : PySem.W.Frag} {mg : Str → Option Value} {base : Heap} {T : Tb} (B : Bls mg)
 {f : Addr} {fd : FuncData}
 (D : DefF K mg (stAt 35) "_law_drawn" ["pot"] f fd)
 {f__law_take : Addr} {fd__law_take : FuncData} (D__law_take : DefF K mg (stAt 32) "_law_take" ["pot", "upto"] f__law_take fd__law_take) (G__law_take : FnG Hd.PP w K mg base T 2 f__law_take fd__law_take ["pot", "upto"] sem__law_take)
 {f__law_of : Addr} {fd__law_of : FuncData} (D__law_of : DefF K mg (stAt 33) "_law_of" ["pot", "some"] f__law_of fd__law_of) (G__law_of : FnG Hd.PP w K mg base T 3 f__law_of fd__law_of ["pot", "some"] sem__law_of) :
 FnG Hd.PP w K mg base T 4 f fd ["pot"] sem__law_drawn :=
 have S := FS__law_drawn
 fnG_of D.F S fun cdv A outer s H hcd hr =>
 (show QSs _ T (C8.fnBody (stAt 35)) _ from
 (qss_cons (qs_par3 (i := 1) (j := 2) (l := 3) rfl S.nd rfl rfl rfl (by decide) (by decide) (by decide) (scT_get SC__law_drawn (i := 1) rfl) (scT_get SC__law_drawn (i := 2) rfl) (scT_get SC__law_drawn (i := 3) rfl) (qa_cons (qe_intC B (scT_get SC__law_drawn (i := 7) rfl) (qe_add qe_int (qe_callG G__law_take (hr.mono (by decide)) (scT_get SC__law_drawn (i := 8) rfl) D__law_take.hm D__law_take.F.kp D__law_take.hb (qa_cons (qe_var (i := 0) rfl (.inl (scT_get SC__law_drawn (i := 0) rfl))) (qa_cons qe_int qa_nil))))) (qa_cons (qe_intC B (scT_get SC__law_drawn (i := 7) rfl) (qe_callG G__law_of (hr.mono (by decide)) (scT_get SC__law_drawn (i := 6) rfl) D__law_of.hm D__law_of.F.kp D__law_of.hb (qa_cons (qe_var (i := 0) rfl (.inl (scT_get SC__law_drawn (i := 0) rfl))) (qa_cons (qe_fz (ql_lst (qa_cons qe_int (qa_cons qe_int (qa_cons qe_int qa_nil))))) qa_nil)))) (qa_cons (qe_own (ql_lst qa_nil)) qa_nil))) (by kernel_rfl))
 (qss_cons (qs_set S.nd (i := 4) rfl (.inl (scT_get SC__law_drawn (i := 4) rfl)) (qe_add qe_int (qe_div (qe_mul (qe_var (i := 1) rfl (.inl (scT_get SC__law_drawn (i := 1) rfl))) (qe_var (i := 2) rfl (.inl (scT_get SC__law_drawn (i := 2) rfl)))) (qe_add qe_int (qe_intC B (scT_get SC__law_drawn (i := 7) rfl) (qe_callG G__law_take (hr.mono (by decide)) (scT_get SC__law_drawn (i := 8) rfl) D__law_take.hm D__law_take.F.kp D__law_take.hb (qa_cons (qe_var (i := 0) rfl (.inl (scT_get SC__law_drawn (i := 0) rfl))) (qa_cons qe_int qa_nil))))))) rfl (.inl rfl))
 (qss_cons (qs_for (own := [5]) PassesOwn.never rfl (qi_rg1 B (scT_get SC__law_drawn (i := 9) rfl) (qe_var (i := 1) rfl (.inl (scT_get SC__law_drawn (i := 1) rfl)))) (qg_name S.nd (i := 5) rfl (.inl (scT_get SC__law_drawn (i := 5) rfl)) (by decide) (.inl rfl)) (qss_cons (qs_expr (qe_append (qe_var (i := 3) rfl (.inl (scT_get SC__law_drawn (i := 3) rfl))) (qe_tup (qa_cons (qe_intC B (scT_get SC__law_drawn (i := 7) rfl) (qe_add qe_int (qe_callG G__law_take (hr.mono (by decide)) (scT_get SC__law_drawn (i := 8) rfl) D__law_take.hm D__law_take.F.kp D__law_take.hb (qa_cons (qe_var (i := 0) rfl (.inl (scT_get SC__law_drawn (i := 0) rfl))) (qa_cons (qe_var (i := 2) rfl (.inl (scT_get SC__law_drawn (i := 2) rfl))) qa_nil))))) (qa_cons (qe_intC B (scT_get SC__law_drawn (i := 7) rfl) (qe_callG G__law_take (hr.mono (by decide)) (scT_get SC__law_drawn (i := 8) rfl) D__law_take.hm D__law_take.F.kp D__law_take.hb (qa_cons (qe_var (i := 0) rfl (.inl (scT_get SC__law_drawn (i := 0) rfl))) (qa_cons (qe_var (i := 4) rfl (.inl (scT_get SC__law_drawn (i := 4) rfl))) qa_nil)))) qa_nil)))))
 (qss_cons (qs_if (QW.t (qw_and (qt_cmp c_gt (qe_var (i := 5) rfl (.inl (scT_get SC__law_drawn (i := 5) rfl))) qe_int rfl) (qw_and1 (qt_cmp (c_eq hr.u) (qe_callG G__law_take (hr.mono (by decide)) (scT_get SC__law_drawn (i := 8) rfl) D__law_take.hm D__law_take.F.kp D__law_take.hb (qa_cons (qe_var (i := 0) rfl (.inl (scT_get SC__law_drawn (i := 0) rfl))) (qa_cons qe_int qa_nil))) qe_int rfl)))) (qss_cons (qs_asg (own := []) (qe_callG G__law_of (hr.mono (by decide)) (scT_get SC__law_drawn (i := 6) rfl) D__law_of.hm D__law_of.F.kp D__law_of.hb (qa_cons (qe_var (i := 0) rfl (.inl (scT_get SC__law_drawn (i := 0) rfl))) (qa_cons (qe_fz (ql_lst (qa_cons (qe_ix (qe_var (i := 3) rfl (.inl (scT_get SC__law_drawn (i := 3) rfl))) (qe_neg qe_int) (fun _ _ => rfl)) (qa_cons (qe_tup (qa_cons (qe_ix (qe_ix (qe_var (i := 3) rfl (.inl (scT_get SC__law_drawn (i := 3) rfl))) (qe_neg qe_int) (fun _ _ => rfl)) qe_int (fun _ _ => rfl)) (qa_cons (qe_ix (qe_ix (qe_var (i := 3) rfl (.inl (scT_get SC__law_drawn (i := 3) rfl))) (qe_neg qe_int) (fun _ _ => rfl)) qe_int (fun _ _ => rfl)) qa_nil))) (qa_cons (qe_tup (qa_cons (qe_ix (qe_ix (qe_var (i := 3) rfl (.inl (scT_get SC__law_drawn (i := 3) rfl))) (qe_neg qe_int) (fun _ _ => rfl)) qe_int (fun _ _ => rfl)) (qa_cons (qe_ix (qe_ix (qe_var (i := 3) rfl (.inl (scT_get SC__law_drawn (i := 3) rfl))) (qe_neg qe_int) (fun _ _ => rfl)) qe_int (fun _ _ => rfl)) qa_nil))) qa_nil))))) qa_nil))) (qg_sub (qe_var (i := 3) rfl (.inl (scT_get SC__law_drawn (i := 3) rfl))) (qe_neg qe_int)))
 qss_nil) qss_nil)
 qss_nil)))
 (qss_cons (qs_ret (qe_tuple B (scT_get SC__law_drawn (i := 10) rfl) (qe_var (i := 3) rfl (.inl (scT_get SC__law_drawn (i := 3) rfl)))))
 qss_nil)))))
/-! _law_most -/
def sem__law_most : Fn := fnS 8 1 (sCons (sPar2 1 2 (aCons (eOwn (lDisp aNil)) (aCons (eC (.int 0)) aNil)))
 (sCons (sFor (iSeq (eFz (lOp1 gSort (eFz (lComp [4] (iRg1 (eOp1 gLen (eVar 0))) (bName 4) tYesQ (eTup (aCons (eOp2 gIx (eOp2 gIx (eVar 0) (eVar 4)) (eC (.int 1))) (aCons (eVar 4) aNil)))))))) (bTup 2 (bsCons (bName 3) (bsCons (bName 4) bsNil))) (sCons (sExpr (eMeth gApp (eVar 1) (eVar 4)))
 (sCons (sAsg (eOp2 gAdd (eVar 2) (eOp2 gIx (eOp2 gIx (eVar 0) (eVar 4)) (eC (.int 0)))) (bName 2))
 (sCons (sIf (tCmp2 pGt (eVar 2) (eVar 3)) (sCons (sAsg (eOp1 (gBest PySem.W.maxD) (eFz (lCompC [7] 1 (bName 7) tYesQ (eTup (aCons (eOp2 gIx (eOp2 gIx (eVar 0) (eVar 7)) (eC (.int 0))) (aCons (eVar 7) aNil)))))) (bTup 2 (bsCons (bName 5) (bsCons (bName 6) bsNil))))
 (sCons (sExpr (eMeth gRem (eVar 1) (eVar 6)))
 (sCons (sAsg (eOp2 gSub (eVar 2) (eVar 5)) (bName 2))
 sNil))) sNil)
 sNil))))
 (sCons (sRet (eOp1 gTuple (eFz (lOp1 gSort (eVar 1)))))
 sNil)))
theorem SC__law_most : scT (C8.fnScope (stAt 36)) [("jobs", .cell), ("kept", .local), ("here", .local), ("due", .local), ("at", .local), ("length", .local), ("out", .local), ("range", .globalImplicit), ("len", .globalImplicit), ("sorted", .globalImplicit), ("max", .globalImplicit), ("tuple", .globalImplicit)] = true := by kernel_rfl
theorem FS__law_most : FnScope ["jobs", "kept", "here", "due", "at", "length", "out", "one"] ["jobs"] (C8.fnScope (stAt 36)) := C8.fnScope_by (by kernel_rfl)
theorem G__law_most {w : World} {K : PySem.W.Frag} {mg : Str → Option Value} {base : Heap} {T : Tb} (B : Bls mg)
 {f : Addr} {fd : FuncData}
 (D : DefF K mg (stAt 36) "_law_most" ["jobs"] f fd) :
 FnG Hd.PP w K mg base T 2 f fd ["jobs"] sem__law_most :=
 have S := FS__law_most
 fnG_of D.F S fun cdv A outer s H hcd hr =>
 (show QSs _ T (C8.fnBody (stAt 36)) _ from
 (qss_cons (qs_par2 (i := 1) (j := 2) rfl S.nd rfl rfl (by decide) (scT_get SC__law_most (i := 1) rfl) (scT_get SC__law_most (i := 2) rfl) (qa_cons (qe_own (ql_lst qa_nil)) (qa_cons qe_int qa_nil)) (by kernel_rfl))
 (qss_cons (qs_for (own := [3, 4]) PassesOwn.never rfl (qi_seq (qe_fz (ql_sorted hr.u B (scT_get SC__law_most (i := 9) rfl) (qe_fz (ql_compS (own := [("at", 4)]) (l := [("at", .local), ("jobs", .cell)]) rfl S.nd (by kernel_rfl) (by kernel_rfl) (qi_rg1 B (scT_get SC__law_most (i := 7) rfl) (qe_len B (scT_get SC__law_most (i := 8) rfl) (qe_var (i := 0) rfl (.inr (.inl (scT_get SC__law_most (i := 0) rfl)))))) (fun g s H C cl fp => (qg_name S.nd (i := 4) rfl (.inl (scT_get g (i := 0) rfl)) (by decide) (.inr (scT_get g (i := 0) rfl)))) (fun g s H C cl fp => qts_nil) (fun g s H C cl fp => (qe_tup (qa_cons (qe_ix (qe_ix (qe_var (i := 0) rfl (.inr (.inl (scT_get g (i := 1) rfl)))) (qe_var (i := 4) rfl (.inl (scT_get g (i := 0) rfl))) (fun _ _ => rfl)) qe_int (fun _ _ => rfl)) (qa_cons (qe_var (i := 4) rfl (.inl (scT_get g (i := 0) rfl))) qa_nil))))))))) (qg_tup rfl (qgs_cons (qg_name S.nd (i := 3) rfl (.inl (scT_get SC__law_most (i := 3) rfl)) (by decide) (.inl rfl)) (qgs_cons (qg_name S.nd (i := 4) rfl (.inl (scT_get SC__law_most (i := 4) rfl)) (by decide) (.inl rfl)) qgs_nil))) (qss_cons (qs_expr (qe_append (qe_var (i := 1) rfl (.inl (scT_get SC__law_most (i := 1) rfl))) (qe_var (i := 4) rfl (.inl (scT_get SC__law_most (i := 4) rfl)))))
 (qss_cons (qs_set S.nd (i := 2) rfl (.inl (scT_get SC__law_most (i := 2) rfl)) (qe_add (qe_var (i := 2) rfl (.inl (scT_get SC__law_most (i := 2) rfl))) (qe_ix (qe_ix (qe_var (i := 0) rfl (.inr (.inl (scT_get SC__law_most (i := 0) rfl)))) (qe_var (i := 4) rfl (.inl (scT_get SC__law_most (i := 4) rfl))) (fun _ _ => rfl)) qe_int (fun _ _ => rfl))) rfl (.inl rfl))
 (qss_cons (qs_if (qt_cmp c_gt (qe_var (i := 2) rfl (.inl (scT_get SC__law_most (i := 2) rfl))) (qe_var (i := 3) rfl (.inl (scT_get SC__law_most (i := 3) rfl))) rfl) (qss_cons (qs_asg (own := [5, 6]) (qe_maxD hr.r rfl B (scT_get SC__law_most (i := 10) rfl) (qe_fz (ql_compC (own := [("one", 7)]) (l := [("one", .local), ("jobs", .cell)]) rfl S.nd (i := 1) rfl (.inl (scT_get SC__law_most (i := 1) rfl)) (by kernel_rfl) (by kernel_rfl) (fun g s H C cl fp => (qg_name S.nd (i := 7) rfl (.inl (scT_get g (i := 0) rfl)) (by decide) (.inr (scT_get g (i := 0) rfl)))) (fun g s H C cl fp => qts_nil) (fun g s H C cl fp => (qe_tup (qa_cons (qe_ix (qe_ix (qe_var (i := 0) rfl (.inr (.inl (scT_get g (i := 1) rfl)))) (qe_var (i := 7) rfl (.inl (scT_get g (i := 0) rfl))) (fun _ _ => rfl)) qe_int (fun _ _ => rfl)) (qa_cons (qe_var (i := 7) rfl (.inl (scT_get g (i := 0) rfl))) qa_nil))))))) (qg_tup rfl (qgs_cons (qg_name S.nd (i := 5) rfl (.inl (scT_get SC__law_most (i := 5) rfl)) (by decide) (.inl rfl)) (qgs_cons (qg_name S.nd (i := 6) rfl (.inl (scT_get SC__law_most (i := 6) rfl)) (by decide) (.inl rfl)) qgs_nil))))
 (qss_cons (qs_expr (qe_remove (qe_var (i := 1) rfl (.inl (scT_get SC__law_most (i := 1) rfl))) (qe_var (i := 6) rfl (.inl (scT_get SC__law_most (i := 6) rfl)))))
 (qss_cons (qs_set S.nd (i := 2) rfl (.inl (scT_get SC__law_most (i := 2) rfl)) (qe_sub (qe_var (i := 2) rfl (.inl (scT_get SC__law_most (i := 2) rfl))) (qe_var (i := 5) rfl (.inl (scT_get SC__law_most (i := 5) rfl)))) rfl (.inl rfl))
 qss_nil))) qss_nil)
 qss_nil))))
 (qss_cons (qs_ret (qe_tuple B (scT_get SC__law_most (i := 11) rfl) (qe_fz (ql_sorted hr.u B (scT_get SC__law_most (i := 9) rfl) (qe_var (i := 1) rfl (.inl (scT_get SC__law_most (i := 1) rfl)))))))
 qss_nil))))
/-! _law_are_in_time -/
def sem__law_are_in_time : Fn := fnS 5 2 (sCons (sAsg (eC (.int 0)) (bName 2))
 (sCons (sFor (iSeq (eFz (lOp1 gSort (eFz (lComp [4] (iSeq (eVar 1)) (bName 4) tYesQ (eTup (aCons (eOp2 gIx (eOp2 gIx (eVar 0) (eVar 4)) (eC (.int 1))) (aCons (eVar 4) aNil)))))))) (bTup 2 (bsCons (bName 3) (bsCons (bName 4) bsNil))) (sCons (sAsg (eOp2 gAdd (eVar 2) (eOp2 gIx (eOp2 gIx (eVar 0) (eVar 4)) (eC (.int 0)))) (bName 2))
 (sCons (sIf (tCmp2 pGt (eVar 2) (eVar 3)) (sCons (sRet (eC (.bool false)))
 sNil) sNil)
 sNil)))
 (sCons (sRet (eC (.bool true)))
 sNil)))
theorem SC__law_are_in_time : scT (C8.fnScope (stAt 37)) [("jobs", .cell), ("some", .local), ("here", .local), ("due", .local), ("at", .local), ("sorted", .globalImplicit)] = true := by kernel_rfl
theorem FS__law_are_in_time : FnScope ["jobs", "some", "here", "due", "at"] ["jobs", "some"] (C8.fnScope (stAt 37)) := C8.fnScope_by (by kernel_rfl)
theorem G__law_are_in_time {w : World} {K : PySem.W.Frag} {mg : Str → Option Value} {base : Heap} {T : Tb} (B : Bls mg)
 {f : Addr} {fd : FuncData}
 (D : DefF K mg (stAt 37) "_law_are_in_time" ["jobs", "some"] f fd) :
 FnG Hd.PP w K mg base T 2 f fd ["jobs", "some"] sem__law_are_in_time :=
 have S := FS__law_are_in_time
 fnG_of D.F S fun cdv A outer s H hcd hr =>
 (show QSs _ T (C8.fnBody (stAt 37)) _ from
 (qss_cons (qs_set S.nd (i := 2) rfl (.inl (scT_get SC__law_are_in_time (i := 2) rfl)) qe_int rfl (.inl rfl))
 (qss_cons (qs_for (own := [3, 4]) PassesOwn.never rfl (qi_seq (qe_fz (ql_sorted hr.u B (scT_get SC__law_are_in_time (i := 5) rfl) (qe_fz (ql_compS (own := [("at", 4)]) (l := [("at", .local), ("jobs", .cell)]) rfl S.nd (by kernel_rfl) (by kernel_rfl) (qi_seq (qe_var (i := 1) rfl (.inl (scT_get SC__law_are_in_time (i := 1) rfl)))) (fun g s H C cl fp => (qg_name S.nd (i := 4) rfl (.inl (scT_get g (i := 0) rfl)) (by decide) (.inr (scT_get g (i := 0) rfl)))) (fun g s H C cl fp => qts_nil) (fun g s H C cl fp => (qe_tup (qa_cons (qe_ix (qe_ix (qe_var (i := 0) rfl (.inr (.inl (scT_get g (i := 1) rfl)))) (qe_var (i := 4) rfl (.inl (scT_get g (i := 0) rfl))) (fun _ _ => rfl)) qe_int (fun _ _ => rfl)) (qa_cons (qe_var (i := 4) rfl (.inl (scT_get g (i := 0) rfl))) qa_nil))))))))) (qg_tup rfl (qgs_cons (qg_name S.nd (i := 3) rfl (.inl (scT_get SC__law_are_in_time (i := 3) rfl)) (by decide) (.inl rfl)) (qgs_cons (qg_name S.nd (i := 4) rfl (.inl (scT_get SC__law_are_in_time (i := 4) rfl)) (by decide) (.inl rfl)) qgs_nil))) (qss_cons (qs_set S.nd (i := 2) rfl (.inl (scT_get SC__law_are_in_time (i := 2) rfl)) (qe_add (qe_var (i := 2) rfl (.inl (scT_get SC__law_are_in_time (i := 2) rfl))) (qe_ix (qe_ix (qe_var (i := 0) rfl (.inr (.inl (scT_get SC__law_are_in_time (i := 0) rfl)))) (qe_var (i := 4) rfl (.inl (scT_get SC__law_are_in_time (i := 4) rfl))) (fun _ _ => rfl)) qe_int (fun _ _ => rfl))) rfl (.inl rfl))
 (qss_cons (qs_if (qt_cmp c_gt (qe_var (i := 2) rfl (.inl (scT_get SC__law_are_in_time (i := 2) rfl))) (qe_var (i := 3) rfl (.inl (scT_get SC__law_are_in_time (i := 3) rfl))) rfl) (qss_cons (qs_ret qe_bl)
 qss_nil) qss_nil)
 qss_nil)))
 (qss_cons (qs_ret qe_bl)
 qss_nil))))
/-! _law_as_tasks -/
def sem__law_as_tasks : Fn := fnS 3 2 (sCons (sRet (eOp1 gTuple (eFz (lComp [2] (iSeq (eVar 1)) (bName 2) tYesQ (eTup (aCons (eC (.int 0)) (aCons (eOp2 gIx (eOp2 gIx (eVar 0) (eVar 2)) (eC (.int 0))) (aCons (eOp2 gIx (eOp2 gIx (eVar 0) (eVar 2)) (eC (.int 1))) aNil))))))))
 sNil)
theorem SC__law_as_tasks : scT (C8.fnScope (stAt 38)) [("jobs", .cell), ("some", .local), ("tuple", .globalImplicit)] = true := by kernel_rfl
theorem FS__law_as_tasks : FnScope ["jobs", "some", "at"] ["jobs", "some"] (C8.fnScope (stAt 38)) := C8.fnScope_by (by kernel_rfl)
theorem G__law_as_tasks {w : World} {K : PySem.W.Frag} {mg : Str → Option Value} {base : Heap} {T : Tb} (B : Bls mg)
 {f : Addr} {fd : FuncData}
 (D : DefF K mg (stAt 38) "_law_as_tasks" ["jobs", "some"] f fd) :
 FnG Hd.PP w K mg base T 2 f fd ["jobs", "some"] sem__law_as_tasks :=
 have S := FS__law_as_tasks
 fnG_of D.F S fun cdv A outer s H hcd hr =>
 (show QSs _ T (C8.fnBody (stAt 38)) _ from
 (qss_cons (qs_ret (qe_tuple B (scT_get SC__law_as_tasks (i := 2) rfl) (qe_fz (ql_compS (own := [("at", 2)]) (l := [("at", .local), ("jobs", .cell)]) rfl S.nd (by kernel_rfl) (by kernel_rfl) (qi_seq (qe_var (i := 1) rfl (.inl (scT_get SC__law_as_tasks (i := 1) rfl)))) (fun g s H C cl fp => (qg_name S.nd (i := 2) rfl (.inl (scT_get g (i := 0) rfl)) (by decide) (.inr (scT_get g (i := 0) rfl)))) (fun g s H C cl fp => qts_nil) (fun g s H C cl fp => (qe_tup (qa_cons qe_int (qa_cons (qe_ix (qe_ix (qe_var (i := 0) rfl (.inr (.inl (scT_get g (i := 1) rfl)))) (qe_var (i := 2) rfl (.inl (scT_get g (i := 0) rfl))) (fun _ _ => rfl)) qe_int (fun _ _ => rfl)) (qa_cons (qe_ix (qe_ix (qe_var (i := 0) rfl (.inr (.inl (scT_get g (i := 1) rfl)))) (qe_var (i := 2) rfl (.inl (scT_get g (i := 0) rfl))) (fun _ _ => rfl)) qe_int (fun _ _ => rfl)) qa_nil)))))))))
 qss_nil))
/-! _law_is_more_right -/
def sem__law_is_more_right : Fn := fnS 10 3 (sCons (sFor (iSeq (eFz (lSlL (eFz (lComp [3] (iRg1 (eOp1 gLen (eVar 1))) (bName 3) (tCmp2 pNotIn (eVar 3) (eVar 2)) (eVar 3))) oNone (oSome (eC (.int 6)))))) (bName 3) (sCons (sAsg (eOp1 gTuple (eFz (lOp1 gSort (eOp2 gAdd (eVar 2) (eTup (aCons (eVar 3) aNil)))))) (bName 4))
 (sCons (sIf (tOrQ (tCmp2 pIsNot (eCall sem_are_in_time (aCons (eVar 1) (aCons (eVar 4) aNil))) (eC (.bool false))) (tCmp2 pIsNot (eCall sem_is_most_in_time (aCons (eVar 1) (aCons (eVar 4) aNil))) (eC (.bool false)))) (sCons (sRet (eC (.bool false)))
 sNil) sNil)
 (sCons (sAsg (eCall sem__law_as_tasks (aCons (eVar 1) (aCons (eVar 4) aNil))) (bName 5))
 (sCons (sIf (tOrQ (tCmp2 pLt (eCall sem_too_long (aCons (eVar 5) aNil)) (eC (.int 1))) (tCmp2 pNe (eOp2 gIx (eCall sem_with_breaks (aCons (eVar 5) aNil)) (eC (.int 0))) (eC (.str "lot")))) (sCons (sRet (eC (.bool false)))
 sNil) sNil)
 sNil)))))
 (sCons (sIf (tCmp2 pEq (eVar 2) (eTup aNil)) (sCons (sRet (eOp1 gAll (eFz (lComp [7, 8] (iSeq (eVar 1)) (bTup 2 (bsCons (bName 7) (bsCons (bName 8) bsNil))) tYesQ (eOp2 (gB pGt) (eVar 7) (eVar 8))))))
 sNil) sNil)
 (sCons (sAsg (eCall sem__law_as_tasks (aCons (eVar 1) (aCons (eVar 2) aNil))) (bName 5))
 (sCons (sAsg (eOwn (lComp [8, 3] (iSeq (eFz (lOp1 gSort (eFz (lComp [3, 9] (iEn (eVar 5)) (bTup 2 (bsCons (bName 3) (bsCons (bName 9) bsNil))) tYesQ (eTup (aCons (eOp2 gIx (eVar 9) (eC (.int 2))) (aCons (eVar 3) aNil)))))))) (bTup 2 (bsCons (bName 8) (bsCons (bName 3) bsNil))) tYesQ (eVar 3))) (bName 6))
 (sFrz 6 (sCons (sRet (eAnd (eOp2 (gB pLe) (eCall sem_too_long (aCons (eVar 5) aNil)) (eC (.int 0))) (eAnd (eOp2 (gB pLe) (eCall sem_lateness_of (aCons (eVar 5) (aCons (eOp1 gTuple (eVar 6)) aNil))) (eC (.int 0))) (eOp2 (gB pEq) (eOp2 gIx (eCall sem_with_breaks (aCons (eVar 5) aNil)) (eC (.int 0))) (eC (.str "broken"))))))
 sNil))))))
theorem SC__law_is_more_right : scT (C8.fnScope (stAt 39)) [("pot", .local), ("jobs", .local), ("told", .cell), ("at", .local), ("more", .local), ("tasks", .local), ("order", .local), ("range", .globalImplicit), ("len", .globalImplicit), ("sorted", .globalImplicit), ("tuple", .globalImplicit), ("are_in_time", .globalImplicit), ("is_most_in_time", .globalImplicit), ("_law_as_tasks", .globalImplicit), ("too_long", .globalImplicit), ("with_breaks", .globalImplicit), ("all", .globalImplicit), ("enumerate", .globalImplicit), ("lateness_of", .globalImplicit)] = true := by kernel_rfl
theorem FS__law_is_more_right : FnScope ["pot", "jobs", "told", "at", "more", "tasks", "order", "length", "due", "task"] ["pot", "jobs", "told"] (C8.fnScope (stAt 39)) := C8.fnScope_by (by kernel_rfl)
theorem G__law_is_more_right {w : World} {K : PySem.W.Frag} {mg : Str → Option Value} {base : Heap} {T : Tb} (B : Bls mg)
 {f : Addr} {fd : FuncData}
 (D : DefF K mg (stAt 39) "_law_is_more_right" ["pot", "jobs", "told"] f fd)
 {f_are_in_time : Addr} {fd_are_in_time : FuncData} (D_are_in_time : DefF K mg (stAt 16) "are_in_time" ["jobs", "some"] f_are_in_time fd_are_in_time) (G_are_in_time : FnG Hd.PP w K mg base T 6 f_are_in_time fd_are_in_time ["jobs", "some"] sem_are_in_time)
 {f_is_most_in_time : Addr} {fd_is_most_in_time : FuncData} (D_is_most_in_time : DefF K mg (stAt 17) "is_most_in_time" ["jobs", "value"] f_is_most_in_time fd_is_most_in_time) (G_is_most_in_time : FnG Hd.PP w K mg base T 7 f_is_most_in_time fd_is_most_in_time ["jobs", "value"] sem_is_most_in_time)
 {f_too_long : Addr} {fd_too_long : FuncData} (D_too_long : DefF K mg (stAt 26) "too_long" ["tasks"] f_too_long fd_too_long) (G_too_long : FnG Hd.PP w K mg base T 6 f_too_long fd_too_long ["tasks"] sem_too_long)
 {f_with_breaks : Addr} {fd_with_breaks : FuncData} (D_with_breaks : DefF K mg (stAt 28) "with_breaks" ["tasks"] f_with_breaks fd_with_breaks) (G_with_breaks : FnG Hd.PP w K mg base T 6 f_with_breaks fd_with_breaks ["tasks"] sem_with_breaks)
 {f_lateness_of : Addr} {fd_lateness_of : FuncData} (D_lateness_of : DefF K mg (stAt 29) "lateness_of" ["tasks", "order"] f_lateness_of fd_lateness_of) (G_lateness_of : FnG Hd.PP w K mg base T 6 f_lateness_of fd_lateness_of ["tasks", "order"] sem_lateness_of)
 {f__law_as_tasks : Addr} {fd__law_as_tasks : FuncData} (D__law_as_tasks : DefF K mg (stAt 38) "_law_as_tasks" ["jobs", "some"] f__law_as_tasks fd__law_as_tasks) (G__law_as_tasks : FnG Hd.PP w K mg base T 2 f__law_as_tasks fd__law_as_tasks ["jobs", "some"] sem__law_as_tasks) :
 FnG Hd.PP w K mg base T 8 f fd ["pot", "jobs", "told"] sem__law_is_more_right :=
 have S := FS__law_is_more_right
 fnG_of D.F S fun cdv A outer s H hcd hr =>
 (show QSs _ T (C8.fnBody (stAt 39)) _ from
 (qss_cons (qs_for (own := [3]) PassesOwn.never rfl (qi_seq (qe_fz (ql_slL (qe_fz (ql_compS (own := [("at", 3)]) (l := [("at", .local), ("told", .cell)]) rfl S.nd (by kernel_rfl) (by kernel_rfl) (qi_rg1 B (scT_get SC__law_is_more_right (i := 7) rfl) (qe_len B (scT_get SC__law_is_more_right (i := 8) rfl) (qe_var (i := 1) rfl (.inl (scT_get SC__law_is_more_right (i := 1) rfl))))) (fun g s H C cl fp => (qg_name S.nd (i := 3) rfl (.inl (scT_get g (i := 0) rfl)) (by decide) (.inr (scT_get g (i := 0) rfl)))) (fun g s H C cl fp => (qts_one (qt_cmp (c_notin hr.u) (qe_var (i := 3) rfl (.inl (scT_get g (i := 0) rfl))) (qe_var (i := 2) rfl (.inr (.inl (scT_get g (i := 1) rfl)))) rfl))) (fun g s H C cl fp => (qe_var (i := 3) rfl (.inl (scT_get g (i := 0) rfl)))))) qo_none (qo_some qe_int)))) (qg_name S.nd (i := 3) rfl (.inl (scT_get SC__law_is_more_right (i := 3) rfl)) (by decide) (.inl rfl)) (qss_cons (qs_set S.nd (i := 4) rfl (.inl (scT_get SC__law_is_more_right (i := 4) rfl)) (qe_tuple B (scT_get SC__law_is_more_right (i := 10) rfl) (qe_fz (ql_sorted hr.u B (scT_get SC__law_is_more_right (i := 9) rfl) (qe_add (qe_var (i := 2) rfl (.inr (.inl (scT_get SC__law_is_more_right (i := 2) rfl)))) (qe_tup (qa_cons (qe_var (i := 3) rfl (.inl (scT_get SC__law_is_more_right (i := 3) rfl))) qa_nil)))))) rfl (.inl rfl))
 (qss_cons (qs_if (QW.t (qw_or (qt_cmp c_isnot (qe_callG G_are_in_time (hr.mono (by decide)) (scT_get SC__law_is_more_right (i := 11) rfl) D_are_in_time.hm D_are_in_time.F.kp D_are_in_time.hb (qa_cons (qe_var (i := 1) rfl (.inl (scT_get SC__law_is_more_right (i := 1) rfl))) (qa_cons (qe_var (i := 4) rfl (.inl (scT_get SC__law_is_more_right (i := 4) rfl))) qa_nil))) qe_bl rfl) (qw_or1 (qt_cmp c_isnot (qe_callG G_is_most_in_time (hr.mono (by decide)) (scT_get SC__law_is_more_right (i := 12) rfl) D_is_most_in_time.hm D_is_most_in_time.F.kp D_is_most_in_time.hb (qa_cons (qe_var (i := 1) rfl (.inl (scT_get SC__law_is_more_right (i := 1) rfl))) (qa_cons (qe_var (i := 4) rfl (.inl (scT_get SC__law_is_more_right (i := 4) rfl))) qa_nil))) qe_bl rfl)))) (qss_cons (qs_ret qe_bl)
 qss_nil) qss_nil)
 (qss_cons (qs_set S.nd (i := 5) rfl (.inl (scT_get SC__law_is_more_right (i := 5) rfl)) (qe_callG G__law_as_tasks (hr.mono (by decide)) (scT_get SC__law_is_more_right (i := 13) rfl) D__law_as_tasks.hm D__law_as_tasks.F.kp D__law_as_tasks.hb (qa_cons (qe_var (i := 1) rfl (.inl (scT_get SC__law_is_more_right (i := 1) rfl))) (qa_cons (qe_var (i := 4) rfl (.inl (scT_get SC__law_is_more_right (i := 4) rfl))) qa_nil))) rfl (.inl rfl))
 (qss_cons (qs_if (QW.t (qw_or (qt_cmp c_lt (qe_callG G_too_long (hr.mono (by decide)) (scT_get SC__law_is_more_right (i := 14) rfl) D_too_long.hm D_too_long.F.kp D_too_long.hb (qa_cons (qe_var (i := 5) rfl (.inl (scT_get SC__law_is_more_right (i := 5) rfl))) qa_nil)) qe_int rfl) (qw_or1 (qt_cmp (c_ne hr.u) (qe_ix (qe_callG G_with_breaks (hr.mono (by decide)) (scT_get SC__law_is_more_right (i := 15) rfl) D_with_breaks.hm D_with_breaks.F.kp D_with_breaks.hb (qa_cons (qe_var (i := 5) rfl (.inl (scT_get SC__law_is_more_right (i := 5) rfl))) qa_nil)) qe_int (fun _ _ => rfl)) qe_str rfl)))) (qss_cons (qs_ret qe_bl)
 qss_nil) qss_nil)
 qss_nil)))))
 (qss_cons (qs_if (qt_cmp (c_eq hr.u) (qe_var (i := 2) rfl (.inr (.inl (scT_get SC__law_is_more_right (i := 2) rfl)))) (qe_tup qa_nil) rfl) (qss_cons (qs_ret (qe_all rfl B (scT_get SC__law_is_more_right (i := 16) rfl) (qe_fz (ql_compS (own := [("length", 7), ("due", 8)]) (l := [("due", .local), ("length", .local)]) rfl S.nd (by kernel_rfl) (by kernel_rfl) (qi_seq (qe_var (i := 1) rfl (.inl (scT_get SC__law_is_more_right (i := 1) rfl)))) (fun g s H C cl fp => (qg_tup rfl (qgs_cons (qg_name S.nd (i := 7) rfl (.inl (scT_get g (i := 1) rfl)) (by decide) (.inr (scT_get g (i := 1) rfl))) (qgs_cons (qg_name S.nd (i := 8) rfl (.inl (scT_get g (i := 0) rfl)) (by decide) (.inr (scT_get g (i := 0) rfl))) qgs_nil)))) (fun g s H C cl fp => qts_nil) (fun g s H C cl fp => (qe_cmp c_gt (qe_var (i := 7) rfl (.inl (scT_get g (i := 1) rfl))) (qe_var (i := 8) rfl (.inl (scT_get g (i := 0) rfl))) rfl))))))
 qss_nil) qss_nil)
 (qss_cons (qs_set S.nd (i := 5) rfl (.inl (scT_get SC__law_is_more_right (i := 5) rfl)) (qe_callG G__law_as_tasks (hr.mono (by decide)) (scT_get SC__law_is_more_right (i := 13) rfl) D__law_as_tasks.hm D__law_as_tasks.F.kp D__law_as_tasks.hb (qa_cons (qe_var (i := 1) rfl (.inl (scT_get SC__law_is_more_right (i := 1) rfl))) (qa_cons (qe_var (i := 2) rfl (.inr (.inl (scT_get SC__law_is_more_right (i := 2) rfl)))) qa_nil))) rfl (.inl rfl))
 (qss_cons (qs_setLc (own := [("due", 8), ("at", 3)]) (l := [("at", .local), ("due", .local)]) rfl S.nd (i := 6) rfl (scT_get SC__law_is_more_right (i := 6) rfl) rfl rfl (by kernel_rfl) (by kernel_rfl) (by kernel_rfl) (qi_seq (qe_fz (ql_sorted hr.u B (scT_get SC__law_is_more_right (i := 9) rfl) (qe_fz (ql_compS (own := [("at", 3), ("task", 9)]) (l := [("task", .local), ("at", .local)]) rfl S.nd (by kernel_rfl) (by kernel_rfl) (qi_enum B (scT_get SC__law_is_more_right (i := 17) rfl) (qe_var (i := 5) rfl (.inl (scT_get SC__law_is_more_right (i := 5) rfl)))) (fun g s H C cl fp => (qg_tup rfl (qgs_cons (qg_name S.nd (i := 3) rfl (.inl (scT_get g (i := 1) rfl)) (by decide) (.inr (scT_get g (i := 1) rfl))) (qgs_cons (qg_name S.nd (i := 9) rfl (.inl (scT_get g (i := 0) rfl)) (by decide) (.inr (scT_get g (i := 0) rfl))) qgs_nil)))) (fun g s H C cl fp => qts_nil) (fun g s H C cl fp => (qe_tup (qa_cons (qe_ix (qe_var (i := 9) rfl (.inl (scT_get g (i := 0) rfl))) qe_int (fun _ _ => rfl)) (qa_cons (qe_var (i := 3) rfl (.inl (scT_get g (i := 1) rfl))) qa_nil))))))))) (fun g s H C cl fp => (qg_tup rfl (qgs_cons (qg_name S.nd (i := 8) rfl (.inl (scT_get g (i := 1) rfl)) (by decide) (.inr (scT_get g (i := 1) rfl))) (qgs_cons (qg_name S.nd (i := 3) rfl (.inl (scT_get g (i := 0) rfl)) (by decide) (.inr (scT_get g (i := 0) rfl))) qgs_nil)))) (fun g s H C cl fp => qts_nil) (fun g s H C cl fp => (qe_var (i := 3) rfl (.inl (scT_get g (i := 0) rfl)))))
 (qss_frz 6 (qss_cons (qs_ret (qe_and (qe_cmp c_le (qe_callG G_too_long (hr.mono (by decide)) (scT_get SC__law_is_more_right (i := 14) rfl) D_too_long.hm D_too_long.F.kp D_too_long.hb (qa_cons (qe_var (i := 5) rfl (.inl (scT_get SC__law_is_more_right (i := 5) rfl))) qa_nil)) qe_int rfl) (qe_and (qe_cmp c_le (qe_callG G_lateness_of (hr.mono (by decide)) (scT_get SC__law_is_more_right (i := 18) rfl) D_lateness_of.hm D_lateness_of.F.kp D_lateness_of.hb (qa_cons (qe_var (i := 5) rfl (.inl (scT_get SC__law_is_more_right (i := 5) rfl))) (qa_cons (qe_tuple B (scT_get SC__law_is_more_right (i := 10) rfl) (qe_var (i := 6) rfl (.inl (scT_get SC__law_is_more_right (i := 6) rfl)))) qa_nil))) qe_int rfl) (qe_one (qe_cmp (c_eq hr.u) (qe_ix (qe_callG G_with_breaks (hr.mono (by decide)) (scT_get SC__law_is_more_right (i := 15) rfl) D_with_breaks.hm D_with_breaks.F.kp D_with_breaks.hb (qa_cons (qe_var (i := 5) rfl (.inl (scT_get SC__law_is_more_right (i := 5) rfl))) qa_nil)) qe_int (fun _ _ => rfl)) qe_str rfl)))))
 qss_nil)))))))
/-! _law_are_others_right -/
def sem__law_are_others_right : Fn := fnS 13 3 (sCons (sAsg (eOwn (lDisp (aCons (eVar 2) (aCons (eSlT (eVar 2) (oSome (eC (.int 1))) oNone) (aCons (eSlT (eVar 2) oNone (oSome (eOp1 gNeg (eC (.int 1))))) (aCons (eRevT (eVar 2)) (aCons (eFz (lOp1 seqOf (eVar 2))) (aCons (eTup aNil) aNil)))))))) (bName 3))
 (sCons (sFor (iRg1 (eC (.int 8))) (bName 4) (sCons (sAsg (eOwn (lComp [12] (iRg1 (eOp1 gLen (eVar 1))) (bName 12) (tCmp2 pNotIn (eVar 12) (eVar 2)) (eVar 12))) (bName 5))
 (sFrz 5 (sCons (sIf (tAndQ (tCmp2 pNe (eVar 5) (eFz (lDisp aNil))) (tCmp2 pNe (eVar 2) (eTup aNil))) (sCons (sParT [6, 7] (aCons (eCall sem__law_of (aCons (eVar 0) (aCons (eVar 2) aNil))) (aCons (eCall sem__law_of (aCons (eVar 0) (aCons (eVar 5) aNil))) aNil)))
 (sCons (sExpr (eMeth gApp (eVar 3) (eOp1 gTuple (eFz (lOp1 gSort (eFz (lAdd (eFz (lComp [12] (iSeq (eVar 2)) (bName 12) (tCmp2 pNe (eVar 12) (eVar 6)) (eVar 12))) (eFz (lDisp (aCons (eVar 7) aNil))))))))))
 sNil)) sNil)
 sNil))))
 (sFrz 3 (sCons (sFor (iSeq (eVar 3)) (bName 8) (sCons (sAsg (eAnd (eOp1 (gIsi "tuple") (eVar 8)) (eOp2 (gB pEq) (eFz (lOp1 seqOf (eVar 8))) (eFz (lOp1 gSSet (eVar 8))))) (bName 9))
 (sCons (sAsg (eAnd (eVar 9) (eCall sem__law_are_in_time (aCons (eVar 1) (aCons (eVar 8) aNil)))) (bName 10))
 (sCons (sAsg (eAnd (eVar 10) (eOp2 (gB pEq) (eOp1 gLen (eVar 8)) (eOp1 gLen (eVar 2)))) (bName 11))
 (sCons (sIf (tCmp2 pNe (eOp1 gRepr (eFz (lDisp (aCons (eCall sem_are_in_time (aCons (eVar 1) (aCons (eVar 8) aNil))) (aCons (eCall sem_is_most_in_time (aCons (eVar 1) (aCons (eVar 8) aNil))) aNil))))) (eOp1 gRepr (eFz (lDisp (aCons (eVar 10) (aCons (eVar 11) aNil)))))) (sCons (sRet (eC (.bool false)))
 sNil) sNil)
 sNil)))))
 (sCons (sRet (eC (.bool true)))
 sNil)))))
theorem SC__law_are_others_right : scT (C8.fnScope (stAt 40)) [("pot", .local), ("jobs", .local), ("told", .cell), ("others", .local), ("turn", .local), ("rest", .local), ("out", .cell), ("new", .local), ("value", .local), ("is_set", .local), ("due", .local), ("is_most", .local), ("list", .globalImplicit), ("range", .globalImplicit), ("len", .globalImplicit), ("_law_of", .globalImplicit), ("sorted", .globalImplicit), ("tuple", .globalImplicit), ("isinstance", .globalImplicit), ("set", .globalImplicit), ("_law_are_in_time", .globalImplicit), ("are_in_time", .globalImplicit), ("is_most_in_time", .globalImplicit), ("repr", .globalImplicit)] = true := by kernel_rfl
theorem FS__law_are_others_right : FnScope ["pot", "jobs", "told", "others", "turn", "rest", "out", "new", "value", "is_set", "due", "is_most", "at"] ["pot", "jobs", "told"] (C8.fnScope (stAt 40)) := C8.fnScope_by (by kernel_rfl)
theorem G__law_are_others_right {w : World} {K : PySem.W.Frag} {mg : Str → Option Value} {base : Heap} {T : Tb} (B : Bls mg)
 {f : Addr} {fd : FuncData}
 (D : DefF K mg (stAt 40) "_law_are_others_right" ["pot", "jobs", "told"] f fd)
 {f_are_in_time : Addr} {fd_are_in_time : FuncData} (D_are_in_time : DefF K mg (stAt 16) "are_in_time" ["jobs", "some"] f_are_in_time fd_are_in_time) (G_are_in_time : FnG Hd.PP w K mg base T 6 f_are_in_time fd_are_in_time ["jobs", "some"] sem_are_in_time)
 {f_is_most_in_time : Addr} {fd_is_most_in_time : FuncData} (D_is_most_in_time : DefF K mg (stAt 17) "is_most_in_time" ["jobs", "value"] f_is_most_in_time fd_is_most_in_time) (G_is_most_in_time : FnG Hd.PP w K mg base T 7 f_is_most_in_time fd_is_most_in_time ["jobs", "value"] sem_is_most_in_time)
 {f__law_of : Addr} {fd__law_of : FuncData} (D__law_of : DefF K mg (stAt 33) "_law_of" ["pot", "some"] f__law_of fd__law_of) (G__law_of : FnG Hd.PP w K mg base T 3 f__law_of fd__law_of ["pot", "some"] sem__law_of)
 {f__law_are_in_time : Addr} {fd__law_are_in_time : FuncData} (D__law_are_in_time : DefF K mg (stAt 37) "_law_are_in_time" ["jobs", "some"] f__law_are_in_time fd__law_are_in_time) (G__law_are_in_time : FnG Hd.PP w K mg base T 2 f__law_are_in_time fd__law_are_in_time ["jobs", "some"] sem__law_are_in_time) :
 FnG Hd.PP w K mg base T 8 f fd ["pot", "jobs", "told"] sem__law_are_others_right :=
 have S := FS__law_are_others_right
 fnG_of D.F S fun cdv A outer s H hcd hr =>
 (show QSs _ T (C8.fnBody (stAt 40)) _ from
 (qss_cons (qs_set S.nd (i := 3) rfl (.inl (scT_get SC__law_are_others_right (i := 3) rfl)) (qe_own (ql_lst (qa_cons (qe_var (i := 2) rfl (.inr (.inl (scT_get SC__law_are_others_right (i := 2) rfl)))) (qa_cons (qe_slT (qe_var (i := 2) rfl (.inr (.inl (scT_get SC__law_are_others_right (i := 2) rfl)))) (qo_some qe_int) qo_none) (qa_cons (qe_slT (qe_var (i := 2) rfl (.inr (.inl (scT_get SC__law_are_others_right (i := 2) rfl)))) qo_none (qo_some (qe_neg qe_int))) (qa_cons (qe_revT (qe_var (i := 2) rfl (.inr (.inl (scT_get SC__law_are_others_right (i := 2) rfl))))) (qa_cons (qe_fz (ql_list B (scT_get SC__law_are_others_right (i := 12) rfl) (qe_var (i := 2) rfl (.inr (.inl (scT_get SC__law_are_others_right (i := 2) rfl)))))) (qa_cons (qe_tup qa_nil) qa_nil)))))))) rfl (.inl rfl))
 (qss_cons (qs_for (own := [4]) PassesOwn.never rfl (qi_rg1 B (scT_get SC__law_are_others_right (i := 13) rfl) qe_int) (qg_name S.nd (i := 4) rfl (.inl (scT_get SC__law_are_others_right (i := 4) rfl)) (by decide) (.inl rfl)) (qss_cons (qs_setLc (own := [("at", 12)]) (l := [("at", .local), ("told", .cell)]) rfl S.nd (i := 5) rfl (scT_get SC__law_are_others_right (i := 5) rfl) rfl rfl (by kernel_rfl) (by kernel_rfl) (by kernel_rfl) (qi_rg1 B (scT_get SC__law_are_others_right (i := 13) rfl) (qe_len B (scT_get SC__law_are_others_right (i := 14) rfl) (qe_var (i := 1) rfl (.inl (scT_get SC__law_are_others_right (i := 1) rfl))))) (fun g s H C cl fp => (qg_name S.nd (i := 12) rfl (.inl (scT_get g (i := 0) rfl)) (by decide) (.inr (scT_get g (i := 0) rfl)))) (fun g s H C cl fp => (qts_one (qt_cmp (c_notin hr.u) (qe_var (i := 12) rfl (.inl (scT_get g (i := 0) rfl))) (qe_var (i := 2) rfl (.inr (.inl (scT_get g (i := 1) rfl)))) rfl))) (fun g s H C cl fp => (qe_var (i := 12) rfl (.inl (scT_get g (i := 0) rfl)))))
 (qss_frz 5 (qss_cons (qs_if (QW.t (qw_and (qt_cmp (c_ne hr.u) (qe_var (i := 5) rfl (.inl (scT_get SC__law_are_others_right (i := 5) rfl))) (qe_fz (ql_lst qa_nil)) rfl) (qw_and1 (qt_cmp (c_ne hr.u) (qe_var (i := 2) rfl (.inr (.inl (scT_get SC__law_are_others_right (i := 2) rfl)))) (qe_tup qa_nil) rfl)))) (qss_cons (qs_parT rfl (qa_cons (qe_callG G__law_of (hr.mono (by decide)) (scT_get SC__law_are_others_right (i := 15) rfl) D__law_of.hm D__law_of.F.kp D__law_of.hb (qa_cons (qe_var (i := 0) rfl (.inl (scT_get SC__law_are_others_right (i := 0) rfl))) (qa_cons (qe_var (i := 2) rfl (.inr (.inl (scT_get SC__law_are_others_right (i := 2) rfl)))) qa_nil))) (qa_cons (qe_callG G__law_of (hr.mono (by decide)) (scT_get SC__law_are_others_right (i := 15) rfl) D__law_of.hm D__law_of.F.kp D__law_of.hb (qa_cons (qe_var (i := 0) rfl (.inl (scT_get SC__law_are_others_right (i := 0) rfl))) (qa_cons (qe_var (i := 5) rfl (.inl (scT_get SC__law_are_others_right (i := 5) rfl))) qa_nil))) qa_nil)) (qvs_cons S.nd (i := 6) rfl (.inr (scT_get SC__law_are_others_right (i := 6) rfl)) (qvs_cons S.nd (i := 7) rfl (.inl (scT_get SC__law_are_others_right (i := 7) rfl)) qvs_nil (.inl rfl)) (.inl rfl)) (by kernel_rfl))
 (qss_cons (qs_expr (qe_append (qe_var (i := 3) rfl (.inl (scT_get SC__law_are_others_right (i := 3) rfl))) (qe_tuple B (scT_get SC__law_are_others_right (i := 17) rfl) (qe_fz (ql_sorted hr.u B (scT_get SC__law_are_others_right (i := 16) rfl) (qe_fz (ql_addL (qe_fz (ql_compS (own := [("at", 12)]) (l := [("at", .local), ("out", .cell)]) rfl S.nd (by kernel_rfl) (by kernel_rfl) (qi_seq (qe_var (i := 2) rfl (.inr (.inl (scT_get SC__law_are_others_right (i := 2) rfl))))) (fun g s H C cl fp => (qg_name S.nd (i := 12) rfl (.inl (scT_get g (i := 0) rfl)) (by decide) (.inr (scT_get g (i := 0) rfl)))) (fun g s H C cl fp => (qts_one (qt_cmp (c_ne hr.u) (qe_var (i := 12) rfl (.inl (scT_get g (i := 0) rfl))) (qe_var (i := 6) rfl (.inr (.inl (scT_get g (i := 1) rfl)))) rfl))) (fun g s H C cl fp => (qe_var (i := 12) rfl (.inl (scT_get g (i := 0) rfl)))))) (qe_fz (ql_lst (qa_cons (qe_var (i := 7) rfl (.inl (scT_get SC__law_are_others_right (i := 7) rfl))) qa_nil))))))))))
 qss_nil)) qss_nil)
 qss_nil))))
 (qss_frz 3 (qss_cons (qs_for (own := [8]) PassesOwn.never rfl (qi_seq (qe_var (i := 3) rfl (.inl (scT_get SC__law_are_others_right (i := 3) rfl)))) (qg_name S.nd (i := 8) rfl (.inl (scT_get SC__law_are_others_right (i := 8) rfl)) (by decide) (.inl rfl)) (qss_cons (qs_set S.nd (i := 9) rfl (.inl (scT_get SC__law_are_others_right (i := 9) rfl)) (qe_and (qe_isiI B (by decide) (scT_get SC__law_are_others_right (i := 18) rfl) (scT_get SC__law_are_others_right (i := 17) rfl) B.tuple (by decide +kernel) (qe_var (i := 8) rfl (.inl (scT_get SC__law_are_others_right (i := 8) rfl))) (by decide) (by decide)) (qe_one (qe_cmp (c_eq hr.u) (qe_fz (ql_list B (scT_get SC__law_are_others_right (i := 12) rfl) (qe_var (i := 8) rfl (.inl (scT_get SC__law_are_others_right (i := 8) rfl))))) (qe_fz (ql_sset rfl B (scT_get SC__law_are_others_right (i := 16) rfl) (scT_get SC__law_are_others_right (i := 19) rfl) (qe_var (i := 8) rfl (.inl (scT_get SC__law_are_others_right (i := 8) rfl))))) rfl))) rfl (.inl rfl))
 (qss_cons (qs_set S.nd (i := 10) rfl (.inl (scT_get SC__law_are_others_right (i := 10) rfl)) (qe_and (qe_var (i := 9) rfl (.inl (scT_get SC__law_are_others_right (i := 9) rfl))) (qe_one (qe_callG G__law_are_in_time (hr.mono (by decide)) (scT_get SC__law_are_others_right (i := 20) rfl) D__law_are_in_time.hm D__law_are_in_time.F.kp D__law_are_in_time.hb (qa_cons (qe_var (i := 1) rfl (.inl (scT_get SC__law_are_others_right (i := 1) rfl))) (qa_cons (qe_var (i := 8) rfl (.inl (scT_get SC__law_are_others_right (i := 8) rfl))) qa_nil))))) rfl (.inl rfl))
 (qss_cons (qs_set S.nd (i := 11) rfl (.inl (scT_get SC__law_are_others_right (i := 11) rfl)) (qe_and (qe_var (i := 10) rfl (.inl (scT_get SC__law_are_others_right (i := 10) rfl))) (qe_one (qe_cmp (c_eq hr.u) (qe_len B (scT_get SC__law_are_others_right (i := 14) rfl) (qe_var (i := 8) rfl (.inl (scT_get SC__law_are_others_right (i := 8) rfl)))) (qe_len B (scT_get SC__law_are_others_right (i := 14) rfl) (qe_var (i := 2) rfl (.inr (.inl (scT_get SC__law_are_others_right (i := 2) rfl))))) rfl))) rfl (.inl rfl))
 (qss_cons (qs_if (qt_cmp (c_ne hr.u) (qe_repr hr B (scT_get SC__law_are_others_right (i := 23) rfl) (qe_fz (ql_lst (qa_cons (qe_callG G_are_in_time (hr.mono (by decide)) (scT_get SC__law_are_others_right (i := 21) rfl) D_are_in_time.hm D_are_in_time.F.kp D_are_in_time.hb (qa_cons (qe_var (i := 1) rfl (.inl (scT_get SC__law_are_others_right (i := 1) rfl))) (qa_cons (qe_var (i := 8) rfl (.inl (scT_get SC__law_are_others_right (i := 8) rfl))) qa_nil))) (qa_cons (qe_callG G_is_most_in_time (hr.mono (by decide)) (scT_get SC__law_are_others_right (i := 22) rfl) D_is_most_in_time.hm D_is_most_in_time.F.kp D_is_most_in_time.hb (qa_cons (qe_var (i := 1) rfl (.inl (scT_get SC__law_are_others_right (i := 1) rfl))) (qa_cons (qe_var (i := 8) rfl (.inl (scT_get SC__law_are_others_right (i := 8) rfl))) qa_nil))) qa_nil))))) (qe_repr hr B (scT_get SC__law_are_others_right (i := 23) rfl) (qe_fz (ql_lst (qa_cons (qe_var (i := 10) rfl (.inl (scT_get SC__law_are_others_right (i := 10) rfl))) (qa_cons (qe_var (i := 11) rfl (.inl (scT_get SC__law_are_others_right (i := 11) rfl))) qa_nil))))) rfl) (qss_cons (qs_ret qe_bl)
 qss_nil) qss_nil)
 qss_nil)))))
 (qss_cons (qs_ret qe_bl)
 qss_nil))))))
/-! _law_right -/
def sem__law_right : Fn := fnS 12 1 (sCons (sAsg (eCall sem__law_drawn (aCons (eVar 0) aNil)) (bName 1))
 (sCons (sAsg (eCall sem_most_in_time (aCons (eVar 1) aNil)) (bName 2))
 (sCons (sIf (tOrQ (tCmp2 pNe (eOp1 gRepr (eVar 2)) (eOp1 gRepr (eCall sem__law_most (aCons (eVar 1) aNil)))) (tNotQ (tV (eCall sem__law_are_in_time (aCons (eVar 1) (aCons (eVar 2) aNil)))))) (sCons (sRet (eC (.bool false)))
 sNil) sNil)
 (sCons (sIf (tOrQ (tNotQ (tV (eCall sem__law_is_more_right (aCons (eVar 0) (aCons (eVar 1) (aCons (eVar 2) aNil)))))) (tNotQ (tV (eCall sem__law_are_others_right (aCons (eVar 0) (aCons (eVar 1) (aCons (eVar 2) aNil))))))) (sCons (sRet (eC (.bool false)))
 sNil) sNil)
 (sCons (sParT [3, 4] (aCons (eOp1 gInt (eCall sem__law_take (aCons (eVar 0) (aCons (eOp1 gLen (eVar 1)) aNil)))) (aCons (eOp1 gInt (eCall sem__law_take (aCons (eVar 0) (aCons (eC (.int 2000)) aNil)))) aNil)))
 (sCons (sAsg (eCall sem_most_in_time (aCons (eOp2 gAdd (eSlT (eVar 1) oNone (oSome (eVar 3))) (eSlT (eVar 1) (oSome (eOp2 gAdd (eVar 3) (eC (.int 1)))) oNone)) aNil)) (bName 5))
 (sCons (sIf (tOrQ (tNotQ (tChn pLe pLe (eOp2 gSub (eOp1 gLen (eVar 2)) (eC (.int 1))) (eOp1 gLen (eVar 5)) (eOp1 gLen (eVar 2)))) (tAndQ (tCmp2 pNotIn (eVar 3) (eVar 2)) (tCmp2 pNe (eOp1 gLen (eVar 5)) (eOp1 gLen (eVar 2))))) (sCons (sRet (eC (.bool false)))
 sNil) sNil)
 (sCons (sAsg (eOp1 gTuple (eFz (lComp [10, 11] (iSeq (eVar 1)) (bTup 2 (bsCons (bName 10) (bsCons (bName 11) bsNil))) tYesQ (eTup (aCons (eVar 10) (aCons (eOp2 gMin2 (eOp2 gPowW (eC (.int 10)) (eC (.int 6))) (eOp2 gAdd (eVar 11) (eVar 4))) aNil)))))) (bName 6))
 (sCons (sAsg (eOp1 gTuple (eFz (lComp [10, 11] (iSeq (eVar 1)) (bTup 2 (bsCons (bName 10) (bsCons (bName 11) bsNil))) tYesQ (eTup (aCons (eVar 10) (aCons (eOp2 gPowW (eC (.int 10)) (eC (.int 6))) aNil)))))) (bName 7))
 (sCons (sIf (tOrQ (tCmp2 pLt (eOp1 gLen (eCall sem_most_in_time (aCons (eVar 6) aNil))) (eOp1 gLen (eVar 2))) (tCmp2 pNe (eOp1 gRepr (eCall sem_most_in_time (aCons (eVar 7) aNil))) (eOp1 gRepr (eTupRg (rg1 (eOp1 gLen (eVar 1))))))) (sCons (sRet (eC (.bool false)))
 sNil) sNil)
 (sCons (sAsg (eIf (tCmp2 pLt (eOp1 gLen (eVar 1)) (eC (.int 24))) (eOp2 gAdd (eVar 1) (eTup (aCons (eOp2 gIx (eVar 1) (eVar 3)) aNil))) (eVar 1)) (bName 8))
 (sCons (sIf (tNotQ (tChn pLe pLe (eOp1 gLen (eVar 2)) (eOp1 gLen (eCall sem_most_in_time (aCons (eVar 8) aNil))) (eOp2 gAdd (eOp1 gLen (eVar 2)) (eC (.int 1))))) (sCons (sRet (eC (.bool false)))
 sNil) sNil)
 (sCons (sAsg (eCall sem__law_as_tasks (aCons (eVar 1) (aCons (eTupRg (rg1 (eOp1 gLen (eVar 1)))) aNil))) (bName 9))
 (sCons (sRet (eOp2 (gB pEq) (eOp2 (gB pLe) (eCall sem_too_long (aCons (eVar 9) aNil)) (eC (.int 0))) (eOp2 (gB pEq) (eOp1 gLen (eVar 2)) (eOp1 gLen (eVar 1)))))
 sNil))))))))))))))
theorem SC__law_right : scT (C8.fnScope (stAt 41)) [("pot", .local), ("jobs", .local), ("told", .local), ("out", .local), ("more", .cell), ("less", .local), ("later", .local), ("great", .local), ("both", .local), ("tasks", .local), ("_law_drawn", .globalImplicit), ("most_in_time", .globalImplicit), ("repr", .globalImplicit), ("_law_most", .globalImplicit), ("_law_are_in_time", .globalImplicit), ("_law_is_more_right", .globalImplicit), ("_law_are_others_right", .globalImplicit), ("_law_take", .globalImplicit), ("int", .globalImplicit), ("len", .globalImplicit), ("tuple", .globalImplicit), ("range", .globalImplicit), ("_law_as_tasks", .globalImplicit), ("too_long", .globalImplicit)] = true := by kernel_rfl
theorem FS__law_right : FnScope ["pot", "jobs", "told", "out", "more", "less", "later", "great", "both", "tasks", "length", "due"] ["pot"] (C8.fnScope (stAt 41)) := C8.fnScope_by (by kernel_rfl)
theorem G__law_right {w : World} {K : PySem.W.Frag} {mg : Str → Option Value} {base : Heap} {T : Tb} (B : Bls mg)
 {f : Addr} {fd : FuncData}
 (D : DefF K mg (stAt 41) "_law_right" ["pot"] f fd)
 {f_most_in_time : Addr} {fd_most_in_time : FuncData} (D_most_in_time : DefF K mg (stAt 15) "most_in_time" ["jobs"] f_most_in_time fd_most_in_time) (G_most_in_time : FnG Hd.PP w K mg base T 6 f_most_in_time fd_most_in_time ["jobs"] sem_most_in_time)
 {f_too_long : Addr} {fd_too_long : FuncData} (D_too_long : DefF K mg (stAt 26) "too_long" ["tasks"] f_too_long fd_too_long) (G_too_long : FnG Hd.PP w K mg base T 6 f_too_long fd_too_long ["tasks"] sem_too_long)
 {f__law_take : Addr} {fd__law_take : FuncData} (D__law_take : DefF K mg (stAt 32) "_law_take" ["pot", "upto"] f__law_take fd__law_take) (G__law_take : FnG Hd.PP w K mg base T 2 f__law_take fd__law_take ["pot", "upto"] sem__law_take)
 {f__law_drawn : Addr} {fd__law_drawn : FuncData} (D__law_drawn : DefF K mg (stAt 35) "_law_drawn" ["pot"] f__law_drawn fd__law_drawn) (G__law_drawn : FnG Hd.PP w K mg base T 4 f__law_drawn fd__law_drawn ["pot"] sem__law_drawn)
 {f__law_most : Addr} {fd__law_most : FuncData} (D__law_most : DefF K mg (stAt 36) "_law_most" ["jobs"] f__law_most fd__law_most) (G__law_most : FnG Hd.PP w K mg base T 2 f__law_most fd__law_most ["jobs"] sem__law_most)
 {f__law_are_in_time : Addr} {fd__law_are_in_time : FuncData} (D__law_are_in_time : DefF K mg (stAt 37) "_law_are_in_time" ["jobs", "some"] f__law_are_in_time fd__law_are_in_time) (G__law_are_in_time : FnG Hd.PP w K mg base T 2 f__law_are_in_time fd__law_are_in_time ["jobs", "some"] sem__law_are_in_time)
 {f__law_as_tasks : Addr} {fd__law_as_tasks : FuncData} (D__law_as_tasks : DefF K mg (stAt 38) "_law_as_tasks" ["jobs", "some"] f__law_as_tasks fd__law_as_tasks) (G__law_as_tasks : FnG Hd.PP w K mg base T 2 f__law_as_tasks fd__law_as_tasks ["jobs", "some"] sem__law_as_tasks)
 {f__law_is_more_right : Addr} {fd__law_is_more_right : FuncData} (D__law_is_more_right : DefF K mg (stAt 39) "_law_is_more_right" ["pot", "jobs", "told"] f__law_is_more_right fd__law_is_more_right) (G__law_is_more_right : FnG Hd.PP w K mg base T 8 f__law_is_more_right fd__law_is_more_right ["pot", "jobs", "told"] sem__law_is_more_right)
 {f__law_are_others_right : Addr} {fd__law_are_others_right : FuncData} (D__law_are_others_right : DefF K mg (stAt 40) "_law_are_others_right" ["pot", "jobs", "told"] f__law_are_others_right fd__law_are_others_right) (G__law_are_others_right : FnG Hd.PP w K mg base T 8 f__law_are_others_right fd__law_are_others_right ["pot", "jobs", "told"] sem__law_are_others_right) :
 FnG Hd.PP w K mg base T 9 f fd ["pot"] sem__law_right :=
 have S := FS__law_right
 fnG_of D.F S fun cdv A outer s H hcd hr =>
 (show QSs _ T (C8.fnBody (stAt 41)) _ from
 (qss_cons (qs_set S.nd (i := 1) rfl (.inl (scT_get SC__law_right (i := 1) rfl)) (qe_callG G__law_drawn (hr.mono (by decide)) (scT_get SC__law_right (i := 10) rfl) D__law_drawn.hm D__law_drawn.F.kp D__law_drawn.hb (qa_cons (qe_var (i := 0) rfl (.inl (scT_get SC__law_right (i := 0) rfl))) qa_nil)) rfl (.inl rfl))
 (qss_cons (qs_set S.nd (i := 2) rfl (.inl (scT_get SC__law_right (i := 2) rfl)) (qe_callG G_most_in_time (hr.mono (by decide)) (scT_get SC__law_right (i := 11) rfl) D_most_in_time.hm D_most_in_time.F.kp D_most_in_time.hb (qa_cons (qe_var (i := 1) rfl (.inl (scT_get SC__law_right (i := 1) rfl))) qa_nil)) rfl (.inl rfl))
 (qss_cons (qs_if (QW.t (qw_or (qt_cmp (c_ne hr.u) (qe_repr hr B (scT_get SC__law_right (i := 12) rfl) (qe_var (i := 2) rfl (.inl (scT_get SC__law_right (i := 2) rfl)))) (qe_repr hr B (scT_get SC__law_right (i := 12) rfl) (qe_callG G__law_most (hr.mono (by decide)) (scT_get SC__law_right (i := 13) rfl) D__law_most.hm D__law_most.F.kp D__law_most.hb (qa_cons (qe_var (i := 1) rfl (.inl (scT_get SC__law_right (i := 1) rfl))) qa_nil))) rfl) (qw_or1 (qt_not (qt_val (qe_callG G__law_are_in_time (hr.mono (by decide)) (scT_get SC__law_right (i := 14) rfl) D__law_are_in_time.hm D__law_are_in_time.F.kp D__law_are_in_time.hb (qa_cons (qe_var (i := 1) rfl (.inl (scT_get SC__law_right (i := 1) rfl))) (qa_cons (qe_var (i := 2) rfl (.inl (scT_get SC__law_right (i := 2) rfl))) qa_nil)))))))) (qss_cons (qs_ret qe_bl)
 qss_nil) qss_nil)
 (qss_cons (qs_if (QW.t (qw_or (qt_not (qt_val (qe_callG G__law_is_more_right (hr.mono (by decide)) (scT_get SC__law_right (i := 15) rfl) D__law_is_more_right.hm D__law_is_more_right.F.kp D__law_is_more_right.hb (qa_cons (qe_var (i := 0) rfl (.inl (scT_get SC__law_right (i := 0) rfl))) (qa_cons (qe_var (i := 1) rfl (.inl (scT_get SC__law_right (i := 1) rfl))) (qa_cons (qe_var (i := 2) rfl (.inl (scT_get SC__law_right (i := 2) rfl))) qa_nil)))))) (qw_or1 (qt_not (qt_val (qe_callG G__law_are_others_right (hr.mono (by decide)) (scT_get SC__law_right (i := 16) rfl) D__law_are_others_right.hm D__law_are_others_right.F.kp D__law_are_others_right.hb (qa_cons (qe_var (i := 0) rfl (.inl (scT_get SC__law_right (i := 0) rfl))) (qa_cons (qe_var (i := 1) rfl (.inl (scT_get SC__law_right (i := 1) rfl))) (qa_cons (qe_var (i := 2) rfl (.inl (scT_get SC__law_right (i := 2) rfl))) qa_nil))))))))) (qss_cons (qs_ret qe_bl)
 qss_nil) qss_nil)
 (qss_cons (qs_parT rfl (qa_cons (qe_intC B (scT_get SC__law_right (i := 18) rfl) (qe_callG G__law_take (hr.mono (by decide)) (scT_get SC__law_right (i := 17) rfl) D__law_take.hm D__law_take.F.kp D__law_take.hb (qa_cons (qe_var (i := 0) rfl (.inl (scT_get SC__law_right (i := 0) rfl))) (qa_cons (qe_len B (scT_get SC__law_right (i := 19) rfl) (qe_var (i := 1) rfl (.inl (scT_get SC__law_right (i := 1) rfl)))) qa_nil)))) (qa_cons (qe_intC B (scT_get SC__law_right (i := 18) rfl) (qe_callG G__law_take (hr.mono (by decide)) (scT_get SC__law_right (i := 17) rfl) D__law_take.hm D__law_take.F.kp D__law_take.hb (qa_cons (qe_var (i := 0) rfl (.inl (scT_get SC__law_right (i := 0) rfl))) (qa_cons qe_int qa_nil)))) qa_nil)) (qvs_cons S.nd (i := 3) rfl (.inl (scT_get SC__law_right (i := 3) rfl)) (qvs_cons S.nd (i := 4) rfl (.inr (scT_get SC__law_right (i := 4) rfl)) qvs_nil (.inl rfl)) (.inl rfl)) (by kernel_rfl))
 (qss_cons (qs_set S.nd (i := 5) rfl (.inl (scT_get SC__law_right (i := 5) rfl)) (qe_callG G_most_in_time (hr.mono (by decide)) (scT_get SC__law_right (i := 11) rfl) D_most_in_time.hm D_most_in_time.F.kp D_most_in_time.hb (qa_cons (qe_add (qe_slT (qe_var (i := 1) rfl (.inl (scT_get SC__law_right (i := 1) rfl))) qo_none (qo_some (qe_var (i := 3) rfl (.inl (scT_get SC__law_right (i := 3) rfl))))) (qe_slT (qe_var (i := 1) rfl (.inl (scT_get SC__law_right (i := 1) rfl))) (qo_some (qe_add (qe_var (i := 3) rfl (.inl (scT_get SC__law_right (i := 3) rfl))) qe_int)) qo_none)) qa_nil)) rfl (.inl rfl))
 (qss_cons (qs_if (QW.t (qw_or (qt_not (qt_chain c_le c_le (qe_sub (qe_len B (scT_get SC__law_right (i := 19) rfl) (qe_var (i := 2) rfl (.inl (scT_get SC__law_right (i := 2) rfl)))) qe_int) (qe_len B (scT_get SC__law_right (i := 19) rfl) (qe_var (i := 5) rfl (.inl (scT_get SC__law_right (i := 5) rfl)))) (qe_len B (scT_get SC__law_right (i := 19) rfl) (qe_var (i := 2) rfl (.inl (scT_get SC__law_right (i := 2) rfl)))))) (qw_or1 (QW.t (qw_and (qt_cmp (c_notin hr.u) (qe_var (i := 3) rfl (.inl (scT_get SC__law_right (i := 3) rfl))) (qe_var (i := 2) rfl (.inl (scT_get SC__law_right (i := 2) rfl))) rfl) (qw_and1 (qt_cmp (c_ne hr.u) (qe_len B (scT_get SC__law_right (i := 19) rfl) (qe_var (i := 5) rfl (.inl (scT_get SC__law_right (i := 5) rfl)))) (qe_len B (scT_get SC__law_right (i := 19) rfl) (qe_var (i := 2) rfl (.inl (scT_get SC__law_right (i := 2) rfl)))) rfl))))))) (qss_cons (qs_ret qe_bl)
 qss_nil) qss_nil)
 (qss_cons (qs_set S.nd (i := 6) rfl (.inl (scT_get SC__law_right (i := 6) rfl)) (qe_tuple B (scT_get SC__law_right (i := 20) rfl) (qe_fz (ql_compS (own := [("length", 10), ("due", 11)]) (l := [("due", .local), ("length", .local), ("more", .cell), ("min", .globalImplicit)]) rfl S.nd (by kernel_rfl) (by kernel_rfl) (qi_seq (qe_var (i := 1) rfl (.inl (scT_get SC__law_right (i := 1) rfl)))) (fun g s H C cl fp => (qg_tup rfl (qgs_cons (qg_name S.nd (i := 10) rfl (.inl (scT_get g (i := 1) rfl)) (by decide) (.inr (scT_get g (i := 1) rfl))) (qgs_cons (qg_name S.nd (i := 11) rfl (.inl (scT_get g (i := 0) rfl)) (by decide) (.inr (scT_get g (i := 0) rfl))) qgs_nil)))) (fun g s H C cl fp => qts_nil) (fun g s H C cl fp => (qe_tup (qa_cons (qe_var (i := 10) rfl (.inl (scT_get g (i := 1) rfl))) (qa_cons (qe_min2 rfl B (scT_get g (i := 3) rfl) (qe_powW qe_int qe_int) (qe_add (qe_var (i := 11) rfl (.inl (scT_get g (i := 0) rfl))) (qe_var (i := 4) rfl (.inr (.inl (scT_get g (i := 2) rfl)))))) qa_nil))))))) rfl (.inl rfl))
 (qss_cons (qs_set S.nd (i := 7) rfl (.inl (scT_get SC__law_right (i := 7) rfl)) (qe_tuple B (scT_get SC__law_right (i := 20) rfl) (qe_fz (ql_compS (own := [("length", 10), ("due", 11)]) (l := [("due", .local), ("length", .local)]) rfl S.nd (by kernel_rfl) (by kernel_rfl) (qi_seq (qe_var (i := 1) rfl (.inl (scT_get SC__law_right (i := 1) rfl)))) (fun g s H C cl fp => (qg_tup rfl (qgs_cons (qg_name S.nd (i := 10) rfl (.inl (scT_get g (i := 1) rfl)) (by decide) (.inr (scT_get g (i := 1) rfl))) (qgs_cons (qg_name S.nd (i := 11) rfl (.inl (scT_get g (i := 0) rfl)) (by decide) (.inr (scT_get g (i := 0) rfl))) qgs_nil)))) (fun g s H C cl fp => qts_nil) (fun g s H C cl fp => (qe_tup (qa_cons (qe_var (i := 10) rfl (.inl (scT_get g (i := 1) rfl))) (qa_cons (qe_powW qe_int qe_int) qa_nil))))))) rfl (.inl rfl))
 (qss_cons (qs_if (QW.t (qw_or (qt_cmp c_lt (qe_len B (scT_get SC__law_right (i := 19) rfl) (qe_callG G_most_in_time (hr.mono (by decide)) (scT_get SC__law_right (i := 11) rfl) D_most_in_time.hm D_most_in_time.F.kp D_most_in_time.hb (qa_cons (qe_var (i := 6) rfl (.inl (scT_get SC__law_right (i := 6) rfl))) qa_nil))) (qe_len B (scT_get SC__law_right (i := 19) rfl) (qe_var (i := 2) rfl (.inl (scT_get SC__law_right (i := 2) rfl)))) rfl) (qw_or1 (qt_cmp (c_ne hr.u) (qe_repr hr B (scT_get SC__law_right (i := 12) rfl) (qe_callG G_most_in_time (hr.mono (by decide)) (scT_get SC__law_right (i := 11) rfl) D_most_in_time.hm D_most_in_time.F.kp D_most_in_time.hb (qa_cons (qe_var (i := 7) rfl (.inl (scT_get SC__law_right (i := 7) rfl))) qa_nil))) (qe_repr hr B (scT_get SC__law_right (i := 12) rfl) (qe_tupRg rfl B (scT_get SC__law_right (i := 20) rfl) (qrg_1 B (scT_get SC__law_right (i := 21) rfl) (qe_len B (scT_get SC__law_right (i := 19) rfl) (qe_var (i := 1) rfl (.inl (scT_get SC__law_right (i := 1) rfl))))))) rfl)))) (qss_cons (qs_ret qe_bl)
 qss_nil) qss_nil)
 (qss_cons (qs_set S.nd (i := 8) rfl (.inl (scT_get SC__law_right (i := 8) rfl)) (qe_if (qt_cmp c_lt (qe_len B (scT_get SC__law_right (i := 19) rfl) (qe_var (i := 1) rfl (.inl (scT_get SC__law_right (i := 1) rfl)))) qe_int rfl) (qe_add (qe_var (i := 1) rfl (.inl (scT_get SC__law_right (i := 1) rfl))) (qe_tup (qa_cons (qe_ix (qe_var (i := 1) rfl (.inl (scT_get SC__law_right (i := 1) rfl))) (qe_var (i := 3) rfl (.inl (scT_get SC__law_right (i := 3) rfl))) (fun _ _ => rfl)) qa_nil))) (qe_var (i := 1) rfl (.inl (scT_get SC__law_right (i := 1) rfl)))) rfl (.inl rfl))
 (qss_cons (qs_if (qt_not (qt_chain c_le c_le (qe_len B (scT_get SC__law_right (i := 19) rfl) (qe_var (i := 2) rfl (.inl (scT_get SC__law_right (i := 2) rfl)))) (qe_len B (scT_get SC__law_right (i := 19) rfl) (qe_callG G_most_in_time (hr.mono (by decide)) (scT_get SC__law_right (i := 11) rfl) D_most_in_time.hm D_most_in_time.F.kp D_most_in_time.hb (qa_cons (qe_var (i := 8) rfl (.inl (scT_get SC__law_right (i := 8) rfl))) qa_nil))) (qe_add (qe_len B (scT_get SC__law_right (i := 19) rfl) (qe_var (i := 2) rfl (.inl (scT_get SC__law_right (i := 2) rfl)))) qe_int))) (qss_cons (qs_ret qe_bl)
 qss_nil) qss_nil)
 (qss_cons (qs_set S.nd (i := 9) rfl (.inl (scT_get SC__law_right (i := 9) rfl)) (qe_callG G__law_as_tasks (hr.mono (by decide)) (scT_get SC__law_right (i := 22) rfl) D__law_as_tasks.hm D__law_as_tasks.F.kp D__law_as_tasks.hb (qa_cons (qe_var (i := 1) rfl (.inl (scT_get SC__law_right (i := 1) rfl))) (qa_cons (qe_tupRg rfl B (scT_get SC__law_right (i := 20) rfl) (qrg_1 B (scT_get SC__law_right (i := 21) rfl) (qe_len B (scT_get SC__law_right (i := 19) rfl) (qe_var (i := 1) rfl (.inl (scT_get SC__law_right (i := 1) rfl)))))) qa_nil))) rfl (.inl rfl))
 (qss_cons (qs_ret (qe_cmp (c_eq hr.u) (qe_cmp c_le (qe_callG G_too_long (hr.mono (by decide)) (scT_get SC__law_right (i := 23) rfl) D_too_long.hm D_too_long.F.kp D_too_long.hb (qa_cons (qe_var (i := 9) rfl (.inl (scT_get SC__law_right (i := 9) rfl))) qa_nil)) qe_int rfl) (qe_cmp (c_eq hr.u) (qe_len B (scT_get SC__law_right (i := 19) rfl) (qe_var (i := 2) rfl (.inl (scT_get SC__law_right (i := 2) rfl)))) (qe_len B (scT_get SC__law_right (i := 19) rfl) (qe_var (i := 1) rfl (.inl (scT_get SC__law_right (i := 1) rfl)))) rfl) rfl))
 qss_nil)))))))))))))))
/-! law -/
def sem_law : Fn := fnS 2 1 (sCons (sRet (eOp1 gAll (eFz (lComp [1] (iSeq (eCall sem__law_cells (aCons (eVar 0) (aCons (eC (.int 3)) aNil)))) (bName 1) tYesQ (eCall sem__law_right (aCons (eCall sem__law_pot (aCons (eVar 0) (aCons (eVar 1) aNil))) aNil))))))
 sNil)
theorem SC_law : scT (C8.fnScope (stAt 42)) [("script", .cell), ("_law_cells", .globalImplicit), ("all", .globalImplicit)] = true := by kernel_rfl
theorem FS_law : FnScope ["script", "place"] ["script"] (C8.fnScope (stAt 42)) := C8.fnScope_by (by kernel_rfl)
theorem G_law {w : World} {K : PySem.W.Frag} {mg : Str → Option Value} {base : Heap} {T : Tb} (B : Bls mg)
 {f : Addr} {fd : FuncData}
 (D : DefF K mg (stAt 42) "law" ["script"] f fd)
 {f__law_pot : Addr} {fd__law_pot : FuncData} (D__law_pot : DefF K mg (stAt 31) "_law_pot" ["script", "place"] f__law_pot fd__law_pot) (G__law_pot : FnG Hd.PP w K mg base T 2 f__law_pot fd__law_pot ["script", "place"] sem__law_pot)
 {f__law_cells : Addr} {fd__law_cells : FuncData} (D__law_cells : DefF K mg (stAt 34) "_law_cells" ["script", "most"] f__law_cells fd__law_cells) (G__law_cells : FnG Hd.PP w K mg base T 2 f__law_cells fd__law_cells ["script", "most"] sem__law_cells)
 {f__law_right : Addr} {fd__law_right : FuncData} (D__law_right : DefF K mg (stAt 41) "_law_right" ["pot"] f__law_right fd__law_right) (G__law_right : FnG Hd.PP w K mg base T 9 f__law_right fd__law_right ["pot"] sem__law_right) :
 FnG Hd.PP w K mg base T 10 f fd ["script"] sem_law :=
 have S := FS_law
 fnG_of D.F S fun cdv A outer s H hcd hr =>
 (show QSs _ T (C8.fnBody (stAt 42)) _ from
 (qss_cons (qs_ret (qe_all rfl B (scT_get SC_law (i := 2) rfl) (qe_fz (ql_compS (own := [("place", 1)]) (l := [("place", .local), ("script", .cell), ("_law_pot", .globalImplicit), ("_law_right", .globalImplicit)]) rfl S.nd (by kernel_rfl) (by kernel_rfl) (qi_seq (qe_callG G__law_cells (hr.mono (by decide)) (scT_get SC_law (i := 1) rfl) D__law_cells.hm D__law_cells.F.kp D__law_cells.hb (qa_cons (qe_var (i := 0) rfl (.inr (.inl (scT_get SC_law (i := 0) rfl)))) (qa_cons qe_int qa_nil)))) (fun g s H C cl fp => (qg_name S.nd (i := 1) rfl (.inl (scT_get g (i := 0) rfl)) (by decide) (.inr (scT_get g (i := 0) rfl)))) (fun g s H C cl fp => qts_nil) (fun g s H C cl fp => (qe_callG G__law_right (hr.mono (by decide)) (scT_get g (i := 3) rfl) D__law_right.hm D__law_right.F.kp D__law_right.hb (qa_cons (qe_callG G__law_pot (hr.mono (by decide)) (scT_get g (i := 2) rfl) D__law_pot.hm D__law_pot.F.kp D__law_pot.hb (qa_cons (qe_var (i := 0) rfl (.inr (.inl (scT_get g (i := 1) rfl)))) (qa_cons (qe_var (i := 1) rfl (.inl (scT_get g (i := 0) rfl))) qa_nil))) qa_nil)))))))
 qss_nil))
end
end K42

end
section
set_option Elab.async false
set_option linter.all false
set_option autoImplicit false
set_option maxRecDepth 100000
set_option maxHeartbeats 400000
/-! V0: how the combinators evaluate. -/
namespace QL
open PySem PySem.Spec PyProof.Rows L2
section
variable (ρ : Rho) (st : Sto)
@[simp] theorem v_obind {α β : Type} (a : α) (f : α → Option β) : (some a >>= f) = f a := rfl
@[simp] theorem v_nbind {α β : Type} (f : α → Option β) : ((none : Option α) >>= f) = none := rfl
@[simp] theorem v_rd (d : PyData) : rd (.d d) st = some d := rfl
@[simp] theorem v_datV (d : PyData) : datV (.d d) = some d := rfl
@[simp] theorem v_dats0 : dats [] = some [] := rfl
@[simp] theorem v_dats1 (d : PyData) (xs : List Vl) : dats (.d d :: xs) = (dats xs >>= fun ds => some (d :: ds)) := rfl
@[simp] theorem v_eC (d : PyData) : eC d ρ st = some (.d d, st) := rfl
@[simp] theorem v_op1 (g : G1) (f : Ev) : eOp1 g f ρ st = (f ρ st >>= fun a => rd a.1 a.2 >>= fun d => g d >>= fun z => some (.d z, a.2)) := rfl
@[simp] theorem v_op2 (g : G2) (f1 f2 : Ev) : eOp2 g f1 f2 ρ st = (f1 ρ st >>= fun a => f2 ρ a.2 >>= fun b => rd a.1 b.2 >>= fun x => rd b.1 b.2 >>= fun y => g x y >>= fun z => some (.d z, b.2)) := rfl
@[simp] theorem v_eT (f : Tv) : eT f ρ st = (f ρ st >>= fun a => some (.d (.bool a.1), a.2)) := rfl
@[simp] theorem v_tV (f : Ev) : tV f ρ st = (f ρ st >>= fun a => match a.1 with | .d (.bool z) => some (z, a.2) | _ => none) := rfl
@[simp] theorem v_cmp2 (p : GB) (f1 f2 : Ev) : tCmp2 p f1 f2 ρ st = (f1 ρ st >>= fun a => f2 ρ a.2 >>= fun b => rd a.1 b.2 >>= fun x => rd b.1 b.2 >>= fun y => p x y >>= fun z => some (z, b.2)) := rfl
@[simp] theorem v_tAnd (f g : Tv) : tAndQ f g ρ st = (f ρ st >>= fun a => if a.1 = true then g ρ a.2 else some (false, a.2)) := rfl
@[simp] theorem v_tOr (f g : Tv) : tOrQ f g ρ st = (f ρ st >>= fun a => if a.1 = true then some (true, a.2) else g ρ a.2) := rfl
@[simp] theorem v_tNot (f : Tv) : tNotQ f ρ st = (f ρ st >>= fun a => some (!a.1, a.2)) := rfl
@[simp] theorem v_eNot (f : Ev) : eNot f ρ st = eT (tNotQ (tV f)) ρ st := rfl
@[simp] theorem v_eIf (t : Tv) (f g : Ev) : eIf t f g ρ st = (t ρ st >>= fun a => if a.1 = true then f ρ a.2 else g ρ a.2) := rfl
@[simp] theorem v_eFz (f : Lv) : eFz f ρ st = (f ρ st >>= fun a => some (.d (.list a.1), a.2)) := rfl
@[simp] theorem v_eOwn (f : Lv) : eOwn f ρ st = (f ρ st >>= fun a => some (.loc a.2.length, a.2 ++ [some (.lst a.1)])) := rfl
@[simp] theorem v_aNil : aNil ρ st = some ([], st) := rfl
@[simp] theorem v_aCons (f : Ev) (g : Evs) : aCons f g ρ st = (f ρ st >>= fun a => g ρ a.2 >>= fun b => some (a.1 :: b.1, b.2)) := rfl
@[simp] theorem v_lDisp (g : Evs) : lDisp g ρ st = (g ρ st >>= fun a => dats a.1 >>= fun ds => if ds.length ≤ 16777216 then some (ds, a.2) else none) := rfl
@[simp] theorem v_eTup (g : Evs) : eTup g ρ st = (lDisp g ρ st >>= fun a => some (.d (.tuple a.1), a.2)) := rfl
@[simp] theorem v_oNone : oNone ρ st = some (none, st) := rfl
@[simp] theorem v_lOp1 (g : GL) (f : Ev) : lOp1 g f ρ st = (f ρ st >>= fun a => rd a.1 a.2 >>= fun d => g d >>= fun z => some (z, a.2)) := rfl
@[simp] theorem v_sNil : sNil ρ st = some (.nx, ρ, st) := rfl
@[simp] theorem v_sCons (f g : Ex) : sCons f g ρ st = (f ρ st >>= fun a => match a.1 with | .nx => g a.2.1 a.2.2 | o => some (o, a.2.1, a.2.2)) := by
  unfold sCons
  cases f ρ st with
  | none => rfl
  | some a => obtain ⟨o, ρ1, s1⟩ := a; cases o <;> rfl
@[simp] theorem v_sExpr (f : Ev) : sExpr f ρ st = (f ρ st >>= fun a => some (.nx, ρ, a.2)) := rfl
@[simp] theorem v_sRet (f : Ev) : sRet f ρ st = (f ρ st >>= fun a => some (.rt a.1, ρ, a.2)) := rfl
@[simp] theorem v_sIf (t : Tv) (f g : Ex) : sIf t f g ρ st = (t ρ st >>= fun a => if a.1 = true then f ρ a.2 else g ρ a.2) := rfl
@[simp] theorem v_sAsg (f : Ev) (bd : Bd) : sAsg f bd ρ st = (f ρ st >>= fun a => bd a.1 ρ a.2 >>= fun b => some (.nx, b.1, b.2)) := rfl
@[simp] theorem v_bName (i : Nat) (x : Vl) : bName i x ρ st = some (ρ.set i (some x), st) := rfl
@[simp] theorem v_sCnt : sCnt ρ st = some (.ct, ρ, st) := rfl
@[simp] theorem v_sBrk : sBrk ρ st = some (.bk, ρ, st) := rfl
@[simp] theorem v_eCall (F : Fn) (g : Evs) : eCall F g ρ st = (g ρ st >>= fun a => F a.1 a.2) := rfl
@[simp] theorem v_sFor (fi : Lv) (bd : Bd) (f : Ex) : sFor fi bd f ρ st = (fi ρ st >>= fun a => loopD bd f a.1 ρ a.2) := rfl
@[simp] theorem v_loop0 (bd : Bd) (f : Ex) : loopD bd f [] ρ st = some (.nx, ρ, st) := rfl
theorem v_loop1 (bd : Bd) (f : Ex) (d : PyData) (ds : List PyData) : loopD bd f (d :: ds) ρ st = (bd (.d d) ρ st >>= fun a => f a.1 a.2 >>= fun b => match b.1 with
    | .nx => loopD bd f ds b.2.1 b.2.2
    | .ct => loopD bd f ds b.2.1 b.2.2
    | .bk => some (.nx, b.2.1, b.2.2)
    | .rt v => some (.rt v, b.2.1, b.2.2)) := rfl
@[simp] theorem v_lComp (own : List Nat) (fi : Lv) (b : Bd) (t : Tv) (f : Ev) : lComp own fi b t f ρ st = (fi ρ st >>= fun a => if a.1.length ≤ 16777216 then compD own b t f ρ a.1 a.2 else none) := rfl
@[simp] theorem v_yes : tYesQ ρ st = some (true, st) := rfl
@[simp] theorem v_fin (n : Nat) (d : PyData) : fin n (.d d) st = some (.d d, st.take n) := rfl
@[simp] theorem v_len_l (xs : List PyData) : gLen (.list xs) = some (.int xs.length) := rfl
@[simp] theorem v_len_t (xs : List PyData) : gLen (.tuple xs) = some (.int xs.length) := rfl
@[simp] theorem v_add (i j : Int) : gAdd (.int i) (.int j) = some (.int (i + j)) := rfl
@[simp] theorem v_addI (i j : Int) : gAddI (.int i) (.int j) = some (.int (i + j)) := rfl
@[simp] theorem v_sub (i j : Int) : gSub (.int i) (.int j) = some (.int (i - j)) := rfl
@[simp] theorem v_neg (i : Int) : gNeg (.int i) = some (.int (-i)) := rfl
@[simp] theorem v_mod (i j : Int) : gMod (.int i) (.int j) = if 0 < j then some (.int (i % j)) else none := rfl
@[simp] theorem v_mul (i j : Int) : gMul (.int i) (.int j) = if mulOk i j = true then some (.int (i * j)) else none := rfl
@[simp] theorem v_gB (p : GB) (x y : PyData) : gB p x y = (p x y).map .bool := rfl
@[simp] theorem v_lt (i j : Int) : pLt (.int i) (.int j) = some (decide (i < j)) := rfl
@[simp] theorem v_le (i j : Int) : pLe (.int i) (.int j) = some (decide (i ≤ j)) := rfl
@[simp] theorem v_gt (i j : Int) : pGt (.int i) (.int j) = some (decide (j < i)) := rfl
@[simp] theorem v_ge (i j : Int) : pGe (.int i) (.int j) = some (decide (j ≤ i)) := rfl
@[simp] theorem v_isi (C : String) (d : PyData) : gIsi C d = some (.bool (isiB C d)) := rfl
@[simp] theorem v_seqL (xs : List PyData) : seqOf (.list xs) = some xs := rfl
@[simp] theorem v_seqT (xs : List PyData) : seqOf (.tuple xs) = some xs := rfl
end
@[simp] theorem v_fn (N n : Nat) (f : Ex) (args : List Vl) (st : Sto) : fnS N n f args st = if args.length = n then (f (args.map some ++ List.replicate (N - args.length) none) st >>= fun a => match a.1 with
    | .rt r => fin st.length r a.2.2
    | .nx => some (.d .none, a.2.2.take st.length)
    | _ => none) else none := rfl
@[simp] theorem v_eAnd (f g : Ev) (ρ : Rho) (st : Sto) : eAnd f g ρ st = (tV f ρ st >>= fun a => if a.1 = true then g ρ a.2 else some (.d (.bool false), a.2)) := rfl
@[simp] theorem v_eOr (f g : Ev) (ρ : Rho) (st : Sto) : eOr f g ρ st = (tV f ρ st >>= fun a => if a.1 = true then some (.d (.bool true), a.2) else g ρ a.2) := rfl
@[simp] theorem v_chn (p p' : GB) (f1 f2 f3 : Ev) (ρ : Rho) (st : Sto) : tChn p p' f1 f2 f3 ρ st = (f1 ρ st >>= fun x => f2 ρ x.2 >>= fun y => rd x.1 y.2 >>= fun a => rd y.1 y.2 >>= fun b => p a b >>= fun z => if z = true then f3 ρ y.2 >>= fun w => rd y.1 w.2 >>= fun b' => rd w.1 w.2 >>= fun c => p' b' c >>= fun z' => some (z', w.2) else some (false, y.2)) := rfl
@[simp] theorem v_rep0 {α : Type} (a : α) : List.replicate 0 a = [] := rfl
theorem v_fnS {N n : Nat} {f : Ex} {args : List Vl} {st : Sto} (h : args.length = n) : fnS N n f args st = (f (args.map some ++ List.replicate (N - args.length) none) st >>= fun a => match a.1 with
    | .rt r => fin st.length r a.2.2
    | .nx => some (.d .none, a.2.2.take st.length)
    | _ => none) := by
  unfold fnS
  rw [if_pos h]
  all_goals rfl
theorem v_var {i : Nat} {ρ : Rho} {st : Sto} {v : Vl} (h : ρ[i]? = some (some v)) : eVar i ρ st = some (v, st) := by unfold eVar; rw [h]
@[simp] theorem v_var0 (v : Option Vl) (ρ : Rho) (st : Sto) : eVar 0 (v :: ρ) st = v.map (·, st) := by cases v <;> rfl
@[simp] theorem v_varS (i : Nat) (v : Option Vl) (ρ : Rho) (st : Sto) : eVar (i + 1) (v :: ρ) st = eVar i ρ st := rfl
/-! ### comprehensions whose parts do not write -/
theorem comp_map {α : Type} {own : List Nat} {b : Bd} {f : Ev} {ρ : Rho} {st : Sto} (enc h : α → PyData) (ρ1 : α → Rho) : ∀ (xs : List α), (∀ x ∈ xs, b (.d (enc x)) (wipeR ρ own) st = some (ρ1 x, st) ∧ f (ρ1 x) st = some (.d (h x), st)) → compD own b tYesQ f ρ (xs.map enc) st = some (xs.map h, st)
  | [], _ => rfl
  | x :: xs, hx => by
    obtain ⟨h1, h2⟩ := hx x List.mem_cons_self
    have ih := comp_map enc h ρ1 xs fun y hy => hx y (List.mem_cons_of_mem _ hy)
    rw [List.map_cons, compD, h1]
    simp [h2, ih]
theorem comp_filter {α : Type} {own : List Nat} {b : Bd} {t : Tv} {f : Ev} {ρ : Rho} {st : Sto} (enc h : α → PyData) (c : α → Bool) (ρ1 : α → Rho) : ∀ (xs : List α), (∀ x ∈ xs, b (.d (enc x)) (wipeR ρ own) st = some (ρ1 x, st) ∧ t (ρ1 x) st = some (c x, st) ∧ (c x = true → f (ρ1 x) st = some (.d (h x), st))) →
    compD own b t f ρ (xs.map enc) st = some ((xs.filter c).map h, st)
  | [], _ => rfl
  | x :: xs, hx => by
    obtain ⟨h1, h2, h3⟩ := hx x List.mem_cons_self
    have ih := comp_filter enc h c ρ1 xs fun y hy => hx y (List.mem_cons_of_mem _ hy)
    rw [List.map_cons, compD, h1]
    simp only [v_obind, h2]
    cases hc : c x with
    | true => simp [h3 hc, ih, hc]
    | false => simp [ih, hc]
end QL

end
section
set_option Elab.async false
set_option linter.all false
set_option autoImplicit false
set_option maxRecDepth 100000
set_option maxHeartbeats 400000
/-! V1: encodings; sums, sorts, bests of what is encoded. -/
namespace QL
open PySem PySem.Spec PyProof.Rows L2
def dN (n : Nat) : PyData := .int (n : Int)
def dP (j : Int × Int) : PyData := .tuple [.int j.1, .int j.2]
def dT (t : Int × Int × Int) : PyData := .tuple [.int t.1, .int t.2.1, .int t.2.2]
section
variable {α : Type}
theorem boolsOf_mapf (c : α → Bool) : ∀ xs : List α, boolsOf (xs.map fun x => .bool (c x)) = some (xs.map c)
  | [] => rfl
  | x :: xs => by simp [boolsOf, boolsOf_mapf c xs]
@[simp] theorem gAll_map (c : α → Bool) (xs : List α) : gAll (.list (xs.map fun x => .bool (c x))) = some (.bool (xs.all c)) := by
  show (boolsOf (xs.map fun x => .bool (c x))).map (fun bs => PyData.bool (bs.all id)) = _
  rw [boolsOf_mapf]
  simp [List.all_map]
theorem intsOf_mapf (c : α → Int) : ∀ xs : List α, intsOf (xs.map fun x => .int (c x)) = some (xs.map c)
  | [] => rfl
  | x :: xs => by simp [intsOf, intsOf_mapf c xs]
@[simp] theorem gSum_map (c : α → Int) (xs : List α) : gSum (.list (xs.map fun x => .int (c x))) = some (.int (xs.map c).sum) := by
  simp [gSum, intsOf_mapf]
theorem atI_n (xs : List α) (n : Nat) : atI xs ((n : Nat) : Int) = xs[n]? := by
  unfold atI ixN
  by_cases h : n < xs.length
  · rw [if_pos (by omega), if_pos (by omega)]
    simp
  · rw [if_pos (by omega), if_neg (by omega)]
    simp [List.getElem?_eq_none (Nat.le_of_not_lt h)]
theorem rgD_map (n : Nat) : rgD 0 n = (List.range n).map dN := by
  unfold rgD dN
  simp
/-! ### sorts -/
def lexLe (p q : Int × Int) : Bool := decide (p.1 < q.1 ∨ (p.1 = q.1 ∧ p.2 ≤ q.2))
def lexLt (p q : Int × Int) : Bool := decide (p.1 < q.1 ∨ (p.1 = q.1 ∧ p.2 < q.2))
theorem lexLe_trans (a b c : Int × Int) (h1 : lexLe a b = true) (h2 : lexLe b c = true) : lexLe a c = true := by
  unfold lexLe at *
  simp only [decide_eq_true_eq] at *
  omega
theorem lexLe_total (a b : Int × Int) : (lexLe a b || lexLe b a) = true := by
  unfold lexLe
  simp only [Bool.or_eq_true, decide_eq_true_eq]
  omega
theorem lexLe_not (p q : Int × Int) : (!lexLt q p) = lexLe p q := by
  unfold lexLe lexLt
  rw [Bool.eq_iff_iff]
  simp only [Bool.not_eq_true', decide_eq_false_iff_not, decide_eq_true_eq]
  omega
theorem dataLt_pair2 (x y x' y' : Int) : PySem.W.dataLt (.tuple [.int x, .int y]) (.tuple [.int x', .int y']) = lexLt (x, y) (x', y') := PySem.W.dataLt_ii x y x' y'
theorem dataLt_int2 (x y : Int) : PySem.W.dataLt (.int x) (.int y) = decide (x < y) := by
  have h := congrFun (congrFun (PySem.W.dataLe_int (fun b : Int => b)) y) x
  rw [PySem.W.dataLe_eq] at h
  have h' : (!PySem.W.dataLt (.int x) (.int y)) = decide (y ≤ x) := h
  cases hd : PySem.W.dataLt (.int x) (.int y)
  · rw [hd] at h'
    have : y ≤ x := by simpa using h'.symm
    exact (decide_eq_false (by omega)).symm
  · rw [hd] at h'
    have : ¬ y ≤ x := by simpa using h'.symm
    exact (decide_eq_true (by omega)).symm
theorem alike_pair (x y x' y' : Int) : PySem.W.alike (.tuple [.int x, .int y]) (.tuple [.int x', .int y']) = true := by simp [PySem.W.alike, PySem.W.alikeAll]
theorem sortOk_pairs (x y : α → Int) (xs : List α) : sortOk (xs.map fun a => .tuple [.int (x a), .int (y a)]) = true := by
  unfold sortOk
  simp [List.all_eq_true, alike_pair, PyData.depth, PyData.depthAll]
theorem sortOk_ints (x : α → Int) (xs : List α) : sortOk (xs.map fun a => .int (x a)) = true := by
  unfold sortOk
  simp [List.all_eq_true, PySem.W.alike, PyData.depth]
theorem sort_enc {enc : α → PyData} {k : PyData → PyData} {r : α → α → Bool} (xs : List α) (h : ∀ a ∈ xs, ∀ b ∈ xs, r a b = !PySem.W.dataLt (k (enc b)) (k (enc a))) : (xs.map enc).mergeSort (PySem.W.dataLe false k) = (xs.mergeSort r).map enc := by
  refine (List.map_mergeSort fun a ha b hb => ?_).symm
  rw [PySem.W.dataLe_eq]
  exact h a ha b hb
theorem gSort_nat (is : List Nat) : gSort (.list (is.map dN)) = some ((is.mergeSort fun a b => decide (a ≤ b)).map dN) := by
  have ok : sortOk (is.map dN) = true := sortOk_ints (fun n : Nat => (n : Int)) is
  have e := sort_enc (enc := dN) (k := id) (r := fun a b => decide (a ≤ b)) is (fun a _ b _ => by
    show _ = !PySem.W.dataLt (.int (b : Int)) (.int (a : Int))
    rw [dataLt_int2, Bool.eq_iff_iff]
    simp)
  show (if sortOk (is.map dN) = true then some _ else none) = _
  rw [if_pos ok, e]
theorem gSort_natT (is : List Nat) : gSort (.tuple (is.map dN)) = some ((is.mergeSort fun a b => decide (a ≤ b)).map dN) := gSort_nat is
theorem gSort_pairs (x y : α → Int) (xs : List α) : gSort (.list (xs.map fun a => .tuple [.int (x a), .int (y a)])) = some ((xs.mergeSort fun a b => lexLe (x a, y a) (x b, y b)).map fun a => .tuple [.int (x a), .int (y a)]) := by
  have ok := sortOk_pairs x y xs
  have e := sort_enc (enc := fun a => PyData.tuple [.int (x a), .int (y a)]) (k := id) (r := fun a b => lexLe (x a, y a) (x b, y b)) xs (fun a _ b _ => by
    show _ = !PySem.W.dataLt (.tuple [.int (x b), .int (y b)]) (.tuple [.int (x a), .int (y a)])
    rw [dataLt_pair2, lexLe_not])
  show (if sortOk (xs.map fun a => PyData.tuple [.int (x a), .int (y a)]) = true then some _ else none) = _
  rw [if_pos ok, e]
theorem keysOf_map {enc key : α → PyData} {g : Kv} {p : Str} {m : List (Str × PyData)} : ∀ {xs : List α}, (∀ a ∈ xs, g ((p, enc a) :: m) = some (key a) ∧ flatI (key a) = true) → keysOf g p m (xs.map enc) = some (xs.map key)
  | [], _ => rfl
  | a :: xs, h => by
    obtain ⟨h1, h2⟩ := h a List.mem_cons_self
    have ih := keysOf_map (enc := enc) (key := key) (g := g) (p := p) (m := m) (xs := xs) fun b hb => h b (List.mem_cons_of_mem _ hb)
    show (g ((p, enc a) :: m) >>= fun k => keysOf g p m (xs.map enc) >>= fun ks => if flatI k = true then some (k :: ks) else none) = _
    rw [h1, ih]
    simp [h2]
theorem keyAt_eq {g : Kv} {p : Str} {m : List (Str × PyData)} {d k : PyData} (h : g ((p, d) :: m) = some k) : keyAt g p m d = k := by unfold keyAt; rw [h]; rfl
theorem ev_sortK2 {fc : Cv} {js : List (Str × Nat)} {p : Str} {g : Kv} {ρ : Rho} {st s1 : Sto} {xs : List α} {enc : α → PyData} {m : List (Str × PyData)} (x y : α → Int) (hfc : fc ρ st = some (xs.map enc, s1)) (hc : caps js ρ s1 = some m)
    (hg : ∀ a ∈ xs, g ((p, enc a) :: m) = some (.tuple [.int (x a), .int (y a)])) (hl : xs.length ≤ 16777216) : lSortK fc js p g ρ st = some ((xs.mergeSort fun a b => lexLe (x a, y a) (x b, y b)).map enc, s1) := by
  have hk : keysOf g p m (xs.map enc) = some (xs.map fun a => .tuple [.int (x a), .int (y a)]) := keysOf_map fun a ha => ⟨hg a ha, rfl⟩
  have e := sort_enc (enc := enc) (k := keyAt g p m) (r := fun a b => lexLe (x a, y a) (x b, y b)) xs (fun a ha b hb => by
    rw [keyAt_eq (hg a ha), keyAt_eq (hg b hb), dataLt_pair2, lexLe_not])
  show (fc ρ st >>= fun a => caps js ρ a.2 >>= fun m => keysOf g p m a.1 >>= fun ks => if (sortOk ks && decide (a.1.length ≤ 16777216)) = true then some (a.1.mergeSort (PySem.W.dataLe false (keyAt g p m)), a.2) else none) = _
  rw [hfc]
  simp only [v_obind, hc, hk, sortOk_pairs x y xs, e, List.length_map]
  simp [hl]
theorem ev_sortK1 {fc : Cv} {js : List (Str × Nat)} {p : Str} {g : Kv} {ρ : Rho} {st s1 : Sto} {xs : List α} {enc : α → PyData} {m : List (Str × PyData)} (x : α → Int) (hfc : fc ρ st = some (xs.map enc, s1)) (hc : caps js ρ s1 = some m)
    (hg : ∀ a ∈ xs, g ((p, enc a) :: m) = some (.int (x a))) (hl : xs.length ≤ 16777216) : lSortK fc js p g ρ st = some ((xs.mergeSort fun a b => decide (x a ≤ x b)).map enc, s1) := by
  have hk : keysOf g p m (xs.map enc) = some (xs.map fun a => .int (x a)) := keysOf_map fun a ha => ⟨hg a ha, rfl⟩
  have e := sort_enc (enc := enc) (k := keyAt g p m) (r := fun a b => decide (x a ≤ x b)) xs (fun a ha b hb => by
    rw [keyAt_eq (hg a ha), keyAt_eq (hg b hb), dataLt_int2, Bool.eq_iff_iff]
    simp)
  show (fc ρ st >>= fun a => caps js ρ a.2 >>= fun m => keysOf g p m a.1 >>= fun ks => if (sortOk ks && decide (a.1.length ≤ 16777216)) = true then some (a.1.mergeSort (PySem.W.dataLe false (keyAt g p m)), a.2) else none) = _
  rw [hfc]
  simp only [v_obind, hc, hk, sortOk_ints x xs, e, List.length_map]
  simp [hl]
/-- the best of a list by a strict order: the first of those that none beats -/
def bestBy (lt : α → α → Bool) (y : α) (ys : List α) : α := ys.foldl (fun a z => if lt z a then z else a) y
theorem bestBy_mem (lt : α → α → Bool) (y : α) (ys : List α) : bestBy lt y ys ∈ y :: ys := by
  unfold bestBy
  rcases foldl_mem (f := fun a z => if lt z a then z else a) (fun a b => by split <;> simp) ys y with h | h
  · rw [h]; exact List.mem_cons_self
  · exact List.mem_cons_of_mem _ h
theorem bestOf_enc {lt : PyData → PyData → Bool} {k : PyData → PyData} {enc : α → PyData} {r : α → α → Bool} : ∀ (ys : List α) (y : α), (∀ a ∈ y :: ys, ∀ b ∈ y :: ys, lt (k (enc a)) (k (enc b)) = r a b) → bestOf lt k (enc y) (ys.map enc) = enc (bestBy r y ys)
  | [], y, _ => rfl
  | z :: ys, y, h => by
    have hz : z ∈ y :: z :: ys := List.mem_cons_of_mem _ List.mem_cons_self
    have hy : y ∈ y :: z :: ys := List.mem_cons_self
    have e : bestOf lt k (enc y) ((z :: ys).map enc) = bestOf lt k (if lt (k (enc z)) (k (enc y)) then enc z else enc y) (ys.map enc) := rfl
    have e2 : bestBy r y (z :: ys) = bestBy r (if r z y then z else y) ys := rfl
    rw [e, e2, h z hz y hy]
    cases r z y with
    | true => exact bestOf_enc ys z fun a ha b hb => h a (List.mem_cons_of_mem _ ha) b (List.mem_cons_of_mem _ hb)
    | false => exact bestOf_enc ys y fun a ha b hb => h a (by
        rcases List.mem_cons.mp ha with e | e
        · rw [e]; exact hy
        · exact List.mem_cons_of_mem _ (List.mem_cons_of_mem _ e)) b (by
        rcases List.mem_cons.mp hb with e | e
        · rw [e]; exact hy
        · exact List.mem_cons_of_mem _ (List.mem_cons_of_mem _ e))
theorem alikeB_pairs (x y : α → Int) (xs : List α) : alikeB (xs.map fun a => .tuple [.int (x a), .int (y a)]) = true := by
  unfold alikeB
  simp [List.all_eq_true, alike_pair]
theorem ev_best2 {lt : PyData → PyData → Bool} {r : Int × Int → Int × Int → Bool} {f : Ev} {js : List (Str × Nat)} {p : Str} {g : Kv} {ρ : Rho} {st s1 : Sto} {v : Vl} {d : PyData} {z : α} {zs : List α} {enc : α → PyData} {m : List (Str × PyData)} (x y : α → Int)
    (hr : ∀ a b : Int × Int, lt (.tuple [.int a.1, .int a.2]) (.tuple [.int b.1, .int b.2]) = r a b) (hf : f ρ st = some (v, s1)) (hd : rd v s1 = some d) (hs : seqOf d = some ((z :: zs).map enc)) (hc : caps js ρ s1 = some m)
    (hg : ∀ a ∈ z :: zs, g ((p, enc a) :: m) = some (.tuple [.int (x a), .int (y a)])) : eBestK lt f js p g ρ st = some (.d (enc (bestBy (fun a b => r (x a, y a) (x b, y b)) z zs)), s1) := by
  have hk : keysOf g p m ((z :: zs).map enc) = some ((z :: zs).map fun a => .tuple [.int (x a), .int (y a)]) := keysOf_map fun a ha => ⟨hg a ha, rfl⟩
  have e := bestOf_enc (lt := lt) (k := keyAt g p m) (enc := enc) (r := fun a b => r (x a, y a) (x b, y b)) zs z fun a ha b hb => by
    rw [keyAt_eq (hg a ha), keyAt_eq (hg b hb)]
    exact hr (x a, y a) (x b, y b)
  show (f ρ st >>= fun q => rd q.1 q.2 >>= fun d => seqOf d >>= fun ds => caps js ρ q.2 >>= fun m => keysOf g p m ds >>= fun ks => match ds with
    | y :: ys => if alikeB ks then some (Vl.d (bestOf lt (keyAt g p m) y ys), q.2) else none
    | [] => none) = _
  rw [hf]
  simp only [v_obind, hd, hs, hc, hk]
  rw [List.map_cons] at *
  simp only [e]
  rw [if_pos (alikeB_pairs x y (z :: zs))]
/-- max and min of pairs -/
theorem gBest_maxP (z : Int × Int) (zs : List (Int × Int)) : gBest PySem.W.maxD (.list ((z :: zs).map dP)) = some (dP (bestBy (fun a b => lexLt b a) z zs)) := by
  have e : PySem.W.maxD (dP z) (zs.map dP) = dP (bestBy (fun a b => lexLt b a) z zs) := by
    have := bestOf_enc (lt := fun a b => PySem.W.dataLt b a) (k := id) (enc := dP) (r := fun a b => lexLt b a) zs z fun a _ b _ => dataLt_pair2 b.1 b.2 a.1 a.2
    exact this
  have h1 : alikeB ((z :: zs).map dP) = true := alikeB_pairs (fun a : Int × Int => a.1) (fun a => a.2) (z :: zs)
  have h2 : ((z :: zs).map dP).all notN = true := by simp [List.all_eq_true, dP, notN]
  have h3 : PyData.depthAll ((z :: zs).map dP) ≤ 60 := by
    have : ∀ l : List (Int × Int), PyData.depthAll (l.map dP) ≤ 1 := by
      intro l
      induction l with
      | nil => simp [PyData.depthAll]
      | cons a l ih => simp [PyData.depthAll, dP, PyData.depth]; omega
    exact Nat.le_trans (this _) (by decide)
  show (match some ((z :: zs).map dP) with
    | some (y :: ys) => if (alikeB (y :: ys) && (y :: ys).all notN && decide (PyData.depthAll (y :: ys) ≤ 60)) = true then some (PySem.W.maxD y ys) else none
    | _ => none) = _
  rw [List.map_cons] at *
  simp [h1, h2, h3, e]
end
end QL

end
section
set_option Elab.async false
set_option linter.all false
set_option autoImplicit false
set_option maxRecDepth 100000
set_option maxHeartbeats 400000
/-! V2: one cell behind the store; lists of indices. -/
namespace QL
open PySem PySem.Spec PyProof.Rows L2
section
variable (st : Sto) (l : List PyData)
@[simp] theorem v_rdl : rd (.loc st.length) (st ++ [some (.lst l)]) = some (.list l) := by
  unfold rd
  simp
@[simp] theorem v_setl {α : Type} (s : List α) (x y : α) : (s ++ [x]).set s.length y = s ++ [y] := by
  rw [List.set_append_right _ _ (Nat.le_refl _)]
  simp
@[simp] theorem v_eMeth (g : List PyData → PyData → Option (List PyData × PyData)) (fo fe : Ev) (ρ : Rho) : eMeth g fo fe ρ st = (fo ρ st >>= fun a => match a.1 with
    | .loc n => rd (.loc n) a.2 >>= fun _ => fe ρ a.2 >>= fun b => match b.1, b.2[n]? with
      | .d d, some (some (.lst ds)) => g ds d >>= fun q => some (.d q.2, b.2.set n (some (.lst q.1)))
      | _, _ => none
    | _ => none) := by
  unfold eMeth
  cases fo ρ st with
  | none => rfl
  | some a => obtain ⟨v, s1⟩ := a; cases v <;> rfl
@[simp] theorem v_aug (i : Nat) (g : G2) (f : Ev) (ρ : Rho) : sAug i g f ρ st = (match ρ[i]? with
  | some (some x) => f ρ st >>= fun a => rd x a.2 >>= fun p => rd a.1 a.2 >>= fun q => g p q >>= fun z => some (.nx, ρ.set i (some (.d z)), a.2)
  | _ => none) := rfl
@[simp] theorem v_par2 (i j : Nat) (g : Evs) (ρ : Rho) : sPar2 i j g ρ st = (g ρ st >>= fun a => match a.1 with
  | [x, y] => some (.nx, (ρ.set i (some x)).set j (some y), a.2)
  | _ => none) := by
  unfold sPar2
  rfl
end
theorem gApp_nat (is : List Nat) (a : Nat) (h : is.length < 16777216) : gApp (is.map dN) (dN a) = some ((is ++ [a]).map dN, .none) := by
  unfold gApp
  rw [if_pos (by rw [List.length_map]; exact h), List.map_append]
  rfl
theorem intsOf_dN (is : List Nat) : intsOf (is.map dN) = some (is.map fun n : Nat => (n : Int)) := intsOf_mapf (fun n : Nat => (n : Int)) is
theorem placeI_nat {a : Nat} : ∀ {is : List Nat}, a ∈ is → ∃ j, placeI (a : Int) (is.map fun n : Nat => (n : Int)) = some j ∧ is.eraseIdx j = is.erase a
  | [], h => by cases h
  | b :: is, h => by
    by_cases e : b = a
    · subst e
      exact ⟨0, by simp [placeI], by simp⟩
    · have hm : a ∈ is := (List.mem_cons.mp h).resolve_left fun z => e z.symm
      obtain ⟨j, h1, h2⟩ := placeI_nat hm
      refine ⟨j + 1, ?_, ?_⟩
      · have : ¬ ((b : Int) = (a : Int)) := by omega
        simp [placeI, this, h1]
      · rw [List.erase_cons_tail (by simpa using e), ← h2]
        rfl
theorem gRem_nat {is : List Nat} {a : Nat} (h : a ∈ is) : gRem (is.map dN) (dN a) = some ((is.erase a).map dN, .none) := by
  obtain ⟨j, h1, h2⟩ := placeI_nat h
  show (intsOf (is.map dN) >>= fun ns => placeI (a : Int) ns >>= fun j => some ((ns.eraseIdx j).map PyData.int, PyData.none)) = _
  rw [intsOf_dN]
  simp only [v_obind, h1]
  rw [← h2]
  have e : ∀ (l : List Nat) (j : Nat), ((l.map fun n : Nat => (n : Int)).eraseIdx j).map PyData.int = (l.eraseIdx j).map dN := by
    intro l
    induction l with
    | nil => intro j; rfl
    | cons b l ih =>
      intro j
      cases j with
      | zero => simp [dN, Function.comp_def]
      | succ j =>
        have := ih j
        simp only [List.map_cons, List.eraseIdx_cons_succ] at this ⊢
        rw [this]
        rfl
  rw [e]
end QL

end
section
set_option Elab.async false
set_option linter.all false
set_option autoImplicit false
set_option maxRecDepth 100000
set_option maxHeartbeats 400000
/-! V3: indexing at known places. -/
namespace QL
open PySem PySem.Spec PyProof.Rows L2
section
variable {α : Type} (x y z : α) (xs : List α)
@[simp] theorem v_ix_t (xs : List PyData) (i : Int) : gIx (.tuple xs) (.int i) = atI xs i := rfl
@[simp] theorem v_ix_l (xs : List PyData) (i : Int) : gIx (.list xs) (.int i) = atI xs i := rfl
@[simp] theorem v_at0 : atI (x :: xs) 0 = some x := (atI_n (x :: xs) 0).trans rfl
@[simp] theorem v_at1 : atI (x :: y :: xs) 1 = some y := (atI_n (x :: y :: xs) 1).trans rfl
@[simp] theorem v_at2 : atI (x :: y :: z :: xs) 2 = some z := (atI_n (x :: y :: z :: xs) 2).trans rfl
@[simp] theorem v_atL : atI (xs ++ [x]) (-1) = some x := by
  unfold atI ixN
  rw [if_neg (by omega), if_pos (by rw [List.length_append]; simp only [List.length_singleton]; omega)]
  have e : ((-1 : Int) + ((xs ++ [x]).length : Nat)).toNat = xs.length := by
    rw [List.length_append]
    simp
    omega
  show (some _ : Option Nat) >>= _ = _
  rw [e]
  show (xs ++ [x])[xs.length]? = _
  simp
end
end QL

end
section
set_option Elab.async false
set_option linter.all false
set_option autoImplicit false
set_option maxRecDepth 100000
set_option maxHeartbeats 400000
/-! V4: lists of places: equal or not, in or not, sorted sets. -/
namespace QL
open PySem PySem.Spec PyProof.Rows L2
theorem eqvAll_nat : ∀ xs ys : List Nat, PyData.eqvAll (xs.map dN) (ys.map dN) = decide (xs = ys)
  | [], [] => by simp [PyData.eqvAll]
  | [], _ :: _ => by simp [PyData.eqvAll]
  | _ :: _, [] => by simp [PyData.eqvAll]
  | x :: xs, y :: ys => by
    have h : PyData.eqv (dN x) (dN y) = decide (x = y) := by
      show ((x : Int) == (y : Int)) = _
      rw [Bool.eq_iff_iff]
      simp
      omega
    rw [List.map_cons, List.map_cons, PyData.eqvAll, h, eqvAll_nat xs ys, ← Bool.decide_and]
    exact decide_eq_decide.mpr (by rw [List.cons.injEq])
theorem depthAll_nat : ∀ xs : List Nat, PyData.depthAll (xs.map dN) = 0
  | [] => rfl
  | x :: xs => by
    rw [List.map_cons, PyData.depthAll, depthAll_nat xs]
    rfl
theorem ne_listN (xs ys : List Nat) : pNe (.list (xs.map dN)) (.list (ys.map dN)) = some (!decide (xs = ys)) := by
  unfold pNe
  rw [if_pos (by simp [PyData.depth, depthAll_nat])]
  simp [PyData.eqv, eqvAll_nat]
theorem eq_listN (xs ys : List Nat) : pEq (.list (xs.map dN)) (.list (ys.map dN)) = some (decide (xs = ys)) := by
  unfold pEq
  rw [if_pos (by simp [PyData.depth, depthAll_nat])]
  simp [PyData.eqv, eqvAll_nat]
theorem ne_tupN (xs ys : List Nat) : pNe (.tuple (xs.map dN)) (.tuple (ys.map dN)) = some (!decide (xs = ys)) := by
  unfold pNe
  rw [if_pos (by simp [PyData.depth, depthAll_nat])]
  simp [PyData.eqv, eqvAll_nat]
theorem eq_tupN (xs ys : List Nat) : pEq (.tuple (xs.map dN)) (.tuple (ys.map dN)) = some (decide (xs = ys)) := by
  unfold pEq
  rw [if_pos (by simp [PyData.depth, depthAll_nat])]
  simp [PyData.eqv, eqvAll_nat]
@[simp] theorem eq_int (i j : Int) : pEq (.int i) (.int j) = some (i == j) := by
  unfold pEq
  rw [if_pos (by simp [PyData.depth])]
  rfl
@[simp] theorem ne_int (i j : Int) : pNe (.int i) (.int j) = some (!(i == j)) := by
  unfold pNe
  rw [if_pos (by simp [PyData.depth])]
  rfl
theorem ne_str (x : Str) : pNe (.str x) (.str x) = some false := by
  unfold pNe
  rw [if_pos (by simp [PyData.depth])]
  simp [PyData.eqv]
theorem any_nat (xs : List Nat) (a : Nat) : ((xs.map dN).any fun z => PyData.eqv z (dN a)) = decide (a ∈ xs) := by
  induction xs with
  | nil => simp
  | cons x xs ih =>
    have h : PyData.eqv (dN x) (dN a) = decide (a = x) := by
      show ((x : Int) == (a : Int)) = _
      rw [Bool.eq_iff_iff]
      simp
      omega
    rw [List.map_cons, List.any_cons, ih, h, ← Bool.decide_or]
    exact decide_eq_decide.mpr (by rw [List.mem_cons])
theorem notIn_tup (xs : List Nat) (a : Nat) : pNotIn (dN a) (.tuple (xs.map dN)) = some (decide (a ∉ xs)) := by
  have e : pIn (dN a) (.tuple (xs.map dN)) = some (decide (a ∈ xs)) := by
    show (if min (PyData.depthAll (xs.map dN)) (dN a).depth ≤ 60 then some _ else none) = _
    rw [if_pos (by simp [depthAll_nat]), any_nat]
  unfold pNotIn
  rw [e]
  simp
theorem sset_nat {is : List Nat} (h : is.length < 64) : ∃ ks : List Nat, gSSet (.tuple (is.map dN)) = some (ks.map dN) ∧ (is = ks ↔ is.Pairwise fun a b => a < b) := by
  let f : Nat → Int := fun n => (n : Int)
  have hi : intsOf (is.map dN) = some (is.map f) := intsOf_dN is
  have hall : ∀ z ∈ ssetI (is.map f), 0 ≤ z := fun z hz => by
    obtain ⟨n, _, e⟩ := List.mem_map.mp (ssetI_mem.mp hz)
    rw [← e]
    exact Int.natCast_nonneg n
  have hback : ∀ l : List Int, (∀ z ∈ l, 0 ≤ z) → (l.map Int.toNat).map f = l := fun l hl => by
    rw [List.map_map]
    refine (List.map_congr_left fun z hz => ?_).trans (List.map_id l)
    have := hl z hz
    simp [f]
    omega
  refine ⟨(ssetI (is.map f)).map Int.toNat, ?_, ?_⟩
  · show (some (is.map dN) >>= fun ds => intsOf ds >>= fun ns => if ns.length < 64 then some ((ssetI ns).map PyData.int) else none) = _
    simp only [v_obind, hi]
    rw [if_pos (by rw [List.length_map]; exact h)]
    have : (ssetI (is.map f)).map PyData.int = ((ssetI (is.map f)).map Int.toNat).map dN := by
      conv => lhs; rw [← hback _ hall]
      rw [List.map_map]
      rfl
    rw [this]
  · constructor
    · intro e
      have hp := ssetI_lt (is.map f)
      have e2 : is.map f = ssetI (is.map f) := by
        conv => lhs; rw [e]
        exact hback _ hall
      rw [← e2, List.pairwise_map] at hp
      exact hp.imp fun {a b} q => by simp [f] at q; omega
    · intro hp
      have h1 : (is.map f).Pairwise (· < ·) := by
        rw [List.pairwise_map]
        exact hp.imp fun {a b} q => by simp [f]; omega
      have e2 : is.map f = ssetI (is.map f) := lt_unique h1 (ssetI_lt _) fun z => ssetI_mem.symm
      rw [← e2, List.map_map]
      exact ((List.map_congr_left fun n _ => by simp [f]).trans (List.map_id is)).symm
end QL

end
section
set_option Elab.async false
set_option linter.all false
set_option autoImplicit false
set_option maxRecDepth 100000
set_option maxHeartbeats 400000
/-! V5: cells with garbage behind; bests of ints; sums over a part. -/
namespace QL
open PySem PySem.Spec PyProof.Rows L2
theorem own_frz {i : Nat} {L : Lv} {F : Ex} {ρ : Rho} {st : Sto} (hi : i < ρ.length) : sCons (sAsg (eOwn L) (bName i)) (sFrz i F) ρ st = (L ρ st >>= fun a => F (ρ.set i (some (.d (.list a.1)))) (a.2 ++ [none])) := by
  rw [v_sCons, v_sAsg, v_eOwn]
  cases h : L ρ st with
  | none => rfl
  | some a =>
    obtain ⟨ds, s1⟩ := a
    simp only [v_obind, v_bName]
    unfold sFrz
    have e1 : (ρ.set i (some (Vl.loc s1.length)))[i]? = some (some (.loc s1.length)) := by
      rw [List.getElem?_set_self (by simpa using hi)]
    rw [e1]
    simp only [List.getElem?_concat_length, List.set_set, v_setl]
section
variable (st g : Sto) (l : List PyData)
@[simp] theorem v_rdc : rd (.loc st.length) (st ++ some (.lst l) :: g) = some (.list l) := by
  unfold rd
  simp
@[simp] theorem v_getc (x : Option Cell) : (st ++ x :: g)[st.length]? = some x := by simp
@[simp] theorem v_setc (x y : Option Cell) : (st ++ x :: g).set st.length y = st ++ y :: g := by
  rw [List.set_append_right _ _ (Nat.le_refl _)]
  simp
end
theorem notN_ints : ∀ xs : List Int, (xs.map PyData.int).all notN = true := by
  intro xs
  simp [List.all_eq_true, notN]
theorem alikeB_ints (xs : List Int) : alikeB (xs.map PyData.int) = true := by
  unfold alikeB
  simp [List.all_eq_true, PySem.W.alike]
theorem depthAll_ints : ∀ xs : List Int, PyData.depthAll (xs.map PyData.int) = 0
  | [] => rfl
  | x :: xs => by
    rw [List.map_cons, PyData.depthAll, depthAll_ints xs]
    rfl
theorem gBest_ints {best : PyData → List PyData → PyData} {f : Int → List Int → Int} (hb : ∀ n ns, best (.int n) (ns.map .int) = .int (f n ns)) (z : Int) (zs : List Int) : gBest best (.list ((z :: zs).map .int)) = some (.int (f z zs)) := by
  show (match some ((z :: zs).map PyData.int) with
    | some (y :: ys) => if (alikeB (y :: ys) && (y :: ys).all notN && decide (PyData.depthAll (y :: ys) ≤ 60)) = true then some (best y ys) else none
    | _ => none) = _
  have h1 := alikeB_ints (z :: zs)
  have h2 := notN_ints (z :: zs)
  have h3 := depthAll_ints (z :: zs)
  rw [List.map_cons] at *
  simp [h1, h2, h3, hb]
theorem gBest_min (z : Int) (zs : List Int) : gBest PySem.W.minD (.list ((z :: zs).map .int)) = some (.int (zs.foldl min z)) := gBest_ints PySem.W.minD_ints z zs
theorem gBest_max (z : Int) (zs : List Int) : gBest PySem.W.maxD (.list ((z :: zs).map .int)) = some (.int (zs.foldl max z)) := gBest_ints PySem.W.maxD_ints z zs
theorem foldl_min_const (c : Int) : ∀ zs : List Int, (∀ z ∈ zs, z = c) → zs.foldl min c = c
  | [], _ => rfl
  | z :: zs, h => by
    have := h z List.mem_cons_self
    subst this
    rw [List.foldl_cons, Int.min_self]
    exact foldl_min_const z zs fun y hy => h y (List.mem_cons_of_mem _ hy)
theorem foldl_max_ge : ∀ (zs : List Int) (z : Int), z ≤ zs.foldl max z ∧ (∀ y ∈ zs, y ≤ zs.foldl max z) ∧ (zs.foldl max z = z ∨ zs.foldl max z ∈ zs)
  | [], z => ⟨Int.le_refl _, (fun y hy => by cases hy), .inl rfl⟩
  | x :: zs, z => by
    obtain ⟨h1, h2, h3⟩ := foldl_max_ge zs (max z x)
    rw [List.foldl_cons]
    refine ⟨by omega, fun y hy => ?_, ?_⟩
    · rcases List.mem_cons.mp hy with e | e
      · rw [e]; omega
      · exact h2 y e
    · rcases h3 with e | e
      · rw [e]
        rcases Int.le_total z x with q | q
        · rw [Int.max_eq_right q]; exact .inr List.mem_cons_self
        · rw [Int.max_eq_left q]; exact .inl rfl
      · exact .inr (List.mem_cons_of_mem _ e)
theorem foldl_max_is {zs : List Int} {z D : Int} (h1 : D ∈ z :: zs) (h2 : ∀ y ∈ z :: zs, y ≤ D) : zs.foldl max z = D := by
  obtain ⟨a, b, c⟩ := foldl_max_ge zs z
  have u : D ≤ zs.foldl max z := by
    rcases List.mem_cons.mp h1 with e | e
    · rw [e]; exact a
    · exact b D e
  have v : zs.foldl max z ≤ D := by
    rcases c with e | e
    · rw [e]; exact h2 z List.mem_cons_self
    · exact h2 _ (List.mem_cons_of_mem _ e)
  omega
theorem sset_map (ns : List Int) (h : ns.length < 64) : gSSet (.list (ns.map .int)) = some ((ssetI ns).map .int) := by
  show (some (ns.map PyData.int) >>= fun ds => intsOf ds >>= fun ns => if ns.length < 64 then some ((ssetI ns).map PyData.int) else none) = _
  have hi : intsOf (ns.map PyData.int) = some (ns.map id) := intsOf_mapf id ns
  simp only [v_obind, hi, List.map_id, if_pos h]
theorem enD_map {α : Type} (f : α → PyData) : ∀ (xs : List α) (k : Nat), enD k (xs.map f) = (List.range xs.length).map fun i => .tuple [dN (k + i), (xs.map f).getD i .none]
  | [], k => rfl
  | x :: xs, k => by
    have ih := enD_map f xs (k + 1)
    rw [List.map_cons]
    show PyData.tuple [dN k, f x] :: enD (k + 1) (xs.map f) = _
    rw [ih, List.length_cons, List.range_succ_eq_map, List.map_cons, List.map_map]
    refine congr (congrArg List.cons rfl) (List.map_congr_left fun i _ => ?_)
    simp only [Function.comp_def, List.getD_cons_succ]
    rw [show k + 1 + i = k + (i + 1) by omega]
end QL

end
section
set_option Elab.async false
set_option linter.all false
set_option autoImplicit false
/-! the plain law of Moore and Hodgson, on lists of places -/
namespace MH
theorem ne_of {l : List Nat} {a b : Nat} (h : a ∉ l) (hb : b ∈ l) : b ≠ a := fun e => h (by rw [← e]; exact hb)
def tot (f : Nat → Int) : List Nat → Int
  | [] => 0
  | a :: l => f a + tot f l
theorem tot_app (f : Nat → Int) : ∀ l m : List Nat, tot f (l ++ m) = tot f l + tot f m
  | [], m => by simp [tot]
  | a :: l, m => by simp only [List.cons_append, tot, tot_app f l m]; omega
theorem tot_perm {f : Nat → Int} {l m : List Nat} (h : l.Perm m) : tot f l = tot f m := by
  induction h with
  | nil => rfl
  | cons a _ ih => simp only [tot, ih]
  | swap a b l => simp only [tot]; omega
  | trans _ _ h1 h2 => exact h1.trans h2
theorem tot_erase {f : Nat → Int} {l : List Nat} {a : Nat} (h : a ∈ l) : tot f l = f a + tot f (l.erase a) := tot_perm (List.perm_cons_erase h)
theorem tot_nonneg {f : Nat → Int} : ∀ {l : List Nat}, (∀ a ∈ l, 0 ≤ f a) → 0 ≤ tot f l
  | [], _ => by simp [tot]
  | a :: l, h => by
    have h1 := h a List.mem_cons_self
    have h2 := tot_nonneg (f := f) (l := l) fun b hb => h b (List.mem_cons_of_mem _ hb)
    simp only [tot]
    omega
theorem tot_le {f g : Nat → Int} : ∀ {l : List Nat}, (∀ a ∈ l, f a ≤ g a) → tot f l ≤ tot g l
  | [], _ => by simp [tot]
  | a :: l, h => by
    have h1 := h a List.mem_cons_self
    have h2 := tot_le (f := f) (g := g) (l := l) fun b hb => h b (List.mem_cons_of_mem _ hb)
    simp only [tot]
    omega
theorem tot_congr {f g : Nat → Int} {l : List Nat} (h : ∀ a ∈ l, f a = g a) : tot f l = tot g l :=
  Int.le_antisymm (tot_le fun a ha => Int.le_of_eq (h a ha)) (tot_le fun a ha => Int.le_of_eq (h a ha).symm)
theorem tot_map {f : Nat → Int} (φ : Nat → Nat) : ∀ l : List Nat, tot f (l.map φ) = tot (fun i => f (φ i)) l
  | [] => rfl
  | a :: l => by simp only [List.map_cons, tot, tot_map φ l]
theorem tot_sub {f : Nat → Int} : ∀ {l m : List Nat}, l.Nodup → (∀ a ∈ l, a ∈ m) → (∀ a ∈ m, 0 ≤ f a) → tot f l ≤ tot f m
  | [], m, _, _, h => by simpa [tot] using tot_nonneg h
  | a :: l, m, hn, hs, h => by
    have ha := hs a List.mem_cons_self
    have hn' := List.nodup_cons.mp hn
    have ih := tot_sub (f := f) (l := l) (m := m.erase a) hn'.2 (fun b hb => by
      have hb' := hs b (List.mem_cons_of_mem _ hb)
      exact (List.mem_erase_of_ne (ne_of hn'.1 hb)).mpr hb') fun b hb => h b (List.mem_of_mem_erase hb)
    rw [tot_erase ha]
    simp only [tot]
    omega
variable {p d : Nat → Int}
def cnt (p d : Nat → Int) (D : Int) : List Nat → Int := tot fun i => if d i ≤ D then p i else 0
def Feas (p d : Nat → Int) (l : List Nat) : Prop := ∀ D, 0 ≤ D → cnt p d D l ≤ D
theorem cnt_le_tot {D : Int} {l : List Nat} (h : ∀ a ∈ l, 0 ≤ p a) : cnt p d D l ≤ tot p l := tot_le fun a ha => by
  have := h a ha
  split <;> omega
theorem cnt_all {D : Int} {l : List Nat} (h : ∀ a ∈ l, d a ≤ D) : cnt p d D l = tot p l := tot_congr fun a ha => if_pos (h a ha)
theorem cnt_sub {D : Int} {l m : List Nat} (hn : l.Nodup) (hs : ∀ a ∈ l, a ∈ m) (h : ∀ a ∈ m, 0 ≤ p a) : cnt p d D l ≤ cnt p d D m := tot_sub hn hs fun a ha => by
  have := h a ha
  split <;> omega
theorem Feas.sub {l m : List Nat} (F : Feas p d m) (hn : l.Nodup) (hs : ∀ a ∈ l, a ∈ m) (h : ∀ a ∈ m, 0 ≤ p a) : Feas p d l := fun D hD => Int.le_trans (cnt_sub hn hs h) (F D hD)
theorem Feas.perm {l m : List Nat} (F : Feas p d m) (h : l.Perm m) : Feas p d l := fun D hD => by
  have := F D hD
  unfold cnt at *
  rwa [tot_perm h]
/-- the check along a list in the order of the dues -/
def chk (p d : Nat → Int) : Int → List Nat → Bool
  | _, [] => true
  | s, a :: l => if d a < s + p a then false else chk p d (s + p a) l
theorem cnt_none {p d : Nat → Int} {D : Int} : ∀ {l : List Nat}, (¬ ∃ j ∈ l, d j ≤ D) → cnt p d D l = 0
  | [], _ => rfl
  | a :: l, h => by
    have h1 : ¬ d a ≤ D := fun q => h ⟨a, List.mem_cons_self, q⟩
    have ih := cnt_none (p := p) (d := d) (D := D) (l := l) fun ⟨j, hj, q⟩ => h ⟨j, List.mem_cons_of_mem _ hj, q⟩
    unfold cnt at *
    simp only [tot, ih, if_neg h1]
    rfl
theorem chk_iff {p d : Nat → Int} : ∀ {l : List Nat} (s : Int), l.Pairwise (fun a b => d a ≤ d b) → (∀ a ∈ l, 0 ≤ p a) → (chk p d s l = true ↔ ∀ D, (∃ j ∈ l, d j ≤ D) → s + cnt p d D l ≤ D)
  | [], s, _, _ => ⟨fun _ D h => (by obtain ⟨_, h, _⟩ := h; cases h), fun _ => rfl⟩
  | a :: l, s, hp, h0 => by
    have hp' := List.pairwise_cons.mp hp
    have h0' : ∀ b ∈ l, 0 ≤ p b := fun b hb => h0 b (List.mem_cons_of_mem _ hb)
    have ih := chk_iff (l := l) (s + p a) hp'.2 h0'
    have hc : ∀ D, d a ≤ D → cnt p d D (a :: l) = p a + cnt p d D l := fun D hD => by
      unfold cnt
      simp only [tot, if_pos hD]
    have hn : ∀ D, 0 ≤ cnt p d D l := fun D => tot_nonneg fun b hb => by
      have := h0' b hb
      split <;> omega
    unfold chk
    constructor
    · intro hk D ⟨j, hj, hjD⟩
      split at hk
      · cases hk
      · rename_i hd
        have hD : d a ≤ D := by
          rcases List.mem_cons.mp hj with e | e
          · rw [← e]; exact hjD
          · exact Int.le_trans (hp'.1 j e) hjD
        rw [hc D hD]
        by_cases hx : ∃ j ∈ l, d j ≤ D
        · have := ih.mp hk D hx
          omega
        · rw [cnt_none hx]
          omega
    · intro hk
      have h1 := hk (d a) ⟨a, List.mem_cons_self, Int.le_refl _⟩
      rw [hc _ (Int.le_refl _)] at h1
      have h2 := hn (d a)
      rw [if_neg (by omega)]
      refine ih.mpr fun D ⟨j, hj, hjD⟩ => ?_
      have h3 := hk D ⟨j, List.mem_cons_of_mem _ hj, hjD⟩
      have hD : d a ≤ D := Int.le_trans (hp'.1 j hj) hjD
      rw [hc D hD] at h3
      omega
theorem chk_feas {l : List Nat} (hp : l.Pairwise fun a b => d a ≤ d b) (h0 : ∀ a ∈ l, 0 ≤ p a) (hd : ∀ a ∈ l, 0 ≤ d a) : chk p d 0 l = true ↔ Feas p d l := by
  rw [chk_iff 0 hp h0]
  constructor
  · intro h D hD
    by_cases hx : ∃ j ∈ l, d j ≤ D
    · have := h D hx
      omega
    · rw [cnt_none hx]
      exact hD
  · intro h D ⟨j, hj, hjD⟩
    have := h D (Int.le_trans (hd j hj) hjD)
    omega
/-- the state of the greedy walk -/
structure Inv (p d : Nat → Int) (seen kept : List Nat) (here : Int) : Prop where
  nd : kept.Nodup
  sub : ∀ a ∈ kept, a ∈ seen
  feas : Feas p d kept
  here : here = tot p kept
  best : ∀ S : List Nat, S.Nodup → (∀ a ∈ S, a ∈ seen) → Feas p d S → ∃ T : List Nat, T.Nodup ∧ (∀ a ∈ T, a ∈ kept) ∧ T.length = S.length ∧ tot p T ≤ tot p S
theorem Inv.start : Inv p d [] [] 0 where
  nd := List.nodup_nil
  sub := fun a h => h
  feas := fun D hD => hD
  here := rfl
  best := fun S _ h _ => by
    cases S with
    | nil => exact ⟨[], List.nodup_nil, fun a h => h, rfl, Int.le_refl _⟩
    | cons a S => cases h a List.mem_cons_self
theorem nodup_snoc {l : List Nat} {a : Nat} (h : l.Nodup) (ha : a ∉ l) : (l ++ [a]).Nodup := by
  rw [List.nodup_append]
  refine ⟨h, by simp, fun x hx y hy e => ?_⟩
  rw [List.mem_singleton] at hy
  exact ha (by rw [← hy, ← e]; exact hx)
theorem nodup_swap {T : List Nat} {w b : Nat} (h : T.Nodup) (hb : b ∉ T) : (b :: T.erase w).Nodup := List.nodup_cons.mpr ⟨fun q => hb (List.mem_of_mem_erase q), h.erase w⟩
section
variable {seen kept : List Nat} {here : Int} {a : Nat}
theorem Inv.both (I : Inv p d seen kept here) (ha : a ∉ seen) (hp : ∀ b ∈ seen ++ [a], 0 ≤ p b) (hd : ∀ b ∈ seen, d b ≤ d a) : (kept ++ [a]).Nodup ∧ (∀ b ∈ kept ++ [a], b ∈ seen ++ [a]) ∧ ∀ S : List Nat, S.Nodup → (∀ b ∈ S, b ∈ seen ++ [a]) → Feas p d S → ∃ T : List Nat, T.Nodup ∧ (∀ b ∈ T, b ∈ kept ++ [a]) ∧ T.length = S.length ∧ tot p T ≤ tot p S ∧ (a ∈ T ↔ a ∈ S) := by
  have hk : a ∉ kept := fun q => ha (I.sub a q)
  refine ⟨nodup_snoc I.nd hk, fun b hb => ?_, fun S hn hs hf => ?_⟩
  · rcases List.mem_append.mp hb with q | q
    · exact List.mem_append_left _ (I.sub b q)
    · exact List.mem_append_right _ q
  · by_cases hS : a ∈ S
    · have hn1 := hn.erase a
      have hs1 : ∀ b ∈ S.erase a, b ∈ seen := fun b hb => by
        have hb2 := List.mem_of_mem_erase hb
        rcases List.mem_append.mp (hs b hb2) with q | q
        · exact q
        · rw [List.mem_singleton] at q
          exact absurd hb (q ▸ hn.not_mem_erase)
      obtain ⟨T, h1, h2, h3, h4⟩ := I.best _ hn1 hs1 (hf.sub hn1 (fun b hb => List.mem_of_mem_erase hb) fun b hb => hp b (hs b hb))
      refine ⟨T ++ [a], nodup_snoc h1 fun q => hk (h2 a q), fun b hb => ?_, ?_, ?_, by simp [hS]⟩
      · rcases List.mem_append.mp hb with q | q
        · exact List.mem_append_left _ (h2 b q)
        · exact List.mem_append_right _ q
      · rw [List.length_append, h3, List.length_erase_of_mem hS]
        have := List.length_pos_of_mem hS
        simp only [List.length_singleton]
        omega
      · rw [tot_app, tot_erase hS]
        simp only [tot]
        omega
    · obtain ⟨T, h1, h2, h3, h4⟩ := I.best S hn (fun b hb => by
        rcases List.mem_append.mp (hs b hb) with q | q
        · exact q
        · rw [List.mem_singleton] at q
          exact absurd (q ▸ hb) hS) hf
      exact ⟨T, h1, fun b hb => List.mem_append_left _ (h2 b hb), h3, h4, ⟨fun q => absurd (h2 a q) hk, fun q => absurd q hS⟩⟩
theorem Inv.keep (I : Inv p d seen kept here) (ha : a ∉ seen) (hp : ∀ b ∈ seen ++ [a], 0 ≤ p b) (hd : ∀ b ∈ seen, d b ≤ d a) (hc : ¬ d a < here + p a) : Inv p d (seen ++ [a]) (kept ++ [a]) (here + p a) := by
  obtain ⟨h1, h2, h3⟩ := I.both ha hp hd
  refine ⟨h1, h2, fun D hD => ?_, ?_, fun S hn hs hf => ?_⟩
  · have hI := I.feas D hD
    have hx : cnt p d D (kept ++ [a]) = cnt p d D kept + if d a ≤ D then p a else 0 := by
      unfold cnt
      rw [tot_app]
      simp only [tot]
      omega
    rw [hx]
    split
    · rename_i hda
      have := cnt_all (p := p) (d := d) (D := D) (l := kept) fun b hb => Int.le_trans (hd b (I.sub b hb)) hda
      have := I.here
      omega
    · omega
  · rw [tot_app, I.here]
    simp only [tot]
    omega
  · obtain ⟨T, t1, t2, t3, t4, _⟩ := h3 S hn hs hf
    exact ⟨T, t1, t2, t3, t4⟩
theorem Inv.drop (I : Inv p d seen kept here) (ha : a ∉ seen) (hp : ∀ b ∈ seen ++ [a], 0 ≤ p b) (hd : ∀ b ∈ seen, d b ≤ d a) (h0 : 0 ≤ d a) (hc : d a < here + p a) {w : Nat} (hw : w ∈ kept ++ [a]) (hm : ∀ b ∈ kept ++ [a], p b ≤ p w) : Inv p d (seen ++ [a]) ((kept ++ [a]).erase w) (here + p a - p w) := by
  obtain ⟨h1, h2, h3⟩ := I.both ha hp hd
  have htot : tot p (kept ++ [a]) = here + p a := by
    rw [tot_app, I.here]
    simp only [tot]
    omega
  have hte := tot_erase (f := p) hw
  have hpk : ∀ b ∈ (kept ++ [a]).erase w, 0 ≤ p b := fun b hb => hp b (h2 b (List.mem_of_mem_erase hb))
  refine ⟨h1.erase w, fun b hb => h2 b (List.mem_of_mem_erase hb), fun D hD => ?_, by omega, fun S hn hs hf => ?_⟩
  · by_cases hda : d a ≤ D
    · have e1 := cnt_le_tot (p := p) (d := d) (D := D) hpk
      have e2 := cnt_all (p := p) (d := d) (D := d a) (l := kept) fun b hb => hd b (I.sub b hb)
      have e3 := I.feas (d a) h0
      have e4 := I.here
      have e5 := hm a (by simp)
      omega
    · have e1 : cnt p d D ((kept ++ [a]).erase w) ≤ cnt p d D (kept ++ [a]) := cnt_sub (h1.erase w) (fun b hb => List.mem_of_mem_erase hb) fun b hb => hp b (h2 b hb)
      have e2 : cnt p d D (kept ++ [a]) = cnt p d D kept := by
        unfold cnt
        rw [tot_app]
        simp only [tot, if_neg hda]
        omega
      have e3 := I.feas D hD
      omega
  · obtain ⟨T, t1, t2, t3, t4, t5⟩ := h3 S hn hs hf
    by_cases hwT : w ∈ T
    · have hex : ∃ b ∈ kept ++ [a], b ∉ T := by
        apply Classical.byContradiction
        intro hno
        have hall : ∀ b ∈ kept ++ [a], b ∈ T := fun b hb => Classical.byContradiction fun q => hno ⟨b, hb, q⟩
        have s1 := tot_sub (f := p) h1 hall fun b hb => hp b (h2 b (t2 b hb))
        have s2 : a ∈ S := t5.mp (hall a (by simp))
        have s3 := hf (d a) h0
        have s4 := cnt_all (p := p) (d := d) (D := d a) (l := S) fun b hb => by
          rcases List.mem_append.mp (hs b hb) with q | q
          · exact hd b q
          · rw [List.mem_singleton.mp q]; exact Int.le_refl _
        omega
      obtain ⟨b, hb, hbT⟩ := hex
      refine ⟨b :: T.erase w, nodup_swap t1 hbT, fun c hc => ?_, ?_, ?_⟩
      · rcases List.mem_cons.mp hc with q | q
        · rw [q]
          exact (List.mem_erase_of_ne fun e => hbT (by rw [e]; exact hwT)).mpr hb
        · exact (List.mem_erase_of_ne (ne_of (t1.not_mem_erase (a := w)) q)).mpr (t2 c (List.mem_of_mem_erase q))
      · rw [List.length_cons, List.length_erase_of_mem hwT, ← t3]
        have := List.length_pos_of_mem hwT
        omega
      · have s1 := tot_erase (f := p) hwT
        have s2 := hm b hb
        simp only [tot]
        omega
    · refine ⟨T, t1, fun b hb => ?_, t3, t4⟩
      exact (List.mem_erase_of_ne (ne_of hwT hb)).mpr (t2 b hb)
end
theorem len_le_of_sub : ∀ {l m : List Nat}, l.Nodup → (∀ a ∈ l, a ∈ m) → l.length ≤ m.length
  | [], m, _, _ => by simp
  | a :: l, m, hn, hs => by
    have hn' := List.nodup_cons.mp hn
    have ha := hs a List.mem_cons_self
    have ih := len_le_of_sub (l := l) (m := m.erase a) hn'.2 fun b hb => (List.mem_erase_of_ne (ne_of hn'.1 hb)).mpr (hs b (List.mem_cons_of_mem _ hb))
    rw [List.length_erase_of_mem ha] at ih
    have := List.length_pos_of_mem ha
    simp only [List.length_cons]
    omega
theorem Inv.most {seen kept : List Nat} {here : Int} (I : Inv p d seen kept here) {S : List Nat} (hn : S.Nodup) (hs : ∀ a ∈ S, a ∈ seen) (hf : Feas p d S) : S.length ≤ kept.length := by
  obtain ⟨T, h1, h2, h3, _⟩ := I.best S hn hs hf
  rw [← h3]
  exact len_le_of_sub h1 h2
end MH

end
section
set_option Elab.async false
set_option linter.all false
set_option autoImplicit false
set_option maxRecDepth 100000
set_option maxHeartbeats 400000
namespace K42
open PySem PySem.Spec PyProof.Rows L2 QL
def isIntB (lo hi : Int) (d : PyData) : Bool := match d with
  | .int i => decide (lo ≤ i) && decide (i ≤ hi)
  | _ => false
theorem s_is_int (d : PyData) (lo hi : Int) (st : Sto) : sem_is_int [.d d, .d (.int lo), .d (.int hi)] st = some (.d (.bool (isIntB lo hi d)), st) := by
  cases d <;> simp [sem_is_int, isiB, isIntB]
  split
  · simp_all
  · rename_i h
    simp at h
    simp
    omega
theorem s_are_intsT (xs : List PyData) (lo hi : Int) (st : Sto) (hl : xs.length ≤ 16777216) : sem_are_ints [.d (.tuple xs), .d (.int lo), .d (.int hi)] st = some (.d (.bool (xs.all (isIntB lo hi))), st) := by
  have h : compD [3] (bName 3) tYesQ (eCall sem_is_int (aCons (eVar 3) (aCons (eVar 1) (aCons (eVar 2) aNil)))) [some (.d (.tuple xs)), some (.d (.int lo)), some (.d (.int hi)), none] (xs.map id) st = some (xs.map fun x => .bool (isIntB lo hi x), st) :=
    comp_map id (fun x => .bool (isIntB lo hi x)) (fun x => [some (.d (.tuple xs)), some (.d (.int lo)), some (.d (.int hi)), some (.d x)]) xs fun x _ => ⟨by simp [wipeR], by simp [s_is_int]⟩
  rw [List.map_id] at h
  simp [sem_are_ints, isiB, iSeq, h, hl]
theorem s_are_intsL (xs : List PyData) (lo hi : Int) (st : Sto) : sem_are_ints [.d (.list xs), .d (.int lo), .d (.int hi)] st = some (.d (.bool false), st) := by
  simp [sem_are_ints, isiB]
/-- jobs as they are drawn -/
structure JOk (js : List (Int × Int)) : Prop where
  len : js.length ≤ 24
  ok : ∀ j ∈ js, 1 ≤ j.1 ∧ j.1 ≤ 1000 ∧ 0 ≤ j.2 ∧ j.2 ≤ 1000000
def encJ (js : List (Int × Int)) : PyData := .tuple (js.map dP)
theorem s_are_dues {js : List (Int × Int)} (h : JOk js) (st : Sto) : sem_are_dues [.d (encJ js)] st = some (.d (.bool true), st) := by
  have loop : ∀ (xs : List (Int × Int)) (v : Option Vl), (∀ j ∈ xs, 1 ≤ j.1 ∧ j.1 ≤ 1000 ∧ 0 ≤ j.2 ∧ j.2 ≤ 1000000) → ∃ v', loopD (bName 1) (sCons (sIf (tOrQ (tNotQ (tV (eCall sem_are_ints (aCons (eVar 1) (aCons (eC (.int 0)) (aCons (eC (.int 1000000)) aNil)))))) (tOrQ (tCmp2 pNe (eOp1 gLen (eVar 1)) (eC (.int 2))) (tNotQ (tChn pLe pLe (eC (.int 1)) (eOp2 gIx (eVar 1) (eC (.int 0))) (eC (.int 1000)))))) (sCons (sRet (eC (.bool false)))
 sNil) sNil)
 sNil) (xs.map dP) [some (.d (encJ js)), v] st = some (.nx, [some (.d (encJ js)), v'], st) := by
    intro xs
    induction xs with
    | nil => intro v _; exact ⟨v, rfl⟩
    | cons j xs ih =>
      intro v hx
      obtain ⟨h1, h2, h3, h4⟩ := hx j List.mem_cons_self
      obtain ⟨v', e⟩ := ih (some (.d (dP j))) fun k hk => hx k (List.mem_cons_of_mem _ hk)
      refine ⟨v', ?_⟩
      rw [List.map_cons, v_loop1]
      have ha : sem_are_ints [.d (.tuple [.int j.1, .int j.2]), .d (.int 0), .d (.int 1000000)] st = some (.d (.bool true), st) := by
        rw [s_are_intsT _ _ _ _ (by simp)]
        simp [isIntB]
        omega
      simp [ha, show dP j = .tuple [.int j.1, .int j.2] from rfl, gIx, atI, ixN, pNe, PyData.depth, PyData.eqv, h1, h2] at e ⊢
      exact e
  obtain ⟨v', e⟩ := loop js none h.ok
  have hl := h.len
  simp [sem_are_dues, encJ, isiB, mulOk, iSeq] at e ⊢
  simp [show ¬ (24 : Int) < js.length by omega, e]
theorem s_look_dues {js : List (Int × Int)} (h : JOk js) (st : Sto) : sem_look_at_dues [.d (encJ js)] st = some (.d .none, st) := by
  simp [sem_look_at_dues, s_are_dues h]
end K42

end
section
set_option Elab.async false
set_option linter.all false
set_option autoImplicit false
set_option maxRecDepth 100000
set_option maxHeartbeats 1000000
namespace K42
open PySem PySem.Spec PyProof.Rows L2 QL
def pOf (js : List (Int × Int)) (a : Nat) : Int := (js.getD a (0, 0)).1
def dOf (js : List (Int × Int)) (a : Nat) : Int := (js.getD a (0, 0)).2
/-- the longest of some jobs, by (length, place) -/
def worst (js : List (Int × Int)) : List Nat → Nat
  | [] => 0
  | y :: ys => bestBy (fun a b => lexLt (pOf js b, (b : Int)) (pOf js a, (a : Int))) y ys
def mhStep (js : List (Int × Int)) (s : List Nat × Int) (a : Nat) : List Nat × Int :=
  if dOf js a < s.2 + pOf js a then ((s.1 ++ [a]).erase (worst js (s.1 ++ [a])), s.2 + pOf js a - pOf js (worst js (s.1 ++ [a]))) else (s.1 ++ [a], s.2 + pOf js a)
def edd (js : List (Int × Int)) (is : List Nat) : List Nat := is.mergeSort fun a b => lexLe (dOf js a, (a : Int)) (dOf js b, (b : Int))
def mhKept (js : List (Int × Int)) : List Nat := ((edd js (List.range js.length)).foldl (mhStep js) ([], 0)).1
def mh (js : List (Int × Int)) : List Nat := (mhKept js).mergeSort fun a b => decide (a ≤ b)
theorem worst_mem (js : List (Int × Int)) {l : List Nat} (h : l ≠ []) : worst js l ∈ l := by
  cases l with
  | nil => exact absurd rfl h
  | cons y ys => exact bestBy_mem _ y ys
theorem ix_job {js : List (Int × Int)} {a : Nat} (h : a < js.length) : gIx (encJ js) (dN a) = some (.tuple [.int (pOf js a), .int (dOf js a)]) := by
  show atI (js.map dP) ((a : Nat) : Int) = _
  rw [atI_n, List.getElem?_map]
  unfold pOf dOf
  rw [List.getD_eq_getElem?_getD, List.getElem?_eq_getElem h]
  rfl
theorem kAt_n (ds : List PyData) (a : Nat) (h : ds.length ≤ 16777216) : kAt ds (a : Int) = ds[a]? := by
  unfold kAt
  rw [if_pos ⟨h, by omega⟩]
  simp
theorem key_job {js : List (Int × Int)} (h : js.length ≤ 24) {a : Nat} (ha : a < js.length) (c : Nat) (hc : c < 2) : kIx (kIx (kVar "jobs") (kVar "one")) (kInt (c : Int)) [("one", dN a), ("jobs", encJ js)] = some (.int (if c = 0 then pOf js a else dOf js a)) := by
  have e : kIx (kVar "jobs") (kVar "one") [("one", dN a), ("jobs", encJ js)] = some (.tuple [.int (pOf js a), .int (dOf js a)]) := by
    show (some (encJ js) >>= fun x => some (dN a) >>= fun y => match x, y with
      | .list ds, .int i => kAt ds i
      | .tuple ds, .int i => kAt ds i
      | _, _ => none) = _
    show kAt (js.map dP) ((a : Nat) : Int) = _
    rw [kAt_n _ _ (by rw [List.length_map]; omega), List.getElem?_map]
    unfold pOf dOf
    rw [List.getD_eq_getElem?_getD, List.getElem?_eq_getElem ha]
    rfl
  show (kIx (kVar "jobs") (kVar "one") [("one", dN a), ("jobs", encJ js)] >>= fun x => some (PyData.int (c : Int)) >>= fun y => match x, y with
      | .list ds, .int i => kAt ds i
      | .tuple ds, .int i => kAt ds i
      | _, _ => none) = _
  rw [e]
  show kAt [.int (pOf js a), .int (dOf js a)] ((c : Nat) : Int) = _
  rw [kAt_n _ _ (by simp)]
  rcases c with _ | _ | c
  · rfl
  · rfl
  · omega
def mhBody : Ex := (sCons (sExpr (eMeth gApp (eVar 1) (eVar 3)))
 (sCons (sAug 2 gAddI (eOp2 gIx (eOp2 gIx (eVar 0) (eVar 3)) (eC (.int 0))))
 (sCons (sIf (tCmp2 pGt (eVar 2) (eOp2 gIx (eOp2 gIx (eVar 0) (eVar 3)) (eC (.int 1)))) (sCons (sAsg (eBestK (fun a b => PySem.W.dataLt b a) (eVar 1) [("jobs", 0)] "one" (kTwo (kIx (kIx (kVar "jobs") (kVar "one")) (kInt 0)) (kVar "one"))) (bName 4))
 (sCons (sExpr (eMeth gRem (eVar 1) (eVar 4)))
 (sCons (sAug 2 gSub (eOp2 gIx (eOp2 gIx (eVar 0) (eVar 4)) (eC (.int 0))))
 sNil))) sNil)
 sNil)))
theorem ev_worst {js : List (Int × Int)} (h : js.length ≤ 24) {kept : List Nat} (hk : ∀ a ∈ kept, a < js.length) (hne : kept ≠ []) (st : Sto) (ρ : Rho) :
    eBestK (fun a b => PySem.W.dataLt b a) (eVar 1) [("jobs", 0)] "one" (kTwo (kIx (kIx (kVar "jobs") (kVar "one")) (kInt 0)) (kVar "one")) (some (.d (encJ js)) :: some (.loc st.length) :: ρ) (st ++ [some (.lst (kept.map dN))]) = some (.d (dN (worst js kept)), st ++ [some (.lst (kept.map dN))]) := by
  cases kept with
  | nil => exact absurd rfl hne
  | cons y ys =>
    refine ev_best2 (r := fun a b => lexLt b a) (v := .loc st.length) (d := .list ((y :: ys).map dN)) (m := [("jobs", encJ js)]) (fun a : Nat => pOf js a) (fun a => (a : Int)) (fun a b => dataLt_pair2 _ _ _ _) (by simp) (by simp) rfl rfl fun a ha => ?_
    have e := key_job h (hk a ha) 0 (by decide)
    show (match kIx (kIx (kVar "jobs") (kVar "one")) (kInt 0) [("one", dN a), ("jobs", encJ js)], some (dN a) with
      | some (.int i), some (.int j) => some (PyData.tuple [.int i, .int j])
      | _, _ => none) = _
    have e' : kIx (kIx (kVar "jobs") (kVar "one")) (kInt 0) [("one", dN a), ("jobs", encJ js)] = some (.int (pOf js a)) := e
    rw [e']
    rfl
theorem ev_mhBody {js : List (Int × Int)} (h : js.length ≤ 24) {kept : List Nat} {a : Nat} (hk : ∀ b ∈ kept, b < js.length) (hl : kept.length < 1000) (ha : a < js.length) (here : Int) (st : Sto) (v4 : Option Vl) :
    ∃ v', mhBody [some (.d (encJ js)), some (.loc st.length), some (.d (.int here)), some (.d (dN a)), v4] (st ++ [some (.lst (kept.map dN))]) =
      some (.nx, [some (.d (encJ js)), some (.loc st.length), some (.d (.int (mhStep js (kept, here) a).2)), some (.d (dN a)), v'], st ++ [some (.lst ((mhStep js (kept, here) a).1.map dN))]) := by
  have hk' : ∀ b ∈ kept ++ [a], b < js.length := fun b hb => by
    rcases List.mem_append.mp hb with q | q
    · exact hk b q
    · rw [List.mem_singleton.mp q]; exact ha
  have hw := worst_mem js (l := kept ++ [a]) (by simp)
  have e0 : gApp (kept.map dN) (dN a) = some ((kept ++ [a]).map dN, .none) := gApp_nat kept a (by omega)
  have ew := fun ρ => ev_worst h hk' (by simp) st ρ
  have er := gRem_nat hw
  have i1 := ix_job ha
  have i2 := ix_job (hk' _ hw)
  unfold mhStep
  by_cases hc : dOf js a < here + pOf js a
  · refine ⟨some (.d (dN (worst js (kept ++ [a])))), ?_⟩
    rw [if_pos hc]
    simp only [mhBody, v_sCons, v_sExpr, v_eMeth, v_var0, v_varS, Option.map_some, v_obind, v_rdl, e0, v_setl, List.getElem?_concat_length, v_aug, List.getElem?_cons_succ, List.getElem?_cons_zero, v_op2, v_rd, i1, v_eC]
    simp [-List.map_append, hc, ew, er, i1, i2]
    done
  · refine ⟨v4, ?_⟩
    rw [if_neg hc]
    simp only [mhBody, v_sCons, v_sExpr, v_eMeth, v_var0, v_varS, Option.map_some, v_obind, v_rdl, e0, v_setl, List.getElem?_concat_length, v_aug, List.getElem?_cons_succ, List.getElem?_cons_zero, v_op2, v_rd, i1, v_eC]
    simp [-List.map_append, hc, i1]
    done
end K42

end
section
set_option Elab.async false
set_option linter.all false
set_option autoImplicit false
set_option maxRecDepth 100000
set_option maxHeartbeats 1000000
namespace K42
open PySem PySem.Spec PyProof.Rows L2 QL
theorem mhStep_mem (js : List (Int × Int)) (s : List Nat × Int) (a : Nat) : ∀ b ∈ (mhStep js s a).1, b ∈ s.1 ∨ b = a := by
  intro b hb
  unfold mhStep at hb
  have : b ∈ s.1 ++ [a] := by
    split at hb
    · exact List.mem_of_mem_erase hb
    · exact hb
  rcases List.mem_append.mp this with h | h
  · exact .inl h
  · exact .inr (List.mem_singleton.mp h)
theorem mhStep_len (js : List (Int × Int)) (s : List Nat × Int) (a : Nat) : (mhStep js s a).1.length ≤ s.1.length + 1 := by
  unfold mhStep
  split
  · refine Nat.le_trans (List.length_erase_le) ?_
    simp
  · simp
theorem loop_mh {js : List (Int × Int)} (h : js.length ≤ 24) (st : Sto) : ∀ (as : List Nat) (kept : List Nat) (here : Int) (v3 v4 : Option Vl), (∀ b ∈ kept, b < js.length) → (∀ b ∈ as, b < js.length) → kept.length + as.length < 1000 →
    ∃ v3' v4', loopD (bName 3) mhBody (as.map dN) [some (.d (encJ js)), some (.loc st.length), some (.d (.int here)), v3, v4] (st ++ [some (.lst (kept.map dN))]) =
      some (.nx, [some (.d (encJ js)), some (.loc st.length), some (.d (.int (as.foldl (mhStep js) (kept, here)).2)), v3', v4'], st ++ [some (.lst ((as.foldl (mhStep js) (kept, here)).1.map dN))])
  | [], kept, here, v3, v4, _, _, _ => ⟨v3, v4, rfl⟩
  | a :: as, kept, here, v3, v4, hk, ha, hl => by
    simp only [List.length_cons] at hl
    obtain ⟨v', e⟩ := ev_mhBody h hk (by omega) (ha a List.mem_cons_self) here st v4
    have ha' := ha a List.mem_cons_self
    obtain ⟨w3, w4, e2⟩ := loop_mh h st as (mhStep js (kept, here) a).1 (mhStep js (kept, here) a).2 (some (.d (dN a))) v' (fun b hb => by
      rcases mhStep_mem js _ a b hb with q | q
      · exact hk b q
      · rw [q]; exact ha') (fun b hb => ha b (List.mem_cons_of_mem _ hb)) (by
      have := mhStep_len js (kept, here) a
      simp only at this
      omega)
    refine ⟨w3, w4, ?_⟩
    rw [List.map_cons, v_loop1]
    have eb : bName 3 (.d (dN a)) [some (.d (encJ js)), some (.loc st.length), some (.d (.int here)), v3, v4] (st ++ [some (.lst (kept.map dN))]) = some ([some (.d (encJ js)), some (.loc st.length), some (.d (.int here)), some (.d (dN a)), v4], st ++ [some (.lst (kept.map dN))]) := rfl
    rw [eb]
    simp only [v_obind, e]
    exact e2
theorem edd_mem {js : List (Int × Int)} {is : List Nat} {b : Nat} : b ∈ edd js is ↔ b ∈ is := by
  unfold edd
  exact (List.mergeSort_perm _ _).mem_iff
theorem a_told (L : Lv) (B : Ex) {J : PyData} {ed : List Nat} {ks : List Nat} {t : Int} {k : List Nat} {v3 v4 : Option Vl} (st : Sto)
    (e : loopD (bName 3) B (ed.map dN) [some (.d J), some (.loc st.length), some (.d (.int 0)), none, none] (st ++ [some (.lst [])]) = some (.nx, [some (.d J), some (.loc st.length), some (.d (.int t)), v3, v4], st ++ [some (.lst (ks.map dN))]))
    (es : L [some (.d J), some (.loc st.length), some (.d (.int 0)), none, none] (st ++ [some (.lst [])]) = some (ed.map dN, st ++ [some (.lst [])]))
    (hs : gSort (.list (ks.map dN)) = some (k.map dN)) :
    fnS 5 1 (sCons (sPar2 1 2 (aCons (eOwn (lDisp aNil)) (aCons (eC (.int 0)) aNil)))
    (sCons (sFor (iSeq (eFz L)) (bName 3) B)
    (sCons (sRet (eFz (lOp1 gSort (eVar 1)))) sNil))) [.d J] st = some (.d (.list (k.map dN)), st) := by
  simp [-List.map_append, iSeq, es, e, hs]
theorem rgOk_small {n : Nat} (h : n ≤ 16777216) : rgOkB 0 (n : Int) = true := by
  have e1 : (2 : Int) ^ 62 = 4611686018427387904 := by decide
  have e2 : 2 ^ 24 = 16777216 := by decide
  unfold rgOkB
  rw [e1, e2]
  simp only [Bool.and_eq_true, decide_eq_true_eq]
  refine ⟨⟨⟨⟨by decide, by decide⟩, ?_⟩, ?_⟩, ?_⟩ <;> omega
theorem a_cRg {f : Ev} {ρ : Rho} {st s1 : Sto} {n : Int} {c : Bool} (h : f ρ st = some (.d (.int n), s1)) (hc : rgOkB 0 n = c) (ok : c = true) : cRg1 f ρ st = some (rgD 0 (n - 0).toNat, s1) := by
  have e : cRg1 f ρ st = (f ρ st >>= fun a => match a.1 with
    | .d (.int n) => if rgOkB 0 n = true then some (rgD 0 (n - 0).toNat, a.2) else none
    | _ => none) := rfl
  rw [e, h, v_obind]
  show (if rgOkB 0 n = true then _ else none) = _
  rw [hc, ok]
  rfl
theorem v_cRg {n : Nat} {J : PyData} {ρ : Rho} {st : Sto} (eL : gLen J = some (.int n)) (h : n ≤ 16777216) : cRg1 (eOp1 gLen (eVar 0)) (some (.d J) :: ρ) st = some ((List.range n).map dN, st) := by
  have e1 : (eOp1 gLen (eVar 0)) (some (.d J) :: ρ) st = some (.d (.int n), st) := by
    simp only [v_op1, v_var0, Option.map_some, v_obind, v_rd, eL]
  rw [a_cRg e1 rfl (rgOk_small h), Int.sub_zero, Int.toNat_natCast, rgD_map]
theorem len_encJ (js : List (Int × Int)) : gLen (encJ js) = some (.int js.length) := by unfold encJ; simp
theorem s_sortDue {js : List (Int × Int)} (h : js.length ≤ 24) (ρ : Rho) (st : Sto) : lSortK (cRg1 (eOp1 gLen (eVar 0))) [("jobs", 0)] "one" (kTwo (kIx (kIx (kVar "jobs") (kVar "one")) (kInt 1)) (kVar "one")) (some (.d (encJ js)) :: ρ) st = some ((edd js (List.range js.length)).map dN, st) := by
  refine ev_sortK2 (α := Nat) (enc := dN) (m := [("jobs", encJ js)]) (fun a : Nat => dOf js a) (fun a => (a : Int)) (v_cRg (len_encJ js) (by omega)) rfl (fun a ha => ?_) (by rw [List.length_range]; omega)
  have e := key_job h (List.mem_range.mp ha) 1 (by decide)
  show (match kIx (kIx (kVar "jobs") (kVar "one")) (kInt 1) [("one", dN a), ("jobs", encJ js)], some (dN a) with
    | some (.int i), some (.int j) => some (PyData.tuple [.int i, .int j])
    | _, _ => none) = _
  have e' : kIx (kIx (kVar "jobs") (kVar "one")) (kInt 1) [("one", dN a), ("jobs", encJ js)] = some (.int (dOf js a)) := e
  rw [e']
  rfl
theorem s_told_in_time {js : List (Int × Int)} (h : js.length ≤ 24) (st : Sto) : sem_told_in_time [.d (encJ js)] st = some (.d (.list ((mh js).map dN)), st) := by
  obtain ⟨v3, v4, e⟩ := loop_mh h st (edd js (List.range js.length)) [] 0 none none (fun b hb => by cases hb) (fun b hb => by
    rw [edd_mem] at hb
    exact List.mem_range.mp hb) (by
    rw [edd, List.length_mergeSort, List.length_range]
    simp
    omega)
  exact a_told _ mhBody st e (s_sortDue h _ _) (gSort_nat _)
theorem v_tuple_l (xs : List PyData) : gTuple (.list xs) = some (.tuple xs) := rfl
theorem a_most (F1 F2 : Fn) {J : PyData} {m : List Nat} (st : Sto) (e : F1 [.d J] st = some (.d .none, st)) (e2 : F2 [.d J] st = some (.d (.list (m.map dN)), st)): fnS 1 1 (sCons (sExpr (eCall F1 (aCons (eVar 0) aNil)))
 (sCons (sRet (eOp1 gTuple (eCall F2 (aCons (eVar 0) aNil))))
 sNil)) [.d J] st = some (.d (.tuple (m.map dN)), st) := by
  simp [e, e2, v_tuple_l]
theorem s_most_in_time {js : List (Int × Int)} (h : JOk js) (st : Sto) : sem_most_in_time [.d (encJ js)] st = some (.d (.tuple ((mh js).map dN)), st) := 
  a_most sem_look_at_dues sem_told_in_time st (s_look_dues h st) (s_told_in_time h.len st)
end K42

end
section
set_option Elab.async false
set_option linter.all false
set_option autoImplicit false
set_option maxRecDepth 100000
set_option maxHeartbeats 1000000
namespace K42
open PySem PySem.Spec PyProof.Rows L2 QL MH
theorem bestBy_max {α : Type} (f : α → Int) (lt : α → α → Bool) (h1 : ∀ a b, lt a b = true → f b ≤ f a) (h2 : ∀ a b, lt a b = false → f a ≤ f b) : ∀ (ys : List α) (y : α), f y ≤ f (bestBy lt y ys) ∧ ∀ b ∈ ys, f b ≤ f (bestBy lt y ys)
  | [], y => ⟨Int.le_refl _, fun b hb => by cases hb⟩
  | z :: ys, y => by
    have e : bestBy lt y (z :: ys) = bestBy lt (if lt z y then z else y) ys := rfl
    rw [e]
    cases hz : lt z y with
    | true =>
      obtain ⟨i1, i2⟩ := bestBy_max f lt h1 h2 ys z
      have := h1 z y hz
      refine ⟨by simp only [if_true]; omega, fun b hb => ?_⟩
      rcases List.mem_cons.mp hb with q | q
      · rw [q]; exact i1
      · exact i2 b q
    | false =>
      obtain ⟨i1, i2⟩ := bestBy_max f lt h1 h2 ys y
      have := h2 z y hz
      refine ⟨i1, fun b hb => ?_⟩
      simp only [Bool.false_eq_true, if_false]
      rcases List.mem_cons.mp hb with q | q
      · rw [q]; omega
      · exact i2 b q
theorem worst_max (js : List (Int × Int)) {l : List Nat} : ∀ b ∈ l, pOf js b ≤ pOf js (worst js l) := by
  cases l with
  | nil => intro b hb; cases hb
  | cons y ys =>
    have h := bestBy_max (fun a => pOf js a) (fun a b => lexLt (pOf js b, (b : Int)) (pOf js a, (a : Int))) (fun a b h => by
      unfold QL.lexLt at h
      simp only [decide_eq_true_eq] at h
      omega) (fun a b h => by
      unfold QL.lexLt at h
      simp only [decide_eq_false_iff_not] at h
      omega) ys y
    intro b hb
    rcases List.mem_cons.mp hb with q | q
    · rw [q]; exact h.1
    · exact h.2 b q
theorem getD_ok {js : List (Int × Int)} (h : JOk js) {a : Nat} (ha : a < js.length) : 1 ≤ pOf js a ∧ pOf js a ≤ 1000 ∧ 0 ≤ dOf js a ∧ dOf js a ≤ 1000000 := by
  unfold pOf dOf
  rw [List.getD_eq_getElem?_getD, List.getElem?_eq_getElem ha]
  exact h.ok _ (List.getElem_mem ha)
theorem inv_fold {js : List (Int × Int)} (h : JOk js) : ∀ (as seen : List Nat) (s : List Nat × Int), (seen ++ as).Nodup → (seen ++ as).Pairwise (fun a b => dOf js a ≤ dOf js b) → (∀ b ∈ seen ++ as, b < js.length) → Inv (pOf js) (dOf js) seen s.1 s.2 → Inv (pOf js) (dOf js) (seen ++ as) (as.foldl (mhStep js) s).1 (as.foldl (mhStep js) s).2
  | [], seen, s, _, _, _, I => by simpa using I
  | a :: as, seen, s, hn, hp, hb, I => by
    have e : seen ++ a :: as = (seen ++ [a]) ++ as := by simp
    have ha : a ∉ seen := fun q => (List.nodup_append.mp hn).2.2 a q a List.mem_cons_self rfl
    have hd : ∀ b ∈ seen, dOf js b ≤ dOf js a := fun b q => (List.pairwise_append.mp hp).2.2 b q a List.mem_cons_self
    have hq : ∀ b ∈ seen ++ [a], 0 ≤ pOf js b := fun b q => by
      have hb' := hb b (by rw [e]; exact List.mem_append_left _ q)
      have := getD_ok h hb'
      omega
    have h0 := getD_ok h (hb a (by simp))
    have I' : Inv (pOf js) (dOf js) (seen ++ [a]) (mhStep js s a).1 (mhStep js s a).2 := by
      unfold mhStep
      split
      · rename_i hc
        exact I.drop ha hq hd h0.2.2.1 hc (worst_mem js (by simp)) (worst_max js)
      · rename_i hc
        exact I.keep ha hq hd hc
    rw [List.foldl_cons, e]
    exact inv_fold h as (seen ++ [a]) (mhStep js s a) (by rw [← e]; exact hn) (by rw [← e]; exact hp) (by rw [← e]; exact hb) I'
theorem edd_perm (js : List (Int × Int)) (is : List Nat) : (edd js is).Perm is := List.mergeSort_perm _ _
theorem edd_sorted (js : List (Int × Int)) (is : List Nat) : (edd js is).Pairwise fun a b => dOf js a ≤ dOf js b := by
  have h := List.pairwise_mergeSort (le := fun a b : Nat => lexLe (dOf js a, (a : Int)) (dOf js b, (b : Int))) (fun a b c h1 h2 => lexLe_trans _ _ _ h1 h2) (fun a b => lexLe_total _ _) is
  refine List.Pairwise.imp (fun {a b} h => ?_) h
  unfold QL.lexLe at h
  simp only [decide_eq_true_eq] at h
  omega
theorem mh_inv {js : List (Int × Int)} (h : JOk js) : ∃ here, Inv (pOf js) (dOf js) (edd js (List.range js.length)) (mhKept js) here := ⟨_, inv_fold h (edd js (List.range js.length)) [] ([], 0) (by
    rw [List.nil_append]
    exact (edd_perm js _).nodup_iff.mpr List.nodup_range) (edd_sorted js _) (fun b hb => by
    rw [List.nil_append, edd_mem] at hb
    exact List.mem_range.mp hb) Inv.start⟩
theorem mh_perm (js : List (Int × Int)) : (mh js).Perm (mhKept js) := List.mergeSort_perm _ _
theorem mh_nodup {js : List (Int × Int)} (h : JOk js) : (mh js).Nodup := by
  obtain ⟨_, I⟩ := mh_inv h
  exact (mh_perm js).nodup_iff.mpr I.nd
theorem mh_lt {js : List (Int × Int)} (h : JOk js) : ∀ a ∈ mh js, a < js.length := fun a ha => by
  obtain ⟨_, I⟩ := mh_inv h
  have := I.sub a ((mh_perm js).mem_iff.mp ha)
  rw [edd_mem] at this
  exact List.mem_range.mp this
theorem mh_feas {js : List (Int × Int)} (h : JOk js) : Feas (pOf js) (dOf js) (mh js) := by
  obtain ⟨_, I⟩ := mh_inv h
  exact I.feas.perm (mh_perm js)
theorem mh_most {js : List (Int × Int)} (h : JOk js) {S : List Nat} (hn : S.Nodup) (hs : ∀ a ∈ S, a < js.length) (hf : Feas (pOf js) (dOf js) S) : S.length ≤ (mh js).length := by
  obtain ⟨_, I⟩ := mh_inv h
  rw [(mh_perm js).length_eq]
  exact I.most hn (fun a ha => edd_mem.mpr (List.mem_range.mpr (hs a ha))) hf
theorem sort_lt {l : List Nat} (hn : l.Nodup) : (l.mergeSort fun a b => decide (a ≤ b)).Pairwise fun a b => a < b := by
  have h := List.pairwise_mergeSort (le := fun a b : Nat => decide (a ≤ b)) (fun a b c h1 h2 => by simp only [decide_eq_true_eq] at *; omega) (fun a b => by simp only [Bool.or_eq_true, decide_eq_true_eq]; omega) l
  have hn' : (l.mergeSort fun a b => decide (a ≤ b)).Pairwise fun a b => a ≠ b := (List.mergeSort_perm l _).nodup_iff.mpr hn
  refine (h.and hn').imp fun {a b} q => ?_
  have := q.1
  have := q.2
  simp only [decide_eq_true_eq] at *
  omega
theorem mh_sorted {js : List (Int × Int)} (h : JOk js) : (mh js).Pairwise fun a b => a < b := by
  obtain ⟨_, I⟩ := mh_inv h
  exact sort_lt I.nd
end K42

end
section
set_option Elab.async false
set_option linter.all false
set_option autoImplicit false
set_option maxRecDepth 100000
set_option maxHeartbeats 1000000
namespace K42
open PySem PySem.Spec PyProof.Rows L2 QL MH
def chkBody : Ex := (sCons (sAug 2 gAddI (eOp2 gIx (eOp2 gIx (eVar 0) (eVar 3)) (eC (.int 0))))
 (sCons (sIf (tCmp2 pGt (eVar 2) (eOp2 gIx (eOp2 gIx (eVar 0) (eVar 3)) (eC (.int 1)))) (sCons (sRet (eC (.bool false)))
 sNil) sNil)
 sNil))
theorem loop_chk {J : PyData} (p d : Nat → Int) (st : Sto) (V1 : Vl) : ∀ (l : List Nat) (s : Int) (v3 : Option Vl), (∀ a ∈ l, gIx J (dN a) = some (.tuple [.int (p a), .int (d a)])) →
    ∃ ρ', loopD (bName 3) chkBody (l.map dN) [some (.d J), some V1, some (.d (.int s)), v3] st = some (if chk p d s l then .nx else .rt (.d (.bool false)), ρ', st) ∧ (chk p d s l = true → ρ'.length = 4)
  | [], s, v3, _ => ⟨[some (.d J), some V1, some (.d (.int s)), v3], rfl, fun _ => rfl⟩
  | a :: l, s, v3, h => by
    have h1 := h a List.mem_cons_self
    have eb : bName 3 (.d (dN a)) [some (.d J), some V1, some (.d (.int s)), v3] st = some ([some (.d J), some V1, some (.d (.int s)), some (.d (dN a))], st) := rfl
    rw [List.map_cons, v_loop1, eb]
    by_cases hc : d a < s + p a
    · refine ⟨[some (.d J), some V1, some (.d (.int (s + p a))), some (.d (dN a))], ?_, ?_⟩
      · have e1 : chkBody [some (.d J), some V1, some (.d (.int s)), some (.d (dN a))] st = some (.rt (.d (.bool false)), [some (.d J), some V1, some (.d (.int (s + p a))), some (.d (dN a))], st) := by
          simp [chkBody, h1, hc]
        rw [v_obind, e1]
        simp [chk, hc]
      · intro q
        simp [chk, hc] at q
    · obtain ⟨ρ', e2, e3⟩ := loop_chk p d st V1 l (s + p a) (some (.d (dN a))) fun b hb => h b (List.mem_cons_of_mem _ hb)
      refine ⟨ρ', ?_, ?_⟩
      · have e1 : chkBody [some (.d J), some V1, some (.d (.int s)), some (.d (dN a))] st = some (.nx, [some (.d J), some V1, some (.d (.int (s + p a))), some (.d (dN a))], st) := by
          simp [chkBody, h1, hc]
        rw [v_obind, e1]
        simp only [v_obind, chk, if_neg hc]
        exact e2
      · intro q
        simp only [chk, if_neg hc] at q
        exact e3 q
/-- the check of a set of jobs, as a truth value -/
noncomputable def feasB (js : List (Int × Int)) (is : List Nat) : Bool := @decide (Feas (pOf js) (dOf js) is) (Classical.propDecidable _)
theorem feasB_iff {js : List (Int × Int)} {is : List Nat} : feasB js is = true ↔ Feas (pOf js) (dOf js) is := by
  unfold feasB
  exact @decide_eq_true_iff _ (Classical.propDecidable _)
def srtB (is : List Nat) : Bool := decide (is.Pairwise fun a b => a < b)
theorem chk_feasB {js : List (Int × Int)} (h : JOk js) {is l : List Nat} (hi : ∀ a ∈ is, a < js.length) (hl : l.Perm is) (hs : l.Pairwise fun a b => dOf js a ≤ dOf js b) : chk (pOf js) (dOf js) 0 l = feasB js is := by
  have hb : ∀ a ∈ l, a < js.length := fun a ha => hi a (hl.mem_iff.mp ha)
  rw [Bool.eq_iff_iff, feasB_iff, chk_feas hs (fun a ha => by have := getD_ok h (hb a ha); omega) (fun a ha => by have := getD_ok h (hb a ha); omega)]
  exact ⟨fun F => F.perm hl.symm, fun F => F.perm hl⟩
theorem a_are (F1 F2 : Fn) (L : Lv) {J V1 : PyData} {n : Nat} {st : Sto} {l : List Nat} {p d : Nat → Int} {xs ys : List PyData} {c1 c2 : Bool}
    (e1 : F1 [.d J] st = some (.d .none, st)) (eL : gLen J = some (.int n)) (e2 : F2 [.d V1, .d (.int 0), .d (.int ((n : Int) - 1))] st = some (.d (.bool c1), st))
    (es : c1 = true → seqOf V1 = some xs ∧ gSSet V1 = some ys ∧ pNe (.list xs) (.list ys) = some c2)
    (eS : c1 = true → c2 = false → L [some (.d J), some (.d V1), some (.d (.int 0)), none] st = some (l.map dN, st))
    (h : c1 = true → c2 = false → ∀ a ∈ l, gIx J (dN a) = some (.tuple [.int (p a), .int (d a)])) :
    fnS 4 2 (sCons (sExpr (eCall F1 (aCons (eVar 0) aNil)))
 (sCons (sIf (tOrQ (tNotQ (tV (eCall F2 (aCons (eVar 1) (aCons (eC (.int 0)) (aCons (eOp2 gSub (eOp1 gLen (eVar 0)) (eC (.int 1))) aNil)))))) (tCmp2 pNe (eFz (lOp1 seqOf (eVar 1))) (eFz (lOp1 gSSet (eVar 1))))) (sCons (sRet (eC (.bool false)))
 sNil) sNil)
 (sCons (sAsg (eC (.int 0)) (bName 2))
 (sCons (sFor (iSeq (eFz L)) (bName 3) chkBody)
 (sCons (sRet (eC (.bool true)))
 sNil))))) [.d J, .d V1] st = some (.d (.bool (c1 && (!c2 && chk p d 0 l))), st) := by
  cases c1 with
  | false => simp [e1, eL, e2]
  | true =>
    obtain ⟨s1, s2, s3⟩ := es rfl
    cases c2 with
    | true => simp [e1, eL, e2, s1, s2, s3]
    | false =>
      have eS := eS rfl rfl
      obtain ⟨ρ', k1, _⟩ := loop_chk p d st (.d V1) l 0 none (h rfl rfl)
      generalize chkBody = B at k1 ⊢
      simp [e1, eL, e2, s1, s2, s3, iSeq, eS, k1]
      cases chk p d 0 l <;> simp
theorem s_are_in_timeT {js : List (Int × Int)} (h : JOk js) {is : List Nat} (hi : ∀ a ∈ is, a < js.length) (hl : is.length < 64) (st : Sto) : sem_are_in_time [.d (encJ js), .d (.tuple (is.map dN))] st = some (.d (.bool (srtB is && feasB js is)), st) := by
  obtain ⟨ks, k1, k2⟩ := sset_nat hl
  have c1 : (is.map dN).all (isIntB 0 ((js.length : Int) - 1)) = true := by
    rw [List.all_map, List.all_eq_true]
    intro a ha
    have := hi a ha
    simp [isIntB, dN]
    omega
  have hsrt : srtB is = !(!decide (is = ks)) := by
    unfold srtB
    rw [Bool.not_not]
    exact decide_eq_decide.mpr k2.symm
  let l := is.mergeSort fun a b => decide (dOf js a ≤ dOf js b)
  have hp : l.Perm is := List.mergeSort_perm _ _
  have hs : l.Pairwise fun a b => dOf js a ≤ dOf js b := by
    have q := List.pairwise_mergeSort (le := fun a b : Nat => decide (dOf js a ≤ dOf js b)) (fun a b c h1 h2 => by simp only [decide_eq_true_eq] at *; omega) (fun a b => by simp only [Bool.or_eq_true, decide_eq_true_eq]; omega) is
    exact q.imp fun {a b} q => by simpa using q
  have e := a_are sem_look_at_dues sem_are_ints (lSortK (cSeq (eVar 1)) [("jobs", 0)] "one" (kOne (kIx (kIx (kVar "jobs") (kVar "one")) (kInt 1)))) (J := encJ js) (V1 := .tuple (is.map dN)) (n := js.length) (l := l) (p := pOf js) (d := dOf js) (xs := is.map dN) (ys := ks.map dN) (c1 := true) (c2 := !decide (is = ks)) (s_look_dues h st) (len_encJ js)
    (by rw [s_are_intsT _ _ _ _ (by rw [List.length_map]; omega), c1])
    (fun _ => ⟨rfl, k1, ne_listN is ks⟩)
    (fun _ _ => by
      refine ev_sortK1 (α := Nat) (enc := dN) (m := [("jobs", encJ js)]) (fun a : Nat => dOf js a) rfl rfl (fun a ha => ?_) (by omega)
      have e := key_job h.len (hi a ha) 1 (by decide)
      show (match kIx (kIx (kVar "jobs") (kVar "one")) (kInt 1) [("one", dN a), ("jobs", encJ js)] with
        | some (.int i) => some (PyData.int i)
        | _ => none) = _
      have e' : kIx (kIx (kVar "jobs") (kVar "one")) (kInt 1) [("one", dN a), ("jobs", encJ js)] = some (.int (dOf js a)) := e
      rw [e'])
    (fun _ _ a ha => ix_job (hi a (hp.mem_iff.mp ha)))
  rw [chk_feasB h hi hp hs, ← hsrt] at e
  exact e
theorem s_are_in_timeL {js : List (Int × Int)} (h : JOk js) {xs : List PyData} (st : Sto) : sem_are_in_time [.d (encJ js), .d (.list xs)] st = some (.d (.bool false), st) :=
  a_are sem_look_at_dues sem_are_ints (lSortK (cSeq (eVar 1)) [("jobs", 0)] "one" (kOne (kIx (kIx (kVar "jobs") (kVar "one")) (kInt 1)))) (J := encJ js) (V1 := .list xs) (n := js.length) (l := []) (p := pOf js) (d := dOf js) (xs := []) (ys := []) (c1 := false) (c2 := false) (s_look_dues h st) (len_encJ js) (s_are_intsL _ _ _ _) (fun q => by cases q) (fun q => by cases q) (fun q => by cases q)
theorem a_ismost (F1 F2 F3 : Fn) {J V : PyData} {n m k : Nat} {c c' : Bool} {st : Sto} {ds : List PyData} (e1 : F1 [.d J, .d V] st = some (.d (.bool c), st)) (eL : gLen J = some (.int n)) (eV : c = true → gLen V = some (.int k)) (e3 : F3 [.d J] st = some (.d (.list ds), st)) (hm : ds.length = m)
    (e2 : c = true → F2 [.d (.int k), .d (.int m), .d (.int n)] st = some (.d (.bool c'), st)) : fnS 2 2 (sCons (sRet (eAnd (eCall F1 (aCons (eVar 0) (aCons (eVar 1) aNil))) (eCall F2 (aCons (eOp1 gLen (eVar 1)) (aCons (eOp1 gLen (eCall F3 (aCons (eVar 0) aNil))) (aCons (eOp1 gLen (eVar 0)) aNil))))))
 sNil) [.d J, .d V] st = some (.d (.bool (c && c')), st) := by
  subst hm
  cases c with
  | false => simp [e1]
  | true => simp [e1, eV rfl, eL, e3, e2 rfl]
theorem s_is_mostT {js : List (Int × Int)} (h : JOk js) {is : List Nat} (hi : ∀ a ∈ is, a < js.length) (hl : is.length < 64) (st : Sto) : sem_is_most_in_time [.d (encJ js), .d (.tuple (is.map dN))] st = some (.d (.bool (srtB is && feasB js is && decide (is.length = (mh js).length))), st) := by
  have hm : ((mh js).map dN).length = (mh js).length := List.length_map _
  have e := a_ismost sem_are_in_time sem_is_int sem_told_in_time (J := encJ js) (V := .tuple (is.map dN)) (n := js.length) (m := (mh js).length) (k := is.length) (c' := isIntB ((mh js).length : Int) (js.length : Int) (.int (is.length : Int))) (s_are_in_timeT h hi hl st) (len_encJ js) (fun _ => by simp) (s_told_in_time h.len st) hm (fun _ => s_is_int _ _ _ _)
  refine Eq.trans e ?_
  congr 4
  cases hc : srtB is && feasB js is with
  | false => rfl
  | true =>
    rw [Bool.and_eq_true, feasB_iff] at hc
    have hn : is.Nodup := by
      have := of_decide_eq_true hc.1
      exact this.imp fun {a b} q => by omega
    have h1 := mh_most h hn hi hc.2
    have h2 := len_le_of_sub hn fun a ha => List.mem_range.mpr (hi a ha)
    rw [List.length_range] at h2
    simp only [isIntB, Bool.true_and]
    rw [Bool.eq_iff_iff]
    simp only [Bool.and_eq_true, decide_eq_true_eq]
    omega
theorem s_is_mostL {js : List (Int × Int)} (h : JOk js) {xs : List PyData} (st : Sto) : sem_is_most_in_time [.d (encJ js), .d (.list xs)] st = some (.d (.bool false), st) :=
  a_ismost sem_are_in_time sem_is_int sem_told_in_time (J := encJ js) (V := .list xs) (n := js.length) (m := (mh js).length) (k := 0) (c' := false) (s_are_in_timeL h st) (len_encJ js) (fun q => by cases q) (s_told_in_time h.len st) (List.length_map _) (fun q => by cases q)
end K42

end
section
set_option Elab.async false
set_option linter.all false
set_option autoImplicit false
set_option maxRecDepth 100000
set_option maxHeartbeats 1000000
namespace K42
open PySem PySem.Spec PyProof.Rows L2 QL MH
def tkP (j : Int × Int) : PyData := .tuple [.int 0, .int j.1, .int j.2]
def encK (js : List (Int × Int)) : PyData := .tuple (js.map tkP)
def tk (js : List (Int × Int)) (a : Nat) : PyData := .tuple [.int 0, .int (pOf js a), .int (dOf js a)]
theorem len_encK (js : List (Int × Int)) : gLen (encK js) = some (.int js.length) := by unfold encK; simp
theorem ix_task {js : List (Int × Int)} {a : Nat} (h : a < js.length) : gIx (encK js) (dN a) = some (tk js a) := by
  show atI (js.map tkP) ((a : Nat) : Int) = _
  rw [atI_n, List.getElem?_map]
  unfold tk pOf dOf
  rw [List.getD_eq_getElem?_getD, List.getElem?_eq_getElem h]
  rfl
theorem s_are_tasks {js : List (Int × Int)} (h : JOk js) (st : Sto) : sem_are_tasks [.d (encK js)] st = some (.d (.bool true), st) := by
  have loop : ∀ (F : Fn) (xs : List (Int × Int)) (v : Option Vl), (∀ j ∈ xs, 1 ≤ j.1 ∧ j.1 ≤ 1000) → (∀ j ∈ xs, F [.d (tkP j), .d (.int 0), .d (.int 1001000)] st = some (.d (.bool true), st)) → ∃ v', loopD (bName 1) (sCons (sIf (tOrQ (tNotQ (tV (eCall F (aCons (eVar 1) (aCons (eC (.int 0)) (aCons (eOp2 gAdd (eC (.int 1000000)) (eC (.int 1000))) aNil)))))) (tOrQ (tCmp2 pNe (eOp1 gLen (eVar 1)) (eOp2 gAdd (eC (.int 2)) (eC (.int 1)))) (tNotQ (tChn pLe pLe (eC (.int 1)) (eOp2 gIx (eVar 1) (eC (.int 1))) (eC (.int 1000)))))) (sCons (sRet (eC (.bool false)))
 sNil) sNil)
 sNil) (xs.map tkP) [some (.d (encK js)), v] st = some (.nx, [some (.d (encK js)), v'], st) := by
    intro F xs
    induction xs with
    | nil => intro v _ _; exact ⟨v, rfl⟩
    | cons j xs ih =>
      intro v hx hF
      obtain ⟨h1, h2⟩ := hx j List.mem_cons_self
      obtain ⟨v', e⟩ := ih (some (.d (tkP j))) (fun k hk => hx k (List.mem_cons_of_mem _ hk)) fun k hk => hF k (List.mem_cons_of_mem _ hk)
      refine ⟨v', ?_⟩
      rw [List.map_cons, v_loop1]
      have ha := hF j List.mem_cons_self
      simp [tkP] at ha e ⊢
      simp [ha, h1, h2]
      exact e
  have hF : ∀ j ∈ js, sem_are_ints [.d (tkP j), .d (.int 0), .d (.int 1001000)] st = some (.d (.bool true), st) := fun j hj => by
    have := h.ok j hj
    unfold tkP
    rw [s_are_intsT _ _ _ _ (by simp)]
    simp [isIntB]
    omega
  obtain ⟨v', e⟩ := loop sem_are_ints js none (fun j hj => ⟨(h.ok j hj).1, (h.ok j hj).2.1⟩) hF
  have hl := h.len
  unfold sem_are_tasks
  generalize sem_are_ints = F at e
  simp [encK, isiB, mulOk, iSeq] at e ⊢
  simp [show ¬ (24 : Int) < js.length by omega, e]
theorem a_look (F : Fn) {V : PyData} {st : Sto} (e : F [.d V] st = some (.d (.bool true), st)) : fnS 1 1 (sCons (sIf (tNotQ (tV (eCall F (aCons (eVar 0) aNil)))) (sCons sNever
 sNil) sNil)
 sNil) [.d V] st = some (.d .none, st) := by simp [e]
theorem s_look_tasks {js : List (Int × Int)} (h : JOk js) (st : Sto) : sem_look_at_tasks [.d (encK js)] st = some (.d .none, st) := a_look sem_are_tasks (s_are_tasks h st)
theorem comp_ix (l : List Nat) (st : Sto) (t : Nat → PyData) (f : Nat → PyData) (V0 V1 V2 v3 : Option Vl) (c : Int) (h : ∀ a ∈ l, gIx (t a) (.int c) = some (f a)) : compD [4] (bName 4) tYesQ (eOp2 gIx (eVar 4) (eC (.int c))) [V0, V1, V2, v3, none] (l.map t) st = some (l.map f, st) :=
  comp_map t f (fun x => [V0, V1, V2, v3, some (.d (t x))]) l fun a ha => ⟨by simp [wipeR], by simp [h a ha]⟩
theorem a_over (L0 L1 L2 L3 : Lv) {J V : PyData} {st : Sto} {Z P1 P2 P3 : List PyData} {x1 x2 x3 : Int} (e0 : L0 [some (.d J), some (.d V), none, none, none] st = some (Z, st))
    (g1 : L1 [some (.d J), some (.d V), some (.d (.list Z)), none, none] (st ++ [none]) = some (P1, st ++ [none])) (g2 : L2 [some (.d J), some (.d V), some (.d (.list Z)), none, none] (st ++ [none]) = some (P2, st ++ [none])) (g3 : L3 [some (.d J), some (.d V), some (.d (.list Z)), none, none] (st ++ [none]) = some (P3, st ++ [none]))
    (m1 : gSum (.list P1) = some (.int x1)) (m2 : gBest PySem.W.maxD (.list P2) = some (.int x2)) (m3 : gBest PySem.W.minD (.list P3) = some (.int x3)) :
    fnS 5 2 (sCons (sAsg (eOwn L0) (bName 2)) (sFrz 2 (sCons (sRet (eOp2 gSub (eOp1 gSum (eFz L1)) (eOp2 gSub (eOp1 (gBest PySem.W.maxD) (eFz L2)) (eOp1 (gBest PySem.W.minD) (eFz L3))))) sNil))) [.d J, .d V] st = some (.d (.int (x1 - (x2 - x3))), st) := by
  refine Eq.trans (v_fnS rfl) ?_
  rw [own_frz (by simp)]
  have e0' : L0 (List.map some [Vl.d J, Vl.d V] ++ List.replicate (5 - [Vl.d J, Vl.d V].length) none) st = some (Z, st) := e0
  rw [e0']
  simp only [v_obind, v_sCons, v_sRet, v_op2, v_op1, v_eFz]
  have e1 : (List.map some [Vl.d J, Vl.d V] ++ List.replicate (5 - [Vl.d J, Vl.d V].length) none).set 2 (some (.d (.list Z))) = [some (.d J), some (.d V), some (.d (.list Z)), none, none] := rfl
  rw [e1]
  simp [g1, g2, g3, m1, m2, m3]
theorem s_told_over {js : List (Int × Int)} {z : Nat} {zs : List Nat} (hl : ∀ a ∈ z :: zs, a < js.length) (hz : (z :: zs).length ≤ 24) {D : Int} (h1 : ∃ a ∈ z :: zs, dOf js a = D) (h2 : ∀ a ∈ z :: zs, dOf js a ≤ D) (st : Sto) :
    sem_told_over [.d (encK js), .d (.list ((z :: zs).map dN))] st = some (.d (.int (((z :: zs).map (pOf js)).sum - D)), st) := by
  have c0 : compD [3] (bName 3) tYesQ (eOp2 gIx (eVar 0) (eVar 3)) [some (.d (encK js)), some (.d (.list ((z :: zs).map dN))), none, none, none] ((z :: zs).map dN) st = some ((z :: zs).map (tk js), st) :=
    comp_map dN (tk js) (fun x => [some (.d (encK js)), some (.d (.list ((z :: zs).map dN))), none, some (.d (dN x)), none]) (z :: zs) fun a ha => ⟨by simp [wipeR], by simp [ix_task (hl a ha)]⟩
  have ci : ∀ (c : Int) (f : Nat → Int) (st' : Sto), (∀ a, gIx (tk js a) (.int c) = some (.int (f a))) → lComp [4] (iSeq (eVar 2)) (bName 4) tYesQ (eOp2 gIx (eVar 4) (eC (.int c))) [some (.d (encK js)), some (.d (.list ((z :: zs).map dN))), some (.d (.list ((z :: zs).map (tk js)))), none, none] st' = some ((z :: zs).map fun a => .int (f a), st') := fun c f st' h => by
    rw [v_lComp]
    have e : iSeq (eVar 2) [some (.d (encK js)), some (.d (.list ((z :: zs).map dN))), some (.d (.list ((z :: zs).map (tk js)))), none, none] st' = some ((z :: zs).map (tk js), st') := rfl
    rw [e, v_obind]
    simp only
    rw [if_pos (by rw [List.length_map]; omega)]
    exact comp_ix (z :: zs) st' (tk js) (fun a => .int (f a)) _ _ _ _ c fun a _ => h a
  have g1 := ci 1 (pOf js) (st ++ [none]) fun a => rfl
  have g2 := ci 2 (dOf js) (st ++ [none]) fun a => rfl
  have g0 := ci 0 (fun _ => 0) (st ++ [none]) fun a => rfl
  have m1 := gSum_map (pOf js) (z :: zs)
  have m2 : gBest PySem.W.maxD (.list ((z :: zs).map fun a => .int (dOf js a))) = some (.int D) := by
    have e := gBest_max (dOf js z) (zs.map (dOf js))
    rw [foldl_max_is (D := D) (by
      obtain ⟨a, ha, e⟩ := h1
      rw [← List.map_cons, ← e]
      exact List.mem_map_of_mem ha) (fun y hy => by
      rw [← List.map_cons] at hy
      obtain ⟨a, ha, e⟩ := List.mem_map.mp hy
      rw [← e]
      exact h2 a ha), ← List.map_cons, List.map_map] at e
    exact e
  have m0 : gBest PySem.W.minD (.list ((z :: zs).map fun a => .int ((fun _ => (0 : Int)) a))) = some (.int 0) := by
    have e := gBest_min 0 (zs.map fun _ => 0)
    rw [foldl_min_const 0 _ (fun y hy => by
      obtain ⟨a, _, e⟩ := List.mem_map.mp hy
      exact e.symm)] at e
    rw [show (0 : Int) :: zs.map (fun _ => (0 : Int)) = (z :: zs).map (fun _ => (0 : Int)) from rfl, List.map_map] at e
    exact e
  have e0 : lComp [3] (iSeq (eVar 1)) (bName 3) tYesQ (eOp2 gIx (eVar 0) (eVar 3)) [some (.d (encK js)), some (.d (.list ((z :: zs).map dN))), none, none, none] st = some ((z :: zs).map (tk js), st) := by
    rw [v_lComp]
    have e : iSeq (eVar 1) [some (.d (encK js)), some (.d (.list ((z :: zs).map dN))), none, none, none] st = some ((z :: zs).map dN, st) := rfl
    rw [e, v_obind]
    simp only
    rw [if_pos (by rw [List.length_map]; omega)]
    exact c0
  have r := a_over _ _ _ _ e0 g1 g2 g0 m1 m2 m0
  rw [Int.sub_zero] at r
  exact r
end K42

end
section
set_option Elab.async false
set_option linter.all false
set_option autoImplicit false
set_option maxRecDepth 100000
set_option maxHeartbeats 1000000
namespace K42
open PySem PySem.Spec PyProof.Rows L2 QL MH
def lotN (js : List (Int × Int)) (D : Int) : List Nat := (List.range js.length).filter fun a => decide (dOf js a ≤ D)
def encE (js : List (Int × Int)) (a : Nat) : PyData := .tuple [dN a, tk js a]
theorem enum_task (js : List (Int × Int)) (ρ : Rho) (st : Sto) : iEn (eVar 0) (some (.d (encK js)) :: ρ) st = some ((List.range js.length).map (encE js), st) := by
  show some (enD 0 (js.map tkP), st) = _
  rw [enD_map]
  refine congrArg (fun l => some (l, st)) (List.map_congr_left fun a ha => ?_)
  have ha := List.mem_range.mp ha
  unfold encE tk pOf dOf
  rw [Nat.zero_add, List.getD_eq_getElem?_getD, List.getElem?_map, List.getElem?_eq_getElem ha, List.getD_eq_getElem?_getD, List.getElem?_eq_getElem ha]
  rfl
theorem lot_ev {js : List (Int × Int)} (h : js.length ≤ 24) (D : Int) (V1 v4 v5 v6 : Option Vl) (S : Sto) : lComp [6, 5] (iEn (eVar 0)) (bTup 2 (bsCons (bName 6) (bsCons (bName 5) bsNil))) (tAndQ (tCmp2 pLe (eVar 2) (eOp2 gIx (eVar 5) (eC (.int 0)))) (tCmp2 pLe (eOp2 gIx (eVar 5) (eC (.int 2))) (eVar 3))) (eVar 6)
    [some (.d (encK js)), V1, some (.d (.int 0)), some (.d (.int D)), v4, v5, v6] S = some ((lotN js D).map dN, S) := by
  rw [v_lComp, enum_task, v_obind]
  simp only
  rw [if_pos (by rw [List.length_map, List.length_range]; omega)]
  exact comp_filter (encE js) dN (fun a => decide (dOf js a ≤ D)) (fun a => [some (.d (encK js)), V1, some (.d (.int 0)), some (.d (.int D)), v4, some (.d (tk js a)), some (.d (dN a))]) (List.range js.length) fun a ha => ⟨by simp [wipeR, bTup, bsCons, bsNil, encE], by simp [tk], fun _ => by simp⟩
def lotBody : Ex := (sCons (sAsg (eOwn (lComp [6, 5] (iEn (eVar 0)) (bTup 2 (bsCons (bName 6) (bsCons (bName 5) bsNil))) (tAndQ (tCmp2 pLe (eVar 2) (eOp2 gIx (eVar 5) (eC (.int 0)))) (tCmp2 pLe (eOp2 gIx (eVar 5) (eC (.int 2))) (eVar 3))) (eVar 6))) (bName 4))
 (sFrz 4 (sCons (sIf (tCmp2 pNe (eVar 4) (eFz (lDisp aNil))) (sCons (sExpr (eMeth gApp (eVar 1) (eVar 4)))
 sNil) sNil)
 sNil)))
def lotE (js : List (Int × Int)) (D : Int) : PyData := .list ((lotN js D).map dN)
theorem gApp_any (l : List PyData) (d : PyData) (h : l.length < 1000) : gApp l d = some (l ++ [d], .none) := by
  unfold gApp
  rw [if_pos (by omega)]
theorem a_lotBody (L : Lv) {J : PyData} {st g : Sto} {found : List PyData} {b e : PyData} {lot : List Nat} {v4 v5 v6 : Option Vl} (hl : lot ≠ []) (hf : found.length < 1000)
    (eL : L [some (.d J), some (.loc st.length), some (.d b), some (.d e), v4, v5, v6] (st ++ some (.lst found) :: g) = some (lot.map dN, st ++ some (.lst found) :: g)) :
    (sCons (sAsg (eOwn L) (bName 4)) (sFrz 4 (sCons (sIf (tCmp2 pNe (eVar 4) (eFz (lDisp aNil))) (sCons (sExpr (eMeth gApp (eVar 1) (eVar 4)))
 sNil) sNil)
 sNil))) [some (.d J), some (.loc st.length), some (.d b), some (.d e), v4, v5, v6] (st ++ some (.lst found) :: g) = some (.nx, [some (.d J), some (.loc st.length), some (.d b), some (.d e), some (.d (.list (lot.map dN))), v5, v6], st ++ some (.lst (found ++ [.list (lot.map dN)])) :: (g ++ [none])) := by
  rw [own_frz (by simp), eL]
  have hne : pNe (.list (lot.map dN)) (.list []) = some true := by
    have := ne_listN lot []
    rw [List.map_nil] at this
    rw [this]
    simp [hl]
  have ha := gApp_any found (.list (lot.map dN)) hf
  generalize lot.map dN = X at hne ha
  simp [hne, ha]
theorem loop_lots {js : List (Int × Int)} (h : js.length ≤ 24) (st : Sto) : ∀ (Ds : List Int) (found : List PyData) (g : Sto) (v3 v4 v5 v6 : Option Vl), (∀ D ∈ Ds, lotN js D ≠ []) → found.length + Ds.length < 1000 →
    ∃ v3' v4' v5' v6' g', loopD (bName 3) lotBody (Ds.map .int) [some (.d (encK js)), some (.loc st.length), some (.d (.int 0)), v3, v4, v5, v6] (st ++ some (.lst found) :: g) = some (.nx, [some (.d (encK js)), some (.loc st.length), some (.d (.int 0)), v3', v4', v5', v6'], st ++ some (.lst (found ++ Ds.map (lotE js))) :: g')
  | [], found, g, v3, v4, v5, v6, _, _ => ⟨v3, v4, v5, v6, g, by simp⟩
  | D :: Ds, found, g, v3, v4, v5, v6, hD, hl => by
    simp only [List.length_cons] at hl
    have e1 := a_lotBody _ (b := .int 0) (e := .int D) (hD D List.mem_cons_self) (by omega) (lot_ev h D (some (.loc st.length)) v4 v5 v6 (st ++ some (.lst found) :: g))
    obtain ⟨w3, w4, w5, w6, g', e2⟩ := loop_lots h st Ds (found ++ [lotE js D]) (g ++ [none]) (some (.d (.int D))) (some (.d (lotE js D))) v5 v6 (fun E hE => hD E (List.mem_cons_of_mem _ hE)) (by rw [List.length_append]; simp only [List.length_singleton]; omega)
    refine ⟨w3, w4, w5, w6, g', ?_⟩
    rw [List.map_cons, v_loop1]
    have eb : bName 3 (.d (.int D)) [some (.d (encK js)), some (.loc st.length), some (.d (.int 0)), v3, v4, v5, v6] (st ++ some (.lst found) :: g) = some ([some (.d (encK js)), some (.loc st.length), some (.d (.int 0)), some (.d (.int D)), v4, v5, v6], st ++ some (.lst found) :: g) := rfl
    rw [eb, v_obind]
    have e1' : lotBody [some (.d (encK js)), some (.loc st.length), some (.d (.int 0)), some (.d (.int D)), v4, v5, v6] (st ++ some (.lst found) :: g) = _ := e1
    rw [e1', v_obind]
    simp only
    refine e2.trans ?_
    simp
def dues (js : List (Int × Int)) : List Int := ssetI (js.map Prod.snd)
theorem mem_dues {js : List (Int × Int)} {D : Int} : D ∈ dues js ↔ ∃ a, a < js.length ∧ dOf js a = D := by
  unfold dues
  rw [ssetI_mem, List.mem_map]
  constructor
  · rintro ⟨j, hj, e⟩
    obtain ⟨a, ha, e2⟩ := List.getElem_of_mem hj
    refine ⟨a, ha, ?_⟩
    unfold dOf
    rw [List.getD_eq_getElem?_getD, List.getElem?_eq_getElem ha, Option.getD_some, e2]
    exact e
  · rintro ⟨a, ha, e⟩
    refine ⟨js[a], List.getElem_mem ha, ?_⟩
    rw [← e]
    unfold dOf
    rw [List.getD_eq_getElem?_getD, List.getElem?_eq_getElem ha, Option.getD_some]
theorem sset_zero : ∀ {js : List (Int × Int)}, js ≠ [] → ssetI (js.map fun _ => (0 : Int)) = [0]
  | [], h => absurd rfl h
  | [j], _ => rfl
  | j :: k :: js, _ => by
    have ih := sset_zero (js := k :: js) (by simp)
    rw [List.map_cons]
    show insI 0 (ssetI ((k :: js).map fun _ => (0 : Int))) = _
    rw [ih]
    rfl
theorem insI_len (x : Int) : ∀ l : List Int, (insI x l).length ≤ l.length + 1
  | [] => by simp [insI]
  | y :: l => by
    have := insI_len x l
    unfold insI
    split
    · simp
    · split
      · simp
      · simp only [List.length_cons]; omega
theorem ssetI_len : ∀ l : List Int, (ssetI l).length ≤ l.length
  | [] => by simp [ssetI]
  | x :: l => by
    have h1 := ssetI_len l
    have h2 := insI_len x (ssetI l)
    simp only [ssetI, List.length_cons]
    omega
theorem lotN_ne {js : List (Int × Int)} {D : Int} (h : D ∈ dues js) : lotN js D ≠ [] := by
  obtain ⟨a, ha, e⟩ := mem_dues.mp h
  have : a ∈ lotN js D := List.mem_filter.mpr ⟨List.mem_range.mpr ha, by simp [e]⟩
  exact List.ne_nil_of_mem this
theorem a_lots (L0 L2 : Lv) (B : Ex) {J : PyData} {st g' : Sto} {Ds : List Int} {found : List PyData} {v3 v4 v5 v6 : Option Vl}
    (e0 : L0 [some (.d J), some (.loc st.length), none, none, none, none, none] (st ++ [some (.lst [])]) = some ([.int 0], st ++ [some (.lst [])]))
    (e2 : L2 [some (.d J), some (.loc st.length), some (.d (.int 0)), none, none, none, none] (st ++ [some (.lst [])]) = some (Ds.map .int, st ++ [some (.lst [])]))
    (eb : loopD (bName 3) B (Ds.map .int) [some (.d J), some (.loc st.length), some (.d (.int 0)), none, none, none, none] (st ++ [some (.lst [])]) = some (.nx, [some (.d J), some (.loc st.length), some (.d (.int 0)), v3, v4, v5, v6], st ++ some (.lst found) :: g')) :
    fnS 7 1 (sCons (sAsg (eOwn (lDisp aNil)) (bName 1))
 (sCons (sFor (iSeq (eFz L0)) (bName 2) (sCons (sFor (iSeq (eFz L2)) (bName 3) B) sNil))
 (sFrz 1 (sCons (sRet (eVar 1))
 sNil)))) [.d J] st = some (.d (.list found), st) := by
  simp [iSeq, e0, v_loop1, e2, eb]
  simp [sFrz]
theorem s_told_lots {js : List (Int × Int)} (h : js.length ≤ 24) (hne : js ≠ []) (st : Sto) : sem_told_lots [.d (encK js)] st = some (.d (.list ((dues js).map (lotE js))), st) := by
  obtain ⟨v3, v4, v5, v6, g', eb⟩ := loop_lots h st (dues js) [] [] none none none none (fun D hD => lotN_ne hD) (by
    have := ssetI_len (js.map Prod.snd)
    rw [List.length_map] at this
    unfold dues
    simp only [List.length_nil]
    omega)
  have cc : ∀ (c : Int) (f : Int × Int → Int) (V1 V2 V3 V4 V6 : Option Vl) (S : Sto), (∀ j, gIx (tkP j) (.int c) = some (.int (f j))) → (lOp1 gSSet (eFz (lComp [5] (iSeq (eVar 0)) (bName 5) tYesQ (eOp2 gIx (eVar 5) (eC (.int c)))))) [some (.d (encK js)), V1, V2, V3, V4, none, V6] S = some ((ssetI (js.map f)).map .int, S) := fun c f V1 V2 V3 V4 V6 S hf => by
    have e : iSeq (eVar 0) [some (.d (encK js)), V1, V2, V3, V4, none, V6] S = some (js.map tkP, S) := rfl
    have ec : compD [5] (bName 5) tYesQ (eOp2 gIx (eVar 5) (eC (.int c))) [some (.d (encK js)), V1, V2, V3, V4, none, V6] (js.map tkP) S = some (js.map fun j => .int (f j), S) :=
      comp_map tkP (fun j => .int (f j)) (fun j => [some (.d (encK js)), V1, V2, V3, V4, some (.d (tkP j)), V6]) js fun j _ => ⟨by simp [wipeR], by simp [hf]⟩
    have el : lComp [5] (iSeq (eVar 0)) (bName 5) tYesQ (eOp2 gIx (eVar 5) (eC (.int c))) [some (.d (encK js)), V1, V2, V3, V4, none, V6] S = some ((js.map f).map .int, S) := by
      rw [v_lComp, e, v_obind]
      simp only
      rw [if_pos (by rw [List.length_map]; omega), ec, List.map_map]
      rfl
    have es := sset_map (js.map f) (by rw [List.length_map]; omega)
    rw [v_lOp1, v_eFz, el, v_obind, v_obind, v_rd, v_obind, es]
    rfl
  have c0 := cc 0 (fun _ => 0) (some (.loc st.length)) none none none none (st ++ [some (.lst [])]) fun j => rfl
  rw [sset_zero hne] at c0
  exact a_lots _ _ lotBody c0 (cc 2 Prod.snd (some (.loc st.length)) (some (.d (.int 0))) none none none (st ++ [some (.lst [])]) fun j => rfl) eb
end K42

end
section
set_option Elab.async false
set_option linter.all false
set_option autoImplicit false
set_option maxRecDepth 100000
set_option maxHeartbeats 1000000
namespace K42
open PySem PySem.Spec PyProof.Rows L2 QL MH
theorem exists_max (f : Nat → Int) : ∀ {l : List Nat}, l ≠ [] → ∃ a ∈ l, ∀ b ∈ l, f b ≤ f a
  | [], h => absurd rfl h
  | [a], _ => ⟨a, List.mem_cons_self, fun b hb => by rw [List.mem_singleton.mp hb]; exact Int.le_refl _⟩
  | a :: b :: l, _ => by
    obtain ⟨c, hc, h⟩ := exists_max f (l := b :: l) (by simp)
    by_cases q : f c ≤ f a
    · exact ⟨a, List.mem_cons_self, fun x hx => by
        rcases List.mem_cons.mp hx with e | e
        · rw [e]; exact Int.le_refl _
        · exact Int.le_trans (h x e) q⟩
    · exact ⟨c, List.mem_cons_of_mem _ hc, fun x hx => by
        rcases List.mem_cons.mp hx with e | e
        · rw [e]; omega
        · exact h x e⟩
theorem feas_of_dues {p d : Nat → Int} {l : List Nat} (h : ∀ a ∈ l, cnt p d (d a) l ≤ d a) : Feas p d l := fun D hD => by
  by_cases hx : ∃ j ∈ l, d j ≤ D
  · obtain ⟨j, hj, hjD⟩ := hx
    obtain ⟨a, ha, hm⟩ := exists_max d (l := l.filter fun a => decide (d a ≤ D)) (List.ne_nil_of_mem (List.mem_filter.mpr ⟨hj, by simpa using hjD⟩))
    obtain ⟨ha1, ha2⟩ := List.mem_filter.mp ha
    have ha2 : d a ≤ D := by simpa using ha2
    have e : cnt p d D l = cnt p d (d a) l := tot_congr fun b hb => by
      by_cases q : d b ≤ D
      · have := hm b (List.mem_filter.mpr ⟨hb, by simpa using q⟩)
        simp [q, this]
      · have : ¬ d b ≤ d a := by omega
        simp [q, this]
    rw [e]
    exact Int.le_trans (h a ha1) ha2
  · rw [cnt_none hx]
    exact hD
theorem sum_filter (p d : Nat → Int) (D : Int) : ∀ l : List Nat, ((l.filter fun a => decide (d a ≤ D)).map p).sum = cnt p d D l
  | [] => rfl
  | a :: l => by
    have ih := sum_filter p d D l
    unfold MH.cnt at *
    by_cases q : d a ≤ D
    · rw [List.filter_cons_of_pos (by simpa using q)]
      simp only [List.map_cons, List.sum_cons, tot, if_pos q, ih]
    · rw [List.filter_cons_of_neg (by simpa using q)]
      simp only [tot, if_neg q, ih]
      omega
def ov (js : List (Int × Int)) (D : Int) : Int := ((lotN js D).map (pOf js)).sum - D
def wBody (F : Fn) : Ex := (sCons (sAsg (eCall F (aCons (eVar 0) (aCons (eVar 2) aNil))) (bName 3))
 (sCons (sIf (tOrQ (tCmp2 pIs (eOp2 gIx (eVar 1) (eC (.int 0))) (eC .none)) (tCmp2 pGt (eVar 3) (eOp2 gIx (eVar 1) (eC (.int 0))))) (sCons (sAsg (eTup (aCons (eVar 3) (aCons (eVar 2) aNil))) (bName 1))
 sNil) sNil)
 sNil))
@[simp] theorem pIs_int (i : Int) : pIs (.int i) .none = some false := rfl
@[simp] theorem pIs_none : pIs .none .none = some true := rfl
@[simp] theorem pIsNot_int (i : Int) : pIsNot (.int i) .none = some true := rfl
theorem wB_none (F : Fn) {J b V : PyData} {st : Sto} {o : Int} {v3 : Option Vl} (e : F [.d J, .d V] st = some (.d (.int o), st)) : wBody F [some (.d J), some (.d (.tuple [.none, b])), some (.d V), v3] st = some (.nx, [some (.d J), some (.d (.tuple [.int o, V])), some (.d V), some (.d (.int o))], st) := by
  simp [wBody, e]
theorem wB_gt (F : Fn) {J b V : PyData} {st : Sto} {o m : Int} {v3 : Option Vl} (e : F [.d J, .d V] st = some (.d (.int o), st)) (h : m < o) : wBody F [some (.d J), some (.d (.tuple [.int m, b])), some (.d V), v3] st = some (.nx, [some (.d J), some (.d (.tuple [.int o, V])), some (.d V), some (.d (.int o))], st) := by
  simp [wBody, e, h]
theorem wB_le (F : Fn) {J b V : PyData} {st : Sto} {o m : Int} {v3 : Option Vl} (e : F [.d J, .d V] st = some (.d (.int o), st)) (h : ¬ m < o) : wBody F [some (.d J), some (.d (.tuple [.int m, b])), some (.d V), v3] st = some (.nx, [some (.d J), some (.d (.tuple [.int m, b])), some (.d V), some (.d (.int o))], st) := by
  simp [wBody, e, h]
theorem loop_worst (F : Fn) {J : PyData} {st : Sto} (E : Int → PyData) (o : Int → Int) : ∀ (Ds : List Int) (m : Int) (b : PyData) (v2 v3 : Option Vl), (∀ D ∈ Ds, F [.d J, .d (E D)] st = some (.d (.int (o D)), st)) →
    ∃ m' b' v2' v3', loopD (bName 2) (wBody F) (Ds.map E) [some (.d J), some (.d (.tuple [.int m, b])), v2, v3] st = some (.nx, [some (.d J), some (.d (.tuple [.int m', b'])), v2', v3'], st) ∧ m ≤ m' ∧ (∀ D ∈ Ds, o D ≤ m') ∧ (m' = m ∨ ∃ D ∈ Ds, m' = o D) ∧ (b' = b ∨ ∃ D ∈ Ds, b' = E D)
  | [], m, b, v2, v3, _ => ⟨m, b, v2, v3, rfl, Int.le_refl _, (fun D h => by cases h), .inl rfl, .inl rfl⟩
  | D :: Ds, m, b, v2, v3, h => by
    have e := h D List.mem_cons_self
    have h' : ∀ E' ∈ Ds, F [.d J, .d (E E')] st = some (.d (.int (o E')), st) := fun E' hE => h E' (List.mem_cons_of_mem _ hE)
    have eb : ∀ w, bName 2 (.d (E D)) [some (.d J), some (.d w), v2, v3] st = some ([some (.d J), some (.d w), some (.d (E D)), v3], st) := fun w => rfl
    by_cases q : m < o D
    · obtain ⟨m', b', w2, w3, r1, r2, r3, r4, r5⟩ := loop_worst F E o Ds (o D) (E D) (some (.d (E D))) (some (.d (.int (o D)))) h'
      refine ⟨m', b', w2, w3, ?_, by omega, fun E' hE => ?_, ?_, ?_⟩
      · rw [List.map_cons, v_loop1, eb, v_obind, wB_gt F e q, v_obind]
        exact r1
      · rcases List.mem_cons.mp hE with z | z
        · rw [z]; exact r2
        · exact r3 E' z
      · rcases r4 with z | ⟨E', z1, z2⟩
        · exact .inr ⟨D, List.mem_cons_self, z⟩
        · exact .inr ⟨E', List.mem_cons_of_mem _ z1, z2⟩
      · rcases r5 with z | ⟨E', z1, z2⟩
        · exact .inr ⟨D, List.mem_cons_self, z⟩
        · exact .inr ⟨E', List.mem_cons_of_mem _ z1, z2⟩
    · obtain ⟨m', b', w2, w3, r1, r2, r3, r4, r5⟩ := loop_worst F E o Ds m b (some (.d (E D))) (some (.d (.int (o D)))) h'
      refine ⟨m', b', w2, w3, ?_, r2, fun E' hE => ?_, ?_, ?_⟩
      · rw [List.map_cons, v_loop1, eb, v_obind, wB_le F e q, v_obind]
        exact r1
      · rcases List.mem_cons.mp hE with z | z
        · rw [z]; omega
        · exact r3 E' z
      · rcases r4 with z | ⟨E', z1, z2⟩
        · exact .inl z
        · exact .inr ⟨E', List.mem_cons_of_mem _ z1, z2⟩
      · rcases r5 with z | ⟨E', z1, z2⟩
        · exact .inl z
        · exact .inr ⟨E', List.mem_cons_of_mem _ z1, z2⟩
theorem a_worst (F1 F2 : Fn) {J r : PyData} {st : Sto} {xs : List PyData} {v2 v3 : Option Vl} (e1 : F1 [.d J] st = some (.d (.list xs), st))
    (e2 : loopD (bName 2) (wBody F2) xs [some (.d J), some (.d (.tuple [.none, .list []])), none, none] st = some (.nx, [some (.d J), some (.d r), v2, v3], st)) :
    fnS 4 1 (sCons (sAsg (eTup (aCons (eC .none) (aCons (eFz (lDisp aNil)) aNil))) (bName 1))
 (sCons (sFor (iSeq (eCall F1 (aCons (eVar 0) aNil))) (bName 2) (wBody F2))
 (sCons (sRet (eVar 1))
 sNil))) [.d J] st = some (.d r, st) := by
  generalize wBody F2 = B at e2
  simp [iSeq, e1, e2]
theorem feas_ov {js : List (Int × Int)} (h : JOk js) : (∀ D ∈ dues js, ov js D ≤ 0) ↔ Feas (pOf js) (dOf js) (List.range js.length) := by
  have e : ∀ D, ov js D = cnt (pOf js) (dOf js) D (List.range js.length) - D := fun D => by
    unfold ov lotN
    rw [sum_filter]
  constructor
  · intro h'
    refine feas_of_dues fun a ha => ?_
    have := h' (dOf js a) (mem_dues.mpr ⟨a, List.mem_range.mp ha, rfl⟩)
    rw [e] at this
    omega
  · intro F D hD
    rw [e]
    obtain ⟨a, ha, ea⟩ := mem_dues.mp hD
    have h0 := getD_ok h ha
    have := F D (by omega)
    omega
theorem s_told_worst {js : List (Int × Int)} (h : JOk js) (hne : js ≠ []) (st : Sto) : ∃ m D, sem_told_worst [.d (encK js)] st = some (.d (.tuple [.int m, lotE js D]), st) ∧ (m ≤ 0 ↔ Feas (pOf js) (dOf js) (List.range js.length)) := by
  have hF : ∀ D ∈ dues js, sem_told_over [.d (encK js), .d (lotE js D)] st = some (.d (.int (ov js D)), st) := fun D hD => by
    have h0 := lotN_ne hD
    have hm : ∀ a ∈ lotN js D, a < js.length ∧ dOf js a ≤ D := fun a ha => by
      obtain ⟨q1, q2⟩ := List.mem_filter.mp ha
      exact ⟨List.mem_range.mp q1, by simpa using q2⟩
    have hlen : (lotN js D).length ≤ 24 := by
      have := List.length_filter_le (fun a => decide (dOf js a ≤ D)) (List.range js.length)
      have h24 := h.len
      rw [List.length_range] at this
      unfold lotN
      omega
    obtain ⟨a, ha, e⟩ := mem_dues.mp hD
    have hex : ∃ a ∈ lotN js D, dOf js a = D := ⟨a, List.mem_filter.mpr ⟨List.mem_range.mpr ha, by simp [e]⟩, e⟩
    unfold ov lotE
    revert h0 hm hlen hex
    cases lotN js D with
    | nil => intro h0; exact absurd rfl h0
    | cons z zs => exact fun _ hm hlen hex => s_told_over (fun a ha => (hm a ha).1) hlen hex (fun a ha => (hm a ha).2) st
  obtain ⟨D0, hD0⟩ : ∃ D, D ∈ dues js := by
    cases js with
    | nil => exact absurd rfl hne
    | cons j js => exact ⟨dOf (j :: js) 0, mem_dues.mpr ⟨0, by simp, rfl⟩⟩
  have el := s_told_lots h.len hne st
  have key : ∃ m D v2 v3, loopD (bName 2) (wBody sem_told_over) ((dues js).map (lotE js)) [some (.d (encK js)), some (.d (.tuple [.none, .list []])), none, none] st = some (.nx, [some (.d (encK js)), some (.d (.tuple [.int m, lotE js D])), v2, v3], st) ∧ (∀ D ∈ dues js, ov js D ≤ m) ∧ ∃ D ∈ dues js, m = ov js D := by
    revert hF hD0
    cases hd : dues js with
    | nil => intro _ q; cases q
    | cons D Ds =>
      intro hF _
      have e := hF D List.mem_cons_self
      obtain ⟨m', b', w2, w3, r1, r2, r3, r4, r5⟩ := loop_worst sem_told_over (J := encK js) (st := st) (lotE js) (ov js) Ds (ov js D) (lotE js D) (some (.d (lotE js D))) (some (.d (.int (ov js D)))) fun E hE => hF E (List.mem_cons_of_mem _ hE)
      have hb : ∃ E, b' = lotE js E := by
        rcases r5 with z | ⟨E, _, z⟩
        · exact ⟨D, z⟩
        · exact ⟨E, z⟩
      obtain ⟨E, rfl⟩ := hb
      refine ⟨m', E, w2, w3, ?_, fun E' hE => ?_, ?_⟩
      · have eb : bName 2 (.d (lotE js D)) [some (.d (encK js)), some (.d (.tuple [.none, .list []])), none, none] st = some ([some (.d (encK js)), some (.d (.tuple [.none, .list []])), some (.d (lotE js D)), none], st) := rfl
        rw [List.map_cons, v_loop1, eb, v_obind, wB_none sem_told_over e, v_obind]
        exact r1
      · rcases List.mem_cons.mp hE with z | z
        · rw [z]; exact r2
        · exact r3 E' z
      · rcases r4 with z | ⟨E', z1, z2⟩
        · exact ⟨D, List.mem_cons_self, z⟩
        · exact ⟨E', List.mem_cons_of_mem _ z1, z2⟩
  obtain ⟨m, D, v2, v3, k1, k2, D', k3, k4⟩ := key
  refine ⟨m, D, a_worst sem_told_lots sem_told_over el k1, ?_⟩
  rw [← feas_ov h]
  constructor
  · intro q E hE
    exact Int.le_trans (k2 E hE) q
  · intro q
    rw [k4]
    exact q D' k3
theorem a_too (F1 F2 : Fn) {J r : PyData} {m : Int} {st : Sto} (e1 : F1 [.d J] st = some (.d .none, st)) (e2 : F2 [.d J] st = some (.d (.tuple [.int m, r]), st)) : fnS 1 1 (sCons (sExpr (eCall F1 (aCons (eVar 0) aNil)))
 (sCons (sRet (eOp2 gIx (eCall F2 (aCons (eVar 0) aNil)) (eC (.int 0))))
 sNil)) [.d J] st = some (.d (.int m), st) := by simp [e1, e2]
theorem s_too_long {js : List (Int × Int)} (h : JOk js) (hne : js ≠ []) (st : Sto) : ∃ m, sem_too_long [.d (encK js)] st = some (.d (.int m), st) ∧ (m ≤ 0 ↔ Feas (pOf js) (dOf js) (List.range js.length)) := by
  obtain ⟨m, D, e, f⟩ := s_told_worst h hne st
  exact ⟨m, a_too sem_look_at_tasks sem_told_worst (s_look_tasks h st) e, f⟩
end K42

end
section
set_option Elab.async false
set_option linter.all false
set_option autoImplicit false
set_option maxRecDepth 100000
set_option maxHeartbeats 1000000
namespace K42
open PySem PySem.Spec PyProof.Rows L2 QL MH
section
variable (st g : Sto) (l : List PyData) (x : Option Cell)
@[simp] theorem v_rdc2 : rd (.loc (st.length + 1)) (st ++ x :: some (.lst l) :: g) = some (.list l) := by
  unfold rd
  simp
@[simp] theorem v_getc2 (y : Option Cell) : (st ++ x :: y :: g)[st.length + 1]? = some y := by simp
@[simp] theorem v_setc2 (y z : Option Cell) : (st ++ x :: y :: g).set (st.length + 1) z = st ++ x :: z :: g := by
  rw [List.set_append_right _ _ (by omega)]
  simp
end
def fndS : Ex := (sIf (tAndQ (tCmp2 pNe (eVar 3) (eFz (lDisp aNil))) (tAndQ (tCmp2 pEq (eOp2 gIx (eOp2 gIx (eVar 3) (eOp1 gNeg (eC (.int 1)))) (eC (.int 0))) (eVar 6)) (tCmp2 pEq (eOp2 gIx (eOp2 gIx (eVar 3) (eOp1 gNeg (eC (.int 1)))) (eC (.int 2))) (eVar 2)))) (sCons (sAsg (eTup (aCons (eVar 6) (aCons (eOp2 gIx (eOp2 gIx (eVar 3) (eOp1 gNeg (eC (.int 1)))) (eC (.int 1))) (aCons (eOp2 gAdd (eVar 2) (eVar 7)) aNil)))) (bSub (eVar 3) (eOp1 gNeg (eC (.int 1)))))
 sNil) (sCons (sExpr (eMeth gApp (eVar 3) (eTup (aCons (eVar 6) (aCons (eVar 2) (aCons (eOp2 gAdd (eVar 2) (eVar 7)) aNil))))))
 sNil))
theorem ne_nil_l (x : PyData) (xs : List PyData) : pNe (.list (x :: xs)) (.list []) = some true := by
  unfold pNe
  rw [if_pos (by simp [PyData.depth, PyData.depthAll])]
  simp [PyData.eqv, PyData.eqvAll]
theorem ne_nil_snoc (x : PyData) (xs : List PyData) : pNe (.list (xs ++ [x])) (.list []) = some true := by
  cases xs with
  | nil => exact ne_nil_l _ _
  | cons y ys => exact ne_nil_l _ _
theorem ne_nil_n : pNe (.list []) (.list []) = some false := by
  unfold pNe
  rw [if_pos (by simp [PyData.depth, PyData.depthAll])]
  simp [PyData.eqv, PyData.eqvAll]
theorem ixN_last (n : Nat) : ixN (n + 1) (-1) = some n := by
  unfold ixN
  rw [if_neg (by omega), if_pos (by omega)]
  congr 1
  omega
theorem v_bSub1 {x : PyData} {ρ : Rho} {st g : Sto} {A : Option Cell} {xs : List PyData} {y : PyData} {v : Option Vl} (h : ρ[3]? = some (some (.loc (st.length + 1)))) : bSub (eVar 3) (eOp1 gNeg (eC (.int 1))) (.d x) ρ (st ++ A :: some (.lst (xs ++ [y])) :: g) = some (ρ, st ++ A :: some (.lst (xs ++ [x])) :: g) := by
  unfold bSub
  rw [v_var h]
  simp only [v_obind, v_op1, v_eC, v_rd, v_neg, v_datV, v_getc2]
  rw [List.length_append, List.length_singleton, ixN_last, Option.map_some, v_setc2, List.set_append_right _ _ (Nat.le_refl _)]
  simp
theorem ev_fnd {J : Option Vl} {V1 v4 v5 v8 v9 v10 : Option Vl} {here t long : Int} {st g : Sto} {A : Option Cell} {found : List (Int × Int × Int)} (hf : found.length < 999) :
    ∃ found' : List (Int × Int × Int), found'.length ≤ found.length + 1 ∧ fndS [J, V1, some (.d (.int here)), some (.loc (st.length + 1)), v4, v5, some (.d (.int t)), some (.d (.int long)), v8, v9, v10] (st ++ A :: some (.lst (found.map dT)) :: g) = some (.nx, [J, V1, some (.d (.int here)), some (.loc (st.length + 1)), v4, v5, some (.d (.int t)), some (.d (.int long)), v8, v9, v10], st ++ A :: some (.lst (found'.map dT)) :: g) := by
  have happ : gApp (found.map dT) (.tuple [.int t, .int here, .int (here + long)]) = some ((found ++ [(t, here, here + long)]).map dT, .none) := by
    rw [gApp_any _ _ (by rw [List.length_map]; omega), List.map_append]
    rfl
  rcases List.eq_nil_or_concat found with e | ⟨fs, ⟨a, b, c⟩, e⟩
  · subst e
    refine ⟨[(t, here, here + long)], by simp, ?_⟩
    have happ' : gApp [] (.tuple [.int t, .int here, .int (here + long)]) = some ([(t, here, here + long)].map dT, .none) := happ
    simp [fndS, ne_nil_n, happ']
  · rw [List.concat_eq_append] at e
    have e3 : found.map dT = fs.map dT ++ [.tuple [.int a, .int b, .int c]] := by rw [e, List.map_append]; rfl
    have en := ne_nil_snoc (.tuple [.int a, .int b, .int c]) (fs.map dT)
    by_cases q : a = t ∧ c = here
    · obtain ⟨q1, q2⟩ := q
      subst q1 q2
      refine ⟨fs ++ [(a, b, c + long)], by rw [e]; simp, ?_⟩
      rw [e3, List.map_append]
      have es : ∀ ρ : Rho, ρ[3]? = some (some (.loc (st.length + 1))) → bSub (eVar 3) (eOp1 gNeg (eC (.int 1))) (.d (.tuple [.int a, .int b, .int (c + long)])) ρ (st ++ A :: some (.lst (fs.map dT ++ [.tuple [.int a, .int b, .int c]])) :: g) = some (ρ, st ++ A :: some (.lst (fs.map dT ++ [.tuple [.int a, .int b, .int (c + long)]])) :: g) := fun ρ h => v_bSub1 (v := none) h
      have es' := es [J, V1, some (.d (.int c)), some (.loc (st.length + 1)), v4, v5, some (.d (.int a)), some (.d (.int long)), v8, v9, v10] rfl
      unfold fndS
      generalize bSub (eVar 3) (eOp1 gNeg (eC (.int 1))) = BS at es' ⊢
      have e4 : [(a, b, c + long)].map dT = [.tuple [.int a, .int b, .int (c + long)]] := rfl
      rw [e4]
      generalize fs.map dT = X at en es' ⊢
      simp [en, es']
    · refine ⟨found ++ [(t, here, here + long)], by simp, ?_⟩
      unfold fndS
      rw [e3] at happ ⊢
      generalize (found ++ [(t, here, here + long)]).map dT = Y at happ ⊢
      generalize fs.map dT = X at en happ ⊢
      by_cases q1 : a = t
      · have q2 : ¬ c = here := fun z => q ⟨q1, z⟩
        subst q1
        simp [en, q2, happ]
      · simp [en, q1, happ]
theorem pEq_ne {is : List Nat} (h : is ≠ []) : pEq (.list (is.map dN)) (.list []) = some false := by
  have := eq_listN is []
  rw [List.map_nil] at this
  rw [this]
  simp [h]
theorem own_frz' {i : Nat} {L : Lv} {F : Ex} {ρ : Rho} {st : Sto} {ds : List PyData} (hi : i < ρ.length) (h : L ρ st = some (ds, st)) : sCons (sAsg (eOwn L) (bName i)) (sFrz i F) ρ st = F (ρ.set i (some (.d (.list ds)))) (st ++ [none]) := by
  rw [own_frz hi, h]
  rfl
theorem ixN_n {n t : Nat} (h : t < n) : ixN n ((t : Nat) : Int) = some t := by
  unfold ixN
  rw [if_pos (by omega), if_pos (by omega)]
  simp
theorem ev_augL {J V4 V5 v8 v9 v10 : Option Vl} {here : Int} {V3 : Option Vl} {t : Nat} {st g : Sto} {lf : List Int} (ht : t < lf.length) :
    sAugIx gSub (eVar 1) (eVar 6) (eVar 7) [J, some (.loc st.length), some (.d (.int here)), V3, V4, V5, some (.d (dN t)), some (.d (.int lf[t])), v8, v9, v10] (st ++ some (.lst (lf.map .int)) :: g) = some (.nx, [J, some (.loc st.length), some (.d (.int here)), V3, V4, V5, some (.d (dN t)), some (.d (.int lf[t])), v8, v9, v10], st ++ some (.lst ((lf.set t 0).map .int)) :: g) := by
  have e1 : ixN (lf.map PyData.int).length ((t : Nat) : Int) = some t := ixN_n (by rw [List.length_map]; exact ht)
  have e2 : (lf.map PyData.int)[t]? = some (.int lf[t]) := by rw [List.getElem?_map, List.getElem?_eq_getElem ht]; rfl
  unfold sAugIx
  simp only [v_var0, v_varS, Option.map_some, v_obind, dN, v_getc, e1, e2, v_datV, QL.v_sub, Int.sub_self, v_setc]
  rw [List.map_set]
def brkBody (L4 L5 : Lv) (EB EM : Ev) : Ex := (sCons (sAsg (eOwn L4) (bName 4))
 (sFrz 4 (sCons (sAsg (eOwn L5) (bName 5))
 (sFrz 5 (sCons (sIf (tCmp2 pEq (eVar 4) (eFz (lDisp aNil))) (sCons (sAsg (eOp1 (gBest PySem.W.minD) (eVar 5)) (bName 2))
 (sCons sCnt
 sNil)) sNil)
 (sCons (sAsg EB (bName 6))
 (sCons (sAsg EM (bName 7))
 (sCons fndS
 (sCons (sAugIx gSub (eVar 1) (eVar 6) (eVar 7))
 (sCons (sAug 2 gAddI (eVar 7))
 sNil))))))))))
theorem ev_brk (L4 L5 : Lv) (EB EM : Ev) {J v4 v5 v6 v7 v8 v9 v10 : Option Vl} {here : Int} {t : Nat} {st g : Sto} {lf : List Int} {is : List Nat} {found : List (Int × Int × Int)} (ht : t < lf.length) (hf : found.length < 999) (hne : is ≠ [])
    (e4 : L4 [J, some (.loc st.length), some (.d (.int here)), some (.loc (st.length + 1)), v4, v5, v6, v7, v8, v9, v10] (st ++ some (.lst (lf.map .int)) :: some (.lst (found.map dT)) :: g) = some (is.map dN, st ++ some (.lst (lf.map .int)) :: some (.lst (found.map dT)) :: g))
    (e5 : ∀ g', L5 [J, some (.loc st.length), some (.d (.int here)), some (.loc (st.length + 1)), some (.d (.list (is.map dN))), v5, v6, v7, v8, v9, v10] (st ++ some (.lst (lf.map .int)) :: g') = some ([], st ++ some (.lst (lf.map .int)) :: g'))
    (e6 : ∀ S, EB [J, some (.loc st.length), some (.d (.int here)), some (.loc (st.length + 1)), some (.d (.list (is.map dN))), some (.d (.list [])), v6, v7, v8, v9, v10] S = some (.d (dN t), S))
    (e7 : ∀ g', EM [J, some (.loc st.length), some (.d (.int here)), some (.loc (st.length + 1)), some (.d (.list (is.map dN))), some (.d (.list [])), some (.d (dN t)), v7, v8, v9, v10] (st ++ some (.lst (lf.map .int)) :: g') = some (.d (.int lf[t]), st ++ some (.lst (lf.map .int)) :: g')) :
    ∃ (found' : List (Int × Int × Int)) (v4' v5' v6' v7' : Option Vl) (g' : Sto), found'.length ≤ found.length + 1 ∧ brkBody L4 L5 EB EM [J, some (.loc st.length), some (.d (.int here)), some (.loc (st.length + 1)), v4, v5, v6, v7, v8, v9, v10] (st ++ some (.lst (lf.map .int)) :: some (.lst (found.map dT)) :: g) =
      some (.nx, [J, some (.loc st.length), some (.d (.int (here + lf[t]))), some (.loc (st.length + 1)), v4', v5', v6', v7', v8, v9, v10], st ++ some (.lst ((lf.set t 0).map .int)) :: some (.lst (found'.map dT)) :: g') := by
  have hne' := pEq_ne hne
  obtain ⟨found', hl, ef⟩ := ev_fnd (J := J) (V1 := some (.loc st.length)) (v4 := some (.d (.list (is.map dN)))) (v5 := some (.d (.list []))) (v8 := v8) (v9 := v9) (v10 := v10) (here := here) (t := (t : Int)) (long := lf[t]) (st := st) (g := g ++ [none] ++ [none]) (A := some (.lst (lf.map .int))) hf
  have eg := ev_augL (J := J) (V4 := some (.d (.list (is.map dN)))) (V5 := some (.d (.list []))) (v8 := v8) (v9 := v9) (v10 := v10) (here := here) (V3 := some (.loc (st.length + 1))) (st := st) (g := some (.lst (found'.map dT)) :: (g ++ [none] ++ [none])) ht
  refine ⟨found', some (.d (.list (is.map dN))), some (.d (.list [])), some (.d (dN t)), some (.d (.int lf[t])), g ++ [none] ++ [none], hl, ?_⟩
  have e5' := e5 (some (.lst (found.map dT)) :: (g ++ [none]))
  have e6' := e6 (st ++ some (.lst (lf.map .int)) :: some (.lst (found.map dT)) :: (g ++ [none] ++ [none]))
  have e7' := e7 (some (.lst (found.map dT)) :: (g ++ [none] ++ [none]))
  have ef' : fndS [J, some (.loc st.length), some (.d (.int here)), some (.loc (st.length + 1)), some (.d (.list (is.map dN))), some (.d (.list [])), some (.d (dN t)), some (.d (.int lf[t])), v8, v9, v10] (st ++ some (.lst (lf.map .int)) :: some (.lst (found.map dT)) :: (g ++ [none] ++ [none])) = some (.nx, [J, some (.loc st.length), some (.d (.int here)), some (.loc (st.length + 1)), some (.d (.list (is.map dN))), some (.d (.list [])), some (.d (dN t)), some (.d (.int lf[t])), v8, v9, v10], st ++ some (.lst (lf.map .int)) :: some (.lst (found'.map dT)) :: (g ++ [none] ++ [none])) := ef
  unfold brkBody
  rw [own_frz' (by simp) e4]
  have a1 : (st ++ some (Cell.lst (lf.map PyData.int)) :: some (.lst (found.map dT)) :: g) ++ [none] = st ++ some (.lst (lf.map .int)) :: some (.lst (found.map dT)) :: (g ++ [none]) := by simp
  have a2 : (st ++ some (Cell.lst (lf.map PyData.int)) :: some (.lst (found.map dT)) :: (g ++ [none])) ++ [none] = st ++ some (.lst (lf.map .int)) :: some (.lst (found.map dT)) :: (g ++ [none] ++ [none]) := by simp
  rw [a1]
  simp only [List.set_cons_succ, List.set_cons_zero]
  rw [own_frz' (by simp) e5', a2]
  simp only [List.set_cons_succ, List.set_cons_zero]
  generalize fndS = FS at ef'
  generalize sAugIx gSub (eVar 1) (eVar 6) (eVar 7) = AG at eg
  generalize (lf.set t 0).map PyData.int = W at eg
  generalize lf.map PyData.int = X at eg ef' e7' e6'
  generalize found.map dT = Y at eg ef' e7' e6'
  generalize found'.map dT = Z at eg ef' e7' e6'
  generalize is.map dN = I at eg ef' e7' e6' hne'
  generalize lf[t] = lt at eg ef' e7'
  generalize dN t = T at eg ef' e7' e6'
  generalize g ++ [none] ++ [none] = G at eg ef' e7' e6'
  rw [v_sCons, v_sIf]
  simp [hne']
  rw [e6']
  simp only [v_obind, Option.bind_some, v_bName, List.set_cons_succ, List.set_cons_zero]
  rw [e7']
  simp only [v_obind, Option.bind_some, v_bName, List.set_cons_succ, List.set_cons_zero]
  rw [ef']
  simp only [v_obind, Option.bind_some]
  rw [eg]
  simp
end K42

end
section
set_option Elab.async false
set_option linter.all false
set_option autoImplicit false
set_option maxRecDepth 100000
set_option maxHeartbeats 1000000
namespace K42
open PySem PySem.Spec PyProof.Rows L2 QL MH
def cp (lf : List Int) : Nat := lf.countP fun x => decide (0 < x)
theorem cp_set : ∀ {lf : List Int} {t : Nat} (h : t < lf.length), 0 < lf[t] → cp (lf.set t 0) + 1 = cp lf
  | [], t, h, _ => by simp at h
  | x :: lf, 0, _, hp => by
    have hp : 0 < x := hp
    unfold cp
    simp [List.countP_cons, hp]
  | x :: lf, t + 1, h, hp => by
    have ih := cp_set (lf := lf) (t := t) (by simpa using h) (by simpa using hp)
    unfold cp at *
    simp only [List.set_cons_succ, List.countP_cons]
    omega
theorem pos_of_sum : ∀ {lf : List Int}, 0 < lf.sum → ∃ t, ∃ h : t < lf.length, 0 < lf[t]
  | [], h => by simp at h
  | x :: lf, h => by
    by_cases q : 0 < x
    · exact ⟨0, by simp, q⟩
    · rw [List.sum_cons] at h
      obtain ⟨t, h1, h2⟩ := pos_of_sum (lf := lf) (by omega)
      exact ⟨t + 1, by simpa using h1, by simpa using h2⟩
def begN (n : Nat) (lf : List Int) : List Nat := (List.range n).filter fun a => decide (0 < lf.getD a 0)
noncomputable section
def cL4 : Lv := lComp [9, 8] (iEn (eVar 0)) (bTup 2 (bsCons (bName 9) (bsCons (bName 8) bsNil))) (tAndQ (tCmp2 pGt (eOp2 gIx (eVar 1) (eVar 9)) (eC (.int 0))) (tCmp2 pLe (eOp2 gIx (eVar 8) (eC (.int 0))) (eVar 2))) (eVar 9)
def cL5 : Lv := lComp [9, 8] (iEn (eVar 0)) (bTup 2 (bsCons (bName 9) (bsCons (bName 8) bsNil))) (tAndQ (tCmp2 pGt (eOp2 gIx (eVar 1) (eVar 9)) (eC (.int 0))) (tCmp2 pGt (eOp2 gIx (eVar 8) (eC (.int 0))) (eVar 2))) (eOp2 gIx (eVar 8) (eC (.int 0)))
def cEB : Ev := eBestK PySem.W.dataLt (eVar 4) [("tasks", 0)] "at" (kTwo (kIx (kIx (kVar "tasks") (kVar "at")) (kInt 2)) (kVar "at"))
def cEM : Ev := eOp1 (gBest PySem.W.minD) (eFz (lDisp (aCons (eOp2 gIx (eVar 1) (eVar 6)) (aStar (eFz (lComp [10] (iSeq (eVar 5)) (bName 10) tYesQ (eOp2 gSub (eVar 10) (eVar 2)))) aNil))))
end
theorem at_left {lf : List Int} {a : Nat} (h : a < lf.length) : atI (lf.map PyData.int) ((a : Nat) : Int) = some (.int (lf.getD a 0)) := by
  rw [atI_n, List.getElem?_map, List.getElem?_eq_getElem h, List.getD_eq_getElem?_getD, List.getElem?_eq_getElem h]
  rfl
theorem ev_L4 {js : List (Int × Int)} (h : js.length ≤ 24) {lf : List Int} (hl : lf.length = js.length) {here : Int} (h0 : 0 ≤ here) (V3 v4 v5 v6 v7 v8 v9 v10 : Option Vl) (st g : Sto) :
    cL4 [some (.d (encK js)), some (.loc st.length), some (.d (.int here)), V3, v4, v5, v6, v7, v8, v9, v10] (st ++ some (.lst (lf.map .int)) :: g) = some ((begN js.length lf).map dN, st ++ some (.lst (lf.map .int)) :: g) := by
  unfold cL4
  rw [v_lComp, enum_task, v_obind]
  simp only
  rw [if_pos (by rw [List.length_map, List.length_range]; omega)]
  exact comp_filter (encE js) dN (fun a => decide (0 < lf.getD a 0)) (fun a => [some (.d (encK js)), some (.loc st.length), some (.d (.int here)), V3, v4, v5, v6, v7, some (.d (tk js a)), some (.d (dN a)), v10]) (List.range js.length) fun a ha => ⟨by simp [wipeR, bTup, bsCons, bsNil, encE], by
    have e := at_left (lf := lf) (a := a) (by rw [hl]; exact List.mem_range.mp ha)
    generalize lf.map PyData.int = X at e ⊢
    simp [tk, dN, e, h0]
    split <;> simp_all, fun _ => by simp⟩
theorem ev_L5 {js : List (Int × Int)} (h : js.length ≤ 24) {lf : List Int} (hl : lf.length = js.length) {here : Int} (h0 : 0 ≤ here) (V3 v4 v5 v6 v7 v8 v9 v10 : Option Vl) (st g : Sto) :
    cL5 [some (.d (encK js)), some (.loc st.length), some (.d (.int here)), V3, v4, v5, v6, v7, v8, v9, v10] (st ++ some (.lst (lf.map .int)) :: g) = some ([], st ++ some (.lst (lf.map .int)) :: g) := by
  unfold cL5
  rw [v_lComp, enum_task, v_obind]
  simp only
  rw [if_pos (by rw [List.length_map, List.length_range]; omega)]
  have e := comp_filter (own := [9, 8]) (b := bTup 2 (bsCons (bName 9) (bsCons (bName 8) bsNil))) (t := tAndQ (tCmp2 pGt (eOp2 gIx (eVar 1) (eVar 9)) (eC (.int 0))) (tCmp2 pGt (eOp2 gIx (eVar 8) (eC (.int 0))) (eVar 2))) (f := eOp2 gIx (eVar 8) (eC (.int 0))) (ρ := [some (.d (encK js)), some (.loc st.length), some (.d (.int here)), V3, v4, v5, v6, v7, v8, v9, v10]) (st := st ++ some (.lst (lf.map .int)) :: g) (encE js) dN (fun a => false) (fun a => [some (.d (encK js)), some (.loc st.length), some (.d (.int here)), V3, v4, v5, v6, v7, some (.d (tk js a)), some (.d (dN a)), v10]) (List.range js.length) fun a ha => ⟨by simp [wipeR, bTup, bsCons, bsNil, encE], by
    have e := at_left (lf := lf) (a := a) (by rw [hl]; exact List.mem_range.mp ha)
    generalize lf.map PyData.int = X at e ⊢
    simp [tk, dN, e, h0], fun q => by cases q⟩
  rw [e]
  simp
theorem ev_EB {js : List (Int × Int)} (h : js.length ≤ 24) {is : List Nat} (hi : ∀ a ∈ is, a < js.length) (hne : is ≠ []) : ∃ t ∈ is, ∀ (V1 V2 V3 V5 v6 v7 v8 v9 v10 : Option Vl) (S : Sto), cEB [some (.d (encK js)), V1, V2, V3, some (.d (.list (is.map dN))), V5, v6, v7, v8, v9, v10] S = some (.d (dN t), S) := by
  cases is with
  | nil => exact absurd rfl hne
  | cons z zs =>
    refine ⟨bestBy (fun a b => QL.lexLt (dOf js a, (a : Int)) (dOf js b, (b : Int))) z zs, bestBy_mem _ z zs, fun V1 V2 V3 V5 v6 v7 v8 v9 v10 S => ?_⟩
    refine ev_best2 (r := fun a b => QL.lexLt a b) (v := .d (.list ((z :: zs).map dN))) (d := .list ((z :: zs).map dN)) (m := [("tasks", encK js)]) (fun a : Nat => dOf js a) (fun a => (a : Int)) (fun a b => dataLt_pair2 _ _ _ _) (by simp) rfl rfl rfl fun a ha => ?_
    have hb := hi a ha
    have e : kIx (kVar "tasks") (kVar "at") [("at", dN a), ("tasks", encK js)] = some (tk js a) := by
      show kAt (js.map tkP) ((a : Nat) : Int) = _
      rw [kAt_n _ _ (by rw [List.length_map]; omega), List.getElem?_map]
      unfold tk pOf dOf
      rw [List.getD_eq_getElem?_getD, List.getElem?_eq_getElem hb]
      rfl
    have e' : kIx (kIx (kVar "tasks") (kVar "at")) (kInt 2) [("at", dN a), ("tasks", encK js)] = some (.int (dOf js a)) := by
      show (kIx (kVar "tasks") (kVar "at") [("at", dN a), ("tasks", encK js)] >>= fun x => some (PyData.int 2) >>= fun y => match x, y with
        | .list ds, .int i => kAt ds i
        | .tuple ds, .int i => kAt ds i
        | _, _ => none) = _
      rw [e]
      show kAt [.int 0, .int (pOf js a), .int (dOf js a)] ((2 : Nat) : Int) = _
      rw [kAt_n _ _ (by simp)]
      rfl
    show (match kIx (kIx (kVar "tasks") (kVar "at")) (kInt 2) [("at", dN a), ("tasks", encK js)], some (dN a) with
      | some (.int i), some (.int j) => some (PyData.tuple [.int i, .int j])
      | _, _ => none) = _
    rw [e']
    rfl
theorem ev_EM {lf : List Int} {t : Nat} (ht : t < lf.length) (J V2 V3 V4 v7 v8 v9 v10 : Option Vl) (st g : Sto) :
    cEM [J, some (.loc st.length), V2, V3, V4, some (.d (.list [])), some (.d (dN t)), v7, v8, v9, v10] (st ++ some (.lst (lf.map .int)) :: g) = some (.d (.int lf[t]), st ++ some (.lst (lf.map .int)) :: g) := by
  have e := at_left ht
  have e2 : lf.getD t 0 = lf[t] := by rw [List.getD_eq_getElem?_getD, List.getElem?_eq_getElem ht]; rfl
  have e3 := gBest_min lf[t] []
  rw [e2] at e
  unfold cEM
  generalize lf[t] = x at e e3
  generalize lf.map PyData.int = X at e
  simp at e3
  have ec : (lComp [10] (iSeq (eVar 5)) (bName 10) tYesQ (eOp2 gSub (eVar 10) (eVar 2))) [J, some (.loc st.length), V2, V3, V4, some (.d (.list [])), some (.d (dN t)), v7, v8, v9, v10] (st ++ some (.lst X) :: g) = some ([], st ++ some (.lst X) :: g) := rfl
  generalize (lComp [10] (iSeq (eVar 5)) (bName 10) tYesQ (eOp2 gSub (eVar 10) (eVar 2))) = LC at ec
  simp [dN] at ec
  simp [aStar, dN, e, ec, e3]
theorem v_while1 {t : Tv} {f : Ex} {n : Nat} {ρ : Rho} {st : Sto} {z : Bool} {s1 : Sto} (h : t ρ st = some (z, s1)) : whileD t f (n + 1) ρ st = (if z = true then (f ρ s1 >>= fun a => match a.1 with
      | .nx => whileD t f n a.2.1 a.2.2
      | .ct => whileD t f n a.2.1 a.2.2
      | .bk => some (.nx, a.2.1, a.2.2)
      | .rt v => some (.rt v, a.2.1, a.2.2)) else some (.nx, ρ, s1)) := by
  rw [whileD, h]
  rfl
theorem sum_l (lf : List Int) : gSum (.list (lf.map PyData.int)) = some (.int lf.sum) := by
  have := gSum_map id lf
  simpa using this
theorem ev_cond (J V2 V3 v4 v5 v6 v7 v8 v9 v10 : Option Vl) (lf : List Int) (st g : Sto) : tCmp2 pGt (eOp1 gSum (eVar 1)) (eC (.int 0)) [J, some (.loc st.length), V2, V3, v4, v5, v6, v7, v8, v9, v10] (st ++ some (.lst (lf.map .int)) :: g) = some (decide (0 < lf.sum), st ++ some (.lst (lf.map .int)) :: g) := by
  have e := sum_l lf
  generalize lf.map PyData.int = X at e
  simp [e]
theorem loop_brk {js : List (Int × Int)} (h : js.length ≤ 24) (st : Sto) : ∀ (k : Nat) (lf : List Int) (here : Int) (found : List (Int × Int × Int)) (v4 v5 v6 v7 v8 v9 v10 : Option Vl) (g : Sto), lf.length = js.length → (∀ x ∈ lf, 0 ≤ x) → 0 ≤ here → cp lf < k → found.length + cp lf < 999 →
    ∃ (V1 V2 w4 w5 w6 w7 w8 w9 w10 : Option Vl) (found' : List (Int × Int × Int)) (A : Option Cell) (g' : Sto), whileD (tCmp2 pGt (eOp1 gSum (eVar 1)) (eC (.int 0))) (brkBody cL4 cL5 cEB cEM) k [some (.d (encK js)), some (.loc st.length), some (.d (.int here)), some (.loc (st.length + 1)), v4, v5, v6, v7, v8, v9, v10] (st ++ some (.lst (lf.map .int)) :: some (.lst (found.map dT)) :: g) =
      some (.nx, [some (.d (encK js)), V1, V2, some (.loc (st.length + 1)), w4, w5, w6, w7, w8, w9, w10], st ++ A :: some (.lst (found'.map dT)) :: g')
  | 0, lf, here, found, v4, v5, v6, v7, v8, v9, v10, g, _, _, _, hk, _ => absurd hk (Nat.not_lt_zero _)
  | k + 1, lf, here, found, v4, v5, v6, v7, v8, v9, v10, g, hl, hp, h0, hk, hf => by
    rw [v_while1 (ev_cond _ _ _ _ _ _ _ _ _ _ lf st _)]
    by_cases hs : 0 < lf.sum
    · obtain ⟨t0, ht0, hp0⟩ := pos_of_sum hs
      have hne : begN js.length lf ≠ [] := List.ne_nil_of_mem (a := t0) (List.mem_filter.mpr ⟨List.mem_range.mpr (by omega), by
        rw [List.getD_eq_getElem?_getD, List.getElem?_eq_getElem ht0]
        simpa using hp0⟩)
      obtain ⟨t, ht, eB⟩ := ev_EB h (is := begN js.length lf) (fun a ha => List.mem_range.mp (List.mem_filter.mp ha).1) hne
      obtain ⟨ht1, ht2⟩ := List.mem_filter.mp ht
      have ht1 : t < lf.length := by rw [hl]; exact List.mem_range.mp ht1
      have hpt : 0 < lf[t] := by
        rw [List.getD_eq_getElem?_getD, List.getElem?_eq_getElem ht1] at ht2
        simpa using ht2
      have hc := cp_set ht1 hpt
      obtain ⟨found', v4', v5', v6', v7', g', b1, b2⟩ := ev_brk cL4 cL5 cEB cEM (J := some (.d (encK js))) (v4 := v4) (v5 := v5) (v6 := v6) (v7 := v7) (v8 := v8) (v9 := v9) (v10 := v10) (here := here) (st := st) (g := g) (found := found) ht1 (by omega) hne (ev_L4 h hl h0 _ _ _ _ _ _ _ _ st _) (fun g' => ev_L5 h hl h0 _ _ _ _ _ _ _ _ st g') (fun S => eB _ _ _ _ _ _ _ _ _ S) (fun g' => ev_EM ht1 _ _ _ _ _ _ _ _ st g')
      obtain ⟨V1, V2, w4, w5, w6, w7, w8, w9, w10, f2, A, g2, r⟩ := loop_brk h st k (lf.set t 0) (here + lf[t]) found' v4' v5' v6' v7' v8 v9 v10 g' (by rw [List.length_set]; exact hl) (fun x hx => by
        rcases List.mem_or_eq_of_mem_set hx with q | q
        · exact hp x q
        · rw [q]; exact Int.le_refl _) (by omega) (by omega) (by omega)
      refine ⟨V1, V2, w4, w5, w6, w7, w8, w9, w10, f2, A, g2, ?_⟩
      rw [decide_eq_true hs, if_pos rfl, b2, v_obind]
      exact r
    · refine ⟨some (.loc st.length), some (.d (.int here)), v4, v5, v6, v7, v8, v9, v10, found, some (.lst (lf.map .int)), g, ?_⟩
      rw [decide_eq_false hs]
      rfl
theorem a_broken (L1 : Lv) (W : Ex) {J : PyData} {st g' : Sto} {lf : List Int} {V1 V2 w4 w5 w6 w7 w8 w9 w10 : Option Vl} {found : List PyData} {A : Option Cell}
    (e1 : L1 [some (.d J), none, none, none, none, none, none, none, none, none, none] st = some (lf.map .int, st))
    (e2 : W [some (.d J), some (.loc st.length), some (.d (.int 0)), some (.loc (st.length + 1)), none, none, none, none, none, none, none] (st ++ [some (.lst (lf.map .int)), some (.lst [])]) = some (.nx, [some (.d J), V1, V2, some (.loc (st.length + 1)), w4, w5, w6, w7, w8, w9, w10], st ++ A :: some (.lst found) :: g')) :
    fnS 11 1 (sCons (sParT [1, 2, 3] (aCons (eOwn L1) (aCons (eC (.int 0)) (aCons (eOwn (lDisp aNil)) aNil))))
 (sCons W
 (sFrz 3 (sCons (sRet (eVar 3))
 sNil)))) [.d J] st = some (.d (.list found), st) := by
  generalize lf.map PyData.int = X at e1 e2
  have ep : sParT [1, 2, 3] (aCons (eOwn L1) (aCons (eC (.int 0)) (aCons (eOwn (lDisp aNil)) aNil))) [some (.d J), none, none, none, none, none, none, none, none, none, none] st = some (.nx, [some (.d J), some (.loc st.length), some (.d (.int 0)), some (.loc (st.length + 1)), none, none, none, none, none, none, none], st ++ [some (.lst X), some (.lst [])]) := by
    have ea : (aCons (eOwn L1) (aCons (eC (.int 0)) (aCons (eOwn (lDisp aNil)) aNil))) [some (.d J), none, none, none, none, none, none, none, none, none, none] st = some ([.loc st.length, .d (.int 0), .loc (st.length + 1)], st ++ [some (.lst X), some (.lst [])]) := by
      simp [e1]
    unfold sParT
    rw [ea]
    simp [setN]
  generalize sParT [1, 2, 3] (aCons (eOwn L1) (aCons (eC (.int 0)) (aCons (eOwn (lDisp aNil)) aNil))) = P at ep
  simp [ep, e2]
  simp [sFrz]
theorem s_told_broken {js : List (Int × Int)} (h : JOk js) (st : Sto) : ∃ xs, sem_told_broken [.d (encK js)] st = some (.d (.list xs), st) := by
  have hp : ∀ x ∈ js.map Prod.fst, 0 ≤ x := fun x hx => by
    obtain ⟨j, hj, e⟩ := List.mem_map.mp hx
    have := h.ok j hj
    omega
  have hc : cp (js.map Prod.fst) ≤ 24 := by
    have h1 := List.countP_le_length (p := fun x => decide ((0 : Int) < x)) (l := js.map Prod.fst)
    rw [List.length_map] at h1
    have := h.len
    unfold cp
    omega
  obtain ⟨V1, V2, w4, w5, w6, w7, w8, w9, w10, f, A, g', r⟩ := loop_brk h.len st 100000 (js.map Prod.fst) 0 [] none none none none none none none [] (by rw [List.length_map]) hp (Int.le_refl _) (by omega) (by simp only [List.length_nil]; omega)
  refine ⟨f.map dT, a_broken (lComp [8] (iSeq (eVar 0)) (bName 8) tYesQ (eOp2 gIx (eVar 8) (eC (.int 1)))) _ (lf := js.map Prod.fst) ?_ r⟩
  have e : iSeq (eVar 0) [some (.d (encK js)), none, none, none, none, none, none, none, none, none, none] st = some (js.map tkP, st) := rfl
  rw [v_lComp, e, v_obind]
  simp only
  have hl := h.len
  rw [if_pos (by rw [List.length_map]; omega), List.map_map]
  exact comp_map tkP (fun j => .int j.1) (fun j => [some (.d (encK js)), none, none, none, none, none, none, none, some (.d (tkP j)), none, none]) js fun j _ => ⟨by simp [wipeR], by simp [tkP]⟩
theorem a_breaks (F1 F2 F3 : Fn) {J : PyData} {st : Sto} {m : Int} {xs ys : List PyData} (e1 : F1 [.d J] st = some (.d .none, st)) (e2 : F2 [.d J] st = some (.d (.tuple [.int m, .list xs]), st)) (e3 : F3 [.d J] st = some (.d (.list ys), st)) : ∃ r, fnS 3 1 (sCons (sExpr (eCall F1 (aCons (eVar 0) aNil)))
 (sCons (sAsg (eCall F2 (aCons (eVar 0) aNil)) (bTup 2 (bsCons (bName 1) (bsCons (bName 2) bsNil))))
 (sCons (sIf (tAndQ (tCmp2 pIsNot (eVar 1) (eC .none)) (tCmp2 pGt (eVar 1) (eC (.int 0)))) (sCons (sRet (eTup (aCons (eC (.str "lot")) (aCons (eOp1 gTuple (eVar 2)) aNil))))
 sNil) sNil)
 (sCons (sRet (eTup (aCons (eC (.str "broken")) (aCons (eOp1 gTuple (eCall F3 (aCons (eVar 0) aNil))) aNil))))
 sNil)))) [.d J] st = some (.d (.tuple [.str (if 0 < m then "lot" else "broken"), r]), st) := by
  by_cases h : 0 < m
  · exact ⟨.tuple xs, by simp [e1, e2, bTup, bsCons, bsNil, h, v_tuple_l]⟩
  · exact ⟨.tuple ys, by simp [e1, e2, e3, bTup, bsCons, bsNil, h, v_tuple_l]⟩
theorem s_with_breaks {js : List (Int × Int)} (h : JOk js) (hne : js ≠ []) (st : Sto) : ∃ (m : Int) (r : PyData), sem_with_breaks [.d (encK js)] st = some (.d (.tuple [.str (if 0 < m then "lot" else "broken"), r]), st) ∧ (m ≤ 0 ↔ Feas (pOf js) (dOf js) (List.range js.length)) := by
  obtain ⟨m, D, e, f⟩ := s_told_worst h hne st
  obtain ⟨ys, e3⟩ := s_told_broken h st
  obtain ⟨r, e4⟩ := a_breaks sem_look_at_tasks sem_told_worst sem_told_broken (s_look_tasks h st) e e3
  exact ⟨m, r, e4, f⟩
end K42

end
section
set_option Elab.async false
set_option linter.all false
set_option autoImplicit false
set_option maxRecDepth 100000
set_option maxHeartbeats 1000000
namespace K42
open PySem PySem.Spec PyProof.Rows L2 QL MH
theorem a_lRg {f : Rgv} {ρ : Rho} {st s1 : Sto} {i n : Int} {c : Bool} (h : f ρ st = some ((i, n), s1)) (hc : rgOkB i n = c) (ok : c = true) : lRg f ρ st = some (rgD i (n - i).toNat, s1) := by
  have e : lRg f ρ st = (f ρ st >>= fun a => if rgOkB a.1.1 a.1.2 = true then some (rgD a.1.1 (a.1.2 - a.1.1).toNat, a.2) else none) := rfl
  rw [e, h, v_obind]
  show (if rgOkB i n = true then _ else none) = _
  rw [hc, ok]
  rfl
theorem a_lRg1 {f : Ev} {ρ : Rho} {st s1 : Sto} {n : Nat} (h : f ρ st = some (.d (.int n), s1)) (hn : n ≤ 16777216) : lRg (rg1 f) ρ st = some ((List.range n).map dN, s1) := by
  have e : rg1 f ρ st = some ((0, (n : Int)), s1) := by
    have : rg1 f ρ st = (f ρ st >>= fun a => match a.1 with
      | .d (.int n) => some (((0 : Int), n), a.2)
      | _ => none) := rfl
    rw [this, h]
    rfl
  rw [a_lRg e rfl (rgOk_small hn), Int.sub_zero, Int.toNat_natCast, rgD_map]
theorem a_tRg1 {f : Ev} {ρ : Rho} {st s1 : Sto} {n : Nat} {c : Bool} (h : f ρ st = some (.d (.int n), s1)) (hc : rgOkB 0 (n : Int) = c) (ok : c = true) : eTupRg (rg1 f) ρ st = some (.d (.tuple ((List.range n).map dN)), s1) := by
  have e : eTupRg (rg1 f) ρ st = (rg1 f ρ st >>= fun a => if rgOkB a.1.1 a.1.2 = true then some (.d (.tuple (rgD a.1.1 (a.1.2 - a.1.1).toNat)), a.2) else none) := rfl
  have e2 : rg1 f ρ st = some ((0, (n : Int)), s1) := by
    have : rg1 f ρ st = (f ρ st >>= fun a => match a.1 with
      | .d (.int n) => some (((0 : Int), n), a.2)
      | _ => none) := rfl
    rw [this, h]
    rfl
  rw [e, e2, v_obind]
  show (if rgOkB 0 (n : Int) = true then some (Vl.d (.tuple (rgD 0 ((n : Int) - 0).toNat)), s1) else none) = _
  rw [hc, ok, Int.sub_zero, Int.toNat_natCast, rgD_map]
  rfl
theorem sorted_eq {l m : List Nat} (h1 : l.Pairwise fun a b => a < b) (h2 : m.Pairwise fun a b => a < b) (h : ∀ a, a ∈ l ↔ a ∈ m) : l = m := by
  have q1 : (l.map fun n : Nat => (n : Int)).Pairwise (· < ·) := by
    rw [List.pairwise_map]
    exact h1.imp fun {a b} q => by omega
  have q2 : (m.map fun n : Nat => (n : Int)).Pairwise (· < ·) := by
    rw [List.pairwise_map]
    exact h2.imp fun {a b} q => by omega
  have e := lt_unique q1 q2 fun z => by
    rw [List.mem_map, List.mem_map]
    exact ⟨fun ⟨a, ha, e⟩ => ⟨a, (h a).mp ha, e⟩, fun ⟨a, ha, e⟩ => ⟨a, (h a).mpr ha, e⟩⟩
  have e2 := congrArg (List.map Int.toNat) e
  rw [List.map_map, List.map_map] at e2
  have hid : ∀ l : List Nat, l.map (Int.toNat ∘ fun n : Nat => (n : Int)) = l := fun l => (List.map_congr_left fun a _ => by simp).trans (List.map_id l)
  rw [hid, hid] at e2
  exact e2
theorem range_lt (n : Nat) : (List.range n).Pairwise fun a b => a < b := List.pairwise_lt_range
theorem sort_perm_range {l : List Nat} {n : Nat} (h : l.Perm (List.range n)) : (l.mergeSort fun a b => decide (a ≤ b)) = List.range n :=
  sorted_eq (sort_lt (h.nodup_iff.mpr List.nodup_range)) (range_lt n) fun a => (List.mergeSort_perm l _).mem_iff.trans h.mem_iff
def lateBody : Ex := (sCons (sAsg (eOp2 gIx (eVar 0) (eVar 4)) (bTup 3 (bsCons (bName 5) (bsCons (bName 6) (bsCons (bName 7) bsNil)))))
 (sCons (sAsg (eOp2 gAdd (eOp2 gMax2 (eVar 2) (eVar 5)) (eVar 6)) (bName 2))
 (sCons (sAsg (eIf (tCmp2 pIs (eVar 3) (eC .none)) (eOp2 gSub (eVar 2) (eVar 7)) (eOp2 gMax2 (eVar 3) (eOp2 gSub (eVar 2) (eVar 7)))) (bName 3))
 sNil)))
@[simp] theorem v_max2 (i j : Int) : gMax2 (.int i) (.int j) = some (.int (if j > i then j else i)) := rfl
@[simp] theorem v_min2 (i j : Int) : gMin2 (.int i) (.int j) = some (.int (if j < i then j else i)) := rfl
theorem late_none {J : PyData} {V1 v4 v5 v6 v7 : Option Vl} {s p d : Int} {a : Nat} {st : Sto} (h : gIx J (dN a) = some (.tuple [.int 0, .int p, .int d])) (hs : 0 ≤ s) :
    lateBody [some (.d J), V1, some (.d (.int s)), some (.d .none), some (.d (dN a)), v5, v6, v7] st = some (.nx, [some (.d J), V1, some (.d (.int (s + p))), some (.d (.int (s + p - d))), some (.d (dN a)), some (.d (.int 0)), some (.d (.int p)), some (.d (.int d))], st) := by
  have h0 : ¬ 0 > s := by omega
  simp [lateBody, h, bTup, bsCons, bsNil, show ¬ s < 0 by omega]
theorem late_int {J : PyData} {V1 v4 v5 v6 v7 : Option Vl} {s p d m : Int} {a : Nat} {st : Sto} (h : gIx J (dN a) = some (.tuple [.int 0, .int p, .int d])) (hs : 0 ≤ s) :
    lateBody [some (.d J), V1, some (.d (.int s)), some (.d (.int m)), some (.d (dN a)), v5, v6, v7] st = some (.nx, [some (.d J), V1, some (.d (.int (s + p))), some (.d (.int (if s + p - d > m then s + p - d else m))), some (.d (dN a)), some (.d (.int 0)), some (.d (.int p)), some (.d (.int d))], st) := by
  simp [lateBody, h, bTup, bsCons, bsNil, show ¬ s < 0 by omega]
theorem loop_late {J : PyData} {V1 : Option Vl} {st : Sto} (p d : Nat → Int) : ∀ (l : List Nat) (s m : Int) (v4 v5 v6 v7 : Option Vl), (∀ a ∈ l, gIx J (dN a) = some (.tuple [.int 0, .int (p a), .int (d a)])) → (∀ a ∈ l, 0 ≤ p a) → 0 ≤ s → m ≤ 0 → chk p d s l = true →
    ∃ (m' : Int) (V2 w4 w5 w6 w7 : Option Vl), m' ≤ 0 ∧ loopD (bName 4) lateBody (l.map dN) [some (.d J), V1, some (.d (.int s)), some (.d (.int m)), v4, v5, v6, v7] st = some (.nx, [some (.d J), V1, V2, some (.d (.int m')), w4, w5, w6, w7], st)
  | [], s, m, v4, v5, v6, v7, _, _, _, hm, _ => ⟨m, _, v4, v5, v6, v7, hm, rfl⟩
  | a :: l, s, m, v4, v5, v6, v7, h, hp, hs, hm, hc => by
    have ha := h a List.mem_cons_self
    have hpa := hp a List.mem_cons_self
    unfold chk at hc
    split at hc
    · cases hc
    · rename_i hd
      obtain ⟨m', V2, w4, w5, w6, w7, r1, r2⟩ := loop_late p d l (s + p a) (if s + p a - d a > m then s + p a - d a else m) (some (.d (dN a))) (some (.d (.int 0))) (some (.d (.int (p a)))) (some (.d (.int (d a)))) (fun b hb => h b (List.mem_cons_of_mem _ hb)) (fun b hb => hp b (List.mem_cons_of_mem _ hb)) (by omega) (by split <;> omega) hc
      refine ⟨m', V2, w4, w5, w6, w7, r1, ?_⟩
      have eb : bName 4 (.d (dN a)) [some (.d J), V1, some (.d (.int s)), some (.d (.int m)), v4, v5, v6, v7] st = some ([some (.d J), V1, some (.d (.int s)), some (.d (.int m)), some (.d (dN a)), v5, v6, v7], st) := rfl
      rw [List.map_cons, v_loop1, eb, v_obind, late_int (v4 := none) ha hs, v_obind]
      exact r2
theorem a_late (F1 F2 : Fn) {J O : PyData} {n : Nat} {st : Sto} {is rs : List Nat} {m : Int} {V2 w4 w5 w6 w7 : Option Vl} (e1 : F1 [.d J] st = some (.d .none, st)) (eL : gLen J = some (.int n)) (hn : n ≤ 16777216) (e2 : F2 [.d O, .d (.int 0), .d (.int ((n : Int) - 1))] st = some (.d (.bool true), st))
    (e3 : gSort O = some ((List.range n).map dN)) (eO : seqOf O = some (is.map dN))
    (e4 : loopD (bName 4) lateBody (is.map dN) [some (.d J), some (.d O), some (.d (.int 0)), some (.d .none), none, none, none, none] st = some (.nx, [some (.d J), some (.d O), V2, some (.d (.int m)), w4, w5, w6, w7], st)) :
    fnS 8 2 (sCons (sExpr (eCall F1 (aCons (eVar 0) aNil)))
 (sCons (sIf (tOrQ (tNotQ (tV (eCall F2 (aCons (eVar 1) (aCons (eC (.int 0)) (aCons (eOp2 gSub (eOp1 gLen (eVar 0)) (eC (.int 1))) aNil)))))) (tCmp2 pNe (eFz (lOp1 gSort (eVar 1))) (eFz (lRg (rg1 (eOp1 gLen (eVar 0))))))) (sCons sNever
 sNil) sNil)
 (sCons (sParT [2, 3] (aCons (eC (.int 0)) (aCons (eC .none) aNil)))
 (sCons (sFor (iSeq (eVar 1)) (bName 4) lateBody)
 (sCons (sRet (eVar 3))
 sNil))))) [.d J, .d O] st = some (.d (.int m), st) := by
  have ep : sParT [2, 3] (aCons (eC (.int 0)) (aCons (eC .none) aNil)) [some (.d J), some (.d O), none, none, none, none, none, none] st = some (.nx, [some (.d J), some (.d O), some (.d (.int 0)), some (.d .none), none, none, none, none], st) := by
    unfold sParT
    simp [setN]
  have er : lRg (rg1 (eOp1 gLen (eVar 0))) [some (.d J), some (.d O), none, none, none, none, none, none] st = some ((List.range n).map dN, st) := a_lRg1 (by simp [eL]) hn
  have en := ne_listN (List.range n) (List.range n)
  generalize lateBody = B at e4 ⊢
  generalize sParT [2, 3] (aCons (eC (.int 0)) (aCons (eC .none) aNil)) = P at ep ⊢
  generalize lRg (rg1 (eOp1 gLen (eVar 0))) = R at er ⊢
  generalize (List.range n).map dN = X at e3 er en
  simp at en
  simp [e1, eL, e2, e3, er, en, ep, iSeq, eO, e4]
theorem s_lateness {js : List (Int × Int)} (h : JOk js) {is : List Nat} (hi : is.Perm (List.range js.length)) (hne : js ≠ []) (hc : chk (pOf js) (dOf js) 0 is = true) (st : Sto) : ∃ m : Int, m ≤ 0 ∧ sem_lateness_of [.d (encK js), .d (.tuple (is.map dN))] st = some (.d (.int m), st) := by
  have hb : ∀ a ∈ is, a < js.length := fun a ha => List.mem_range.mp (hi.mem_iff.mp ha)
  have hl24 := h.len
  have hlen : is.length = js.length := by rw [hi.length_eq, List.length_range]
  have key : ∃ (m' : Int) (V2 w4 w5 w6 w7 : Option Vl), m' ≤ 0 ∧ loopD (bName 4) lateBody (is.map dN) [some (.d (encK js)), some (.d (.tuple (is.map dN))), some (.d (.int 0)), some (.d .none), none, none, none, none] st = some (.nx, [some (.d (encK js)), some (.d (.tuple (is.map dN))), V2, some (.d (.int m')), w4, w5, w6, w7], st) := by
    generalize some (Vl.d (.tuple (is.map dN))) = V1
    cases is with
    | nil =>
      simp at hlen
      exact absurd hlen.symm (by simpa using hne)
    | cons a l =>
      have ha := ix_task (hb a List.mem_cons_self)
      have hga := getD_ok h (hb a List.mem_cons_self)
      unfold chk at hc
      split at hc
      · cases hc
      · rename_i hd
        obtain ⟨m', V2, w4, w5, w6, w7, r1, r2⟩ := loop_late (J := encK js) (V1 := V1) (st := st) (pOf js) (dOf js) l (0 + pOf js a) (0 + pOf js a - dOf js a) (some (.d (dN a))) (some (.d (.int 0))) (some (.d (.int (pOf js a)))) (some (.d (.int (dOf js a)))) (fun b q => ix_task (hb b (List.mem_cons_of_mem _ q))) (fun b q => by have := getD_ok h (hb b (List.mem_cons_of_mem _ q)); omega) (by omega) (by omega) hc
        refine ⟨m', V2, w4, w5, w6, w7, r1, ?_⟩
        have eb : bName 4 (.d (dN a)) [some (.d (encK js)), V1, some (.d (.int 0)), some (.d .none), none, none, none, none] st = some ([some (.d (encK js)), V1, some (.d (.int 0)), some (.d .none), some (.d (dN a)), none, none, none], st) := rfl
        rw [List.map_cons, v_loop1, eb, v_obind, late_none (v4 := none) ha (Int.le_refl _), v_obind]
        exact r2
  obtain ⟨m', V2, w4, w5, w6, w7, r1, r2⟩ := key
  refine ⟨m', r1, a_late sem_look_at_tasks sem_are_ints (rs := []) (s_look_tasks h st) (len_encK js) (by omega) ?_ ?_ rfl r2⟩
  · rw [s_are_intsT _ _ _ _ (by rw [List.length_map]; omega)]
    have : (is.map dN).all (isIntB 0 ((js.length : Int) - 1)) = true := by
      rw [List.all_map, List.all_eq_true]
      intro a ha
      have := hb a ha
      simp [isIntB, dN]
      omega
    rw [this]
  · rw [gSort_natT, sort_perm_range hi]
end K42

end
section
set_option Elab.async false
set_option linter.all false
set_option autoImplicit false
set_option maxRecDepth 100000
set_option maxHeartbeats 1000000
namespace K42
open PySem PySem.Spec PyProof.Rows L2 QL MH
def potL (P : Int × Int × Int) : List PyData := [.int P.1, .int P.2.1, .int P.2.2]
structure POk (c : Int) (P : Int × Int × Int) : Prop where
  own : 0 ≤ P.1
  m0 : 0 ≤ P.2.1
  m1 : P.2.1 < 2305843009213693921
  k0 : 0 ≤ P.2.2
  k1 : P.2.2 ≤ c
@[simp] theorem v_int (i : Int) : gInt (.int i) = some (.int i) := rfl
@[simp] theorem v_intb (b : Bool) : gInt (.bool b) = some (.int (if b then 1 else 0)) := rfl
@[simp] theorem v_abs (i : Int) : gAbs (.int i) = some (.int (if i < 0 then -i else i)) := rfl
theorem v_takec (st g : Sto) (x y : Option Cell) : (st ++ y :: g).take (st ++ x :: g).length = st ++ y :: g := List.take_of_length_le (by simp)
theorem v_bSub0 {x : PyData} {ρ : Rho} {st g : Sto} {ds : List PyData} {i : Int} {j : Nat} (h : ixN ds.length i = some j) : bSub (eVar 0) (eC (.int i)) (.d x) (some (.loc st.length) :: ρ) (st ++ some (.lst ds) :: g) = some (some (.loc st.length) :: ρ, st ++ some (.lst (ds.set j x)) :: g) := by
  unfold bSub
  simp only [v_var0, Option.map_some, v_obind, v_eC, v_datV, v_getc, h, v_setc]
theorem ix3_0 : ixN 3 0 = some 0 := by decide
theorem ix3_2 : ixN 3 2 = some 2 := by decide
theorem a_take1 {o m k u x : Int} {st g : Sto} (ho : 0 < o) (hu : 0 < u) (hd : gDiv (.int o) (.int u) = some (.int x)) : sem__law_take [.loc st.length, .d (.int u)] (st ++ some (.lst [.int o, .int m, .int k]) :: g) = some (.d (.int (o % u)), st ++ some (.lst [.int x, .int m, .int k]) :: g) := by
  have e := fun (y : PyData) (ρ : Rho) => v_bSub0 (x := y) (ρ := ρ) (st := st) (g := g) (ds := [.int o, .int m, .int k]) (i := 0) (j := 0) ix3_0
  have et := v_takec st g (some (.lst [.int o, .int m, .int k])) (some (.lst [.int x, .int m, .int k]))
  unfold sem__law_take
  refine Eq.trans (v_fnS rfl) ?_
  generalize (st ++ some (Cell.lst [.int o, .int m, .int k]) :: g).length = N at et ⊢
  generalize bSub (eVar 0) (eC (.int 0)) = BS at e ⊢
  simp [ho, hu, hd, e, et]
theorem a_take2 {o m k u k1 q x1 x2 x3 x4 x5 x6 : Int} {st g : Sto} (ho : ¬ 0 < o) (hu : 0 < u) (hk : k + 1 = k1)
    (e5 : atI [PyData.int 2147483647, .int 2147483629, .int 2147483587, .int 2147483579, .int 2147483563] (k1 % 5) = some (.int q)) (hq : 0 < q)
    (m1 : gMul (.int 88211) (.int k1) = some (.int x1)) (m2 : gMul (.int x1) (.int k1) = some (.int x2)) (m3 : gPowW (.int (m + x2 + 2909)) (.int 3) = some (.int x3))
    (m4 : gMul (.int 419) (.int k1) = some (.int x4)) (m5 : gMul (.int (x3 % q)) (.int (x3 % q % 13441 + x4)) = some (.int x5)) (m6 : gDiv (.int (x5 % 2305843009213693907)) (.int 229) = some (.int x6)) :
    sem__law_take [.loc st.length, .d (.int u)] (st ++ some (.lst [.int o, .int m, .int k]) :: g) = some (.d (.int (x6 % u)), st ++ some (.lst [.int o, .int m, .int k1]) :: g) := by
  have e := fun (y : PyData) (ρ : Rho) => v_bSub0 (x := y) (ρ := ρ) (st := st) (g := g) (ds := [.int o, .int m, .int k]) (i := 2) (j := 2) ix3_2
  have et := v_takec st g (some (.lst [.int o, .int m, .int k])) (some (.lst [.int o, .int m, .int k1]))
  unfold sem__law_take
  refine Eq.trans (v_fnS rfl) ?_
  generalize (st ++ some (Cell.lst [.int o, .int m, .int k]) :: g).length = N at et ⊢
  generalize bSub (eVar 0) (eC (.int 0)) = BS0
  generalize bSub (eVar 0) (eC (.int 2)) = BS at e ⊢
  simp [-QL.v_mul, ho, hu, hk, e, et, e5, hq, m1, m2, m3, m4, m5, m6]
theorem intBits_le {x : Int} {n : Nat} (h0 : 0 ≤ x) (h : x < 2 ^ n) : Builtin.Int.intBits x ≤ n := by
  unfold Builtin.Int.intBits
  by_cases hx : x = 0
  · simp [hx]
  · have e : (x == 0) = false := by simpa using hx
    rw [e]
    have h1 : x.natAbs ≠ 0 := by omega
    have h2 : x.natAbs < 2 ^ n := by
      have : (x.natAbs : Int) < ((2 ^ n : Nat) : Int) := by
        rw [Int.natAbs_of_nonneg h0]
        simpa using h
      exact_mod_cast this
    have := (Nat.log2_lt h1).mpr h2
    simp only [Bool.false_eq_true, if_false]
    omega
theorem mul_r {i j : Int} (h0 : 0 ≤ j) (h : j < 18446744073709551616) : gMul (.int i) (.int j) = some (.int (i * j)) := by
  have e : mulOk i j = true := by
    have e2 : (2 : Int) ^ 64 = 18446744073709551616 := by decide
    unfold mulOk
    rw [e2]
    simp only [Bool.or_eq_true, Bool.and_eq_true, decide_eq_true_eq]
    omega
  rw [QL.v_mul, if_pos e]
theorem div_s {i j : Int} (h0 : 0 < j) (h : j < 1073741824) : gDiv (.int i) (.int j) = some (.int (i / j)) := by
  show (if j ≠ 0 ∧ j.natAbs < 1073741824 then some (PyData.int (i.fdiv j)) else none) = _
  rw [if_pos (by omega), Int.fdiv_eq_ediv_of_nonneg _ (by omega)]
theorem prime_at {k1 : Int} : ∃ q, atI [PyData.int 2147483647, .int 2147483629, .int 2147483587, .int 2147483579, .int 2147483563] (k1 % 5) = some (.int q) ∧ 0 < q ∧ q ≤ 2147483647 := by
  have h : k1 % 5 = 0 ∨ k1 % 5 = 1 ∨ k1 % 5 = 2 ∨ k1 % 5 = 3 ∨ k1 % 5 = 4 := by omega
  rcases h with e | e | e | e | e <;> rw [e]
  · exact ⟨2147483647, rfl, by decide, by decide⟩
  · exact ⟨2147483629, rfl, by decide, by decide⟩
  · exact ⟨2147483587, rfl, by decide, by decide⟩
  · exact ⟨2147483579, rfl, by decide, by decide⟩
  · exact ⟨2147483563, rfl, by decide, by decide⟩
theorem s_take {c u : Int} {P : Int × Int × Int} (h : POk c P) (hc : c ≤ 1000) (hu : 1 ≤ u) (hu2 : u ≤ 100000) (st : Sto) : ∃ r P', 0 ≤ r ∧ r < u ∧ POk (c + 1) P' ∧ ∀ g, sem__law_take [.loc st.length, .d (.int u)] (st ++ some (.lst (potL P)) :: g) = some (.d (.int r), st ++ some (.lst (potL P')) :: g) := by
  obtain ⟨o, m, k⟩ := P
  obtain ⟨h1, h2, h3, h4, h5⟩ := h
  simp only at h1 h2 h3 h4 h5
  by_cases ho : 0 < o
  · exact ⟨o % u, (o / u, m, k), Int.emod_nonneg _ (by omega), Int.emod_lt_of_pos _ (by omega), ⟨Int.ediv_nonneg h1 (by omega), h2, h3, h4, by simp only; omega⟩, fun g => a_take1 ho (by omega) (div_s (by omega) (by omega))⟩
  · obtain ⟨q, e5, q0, q1⟩ := prime_at (k1 := k + 1)
    have hx2 : 0 ≤ 88211 * (k + 1) * (k + 1) ∧ 88211 * (k + 1) * (k + 1) ≤ 88211 * 1001 * 1001 := by
      have a : 0 ≤ 88211 * (k + 1) := by omega
      have b : 88211 * (k + 1) ≤ 88211 * 1001 := by omega
      exact ⟨Int.mul_nonneg a (by omega), Int.mul_le_mul b (by omega) (by omega) (by decide)⟩
    have hp : gPowW (.int (m + 88211 * (k + 1) * (k + 1) + 2909)) (.int 3) = some (.int ((m + 88211 * (k + 1) * (k + 1) + 2909) ^ 3)) := by
      have hb : Builtin.Int.intBits (m + 88211 * (k + 1) * (k + 1) + 2909) ≤ 63 := intBits_le (by omega) (by
        have : (2 : Int) ^ 63 = 9223372036854775808 := by decide
        rw [this]
        omega)
      generalize m + 88211 * (k + 1) * (k + 1) + 2909 = y at hb ⊢
      show (if 0 ≤ (3 : Int) ∧ (Builtin.Int.intBits y : Int) * 3 ≤ 2 ^ 27 then some (PyData.int (y ^ (3 : Int).toNat)) else none) = _
      rw [if_pos ⟨by decide, by
        have : (2 : Int) ^ 27 = 134217728 := by decide
        rw [this]
        omega⟩]
      rfl
    have r0 : 0 ≤ (m + 88211 * (k + 1) * (k + 1) + 2909) ^ 3 % q := Int.emod_nonneg _ (by omega)
    have r1 : (m + 88211 * (k + 1) * (k + 1) + 2909) ^ 3 % q < q := Int.emod_lt_of_pos _ q0
    refine ⟨_, (o, m, k + 1), ?_, ?_, ⟨h1, h2, h3, by simp only; omega, by simp only; omega⟩, fun g => a_take2 (k1 := k + 1) ho (by omega) rfl e5 q0 (mul_r (by omega) (by omega)) (mul_r (by omega) (by omega)) hp (mul_r (by omega) (by omega)) (mul_r (by omega) (by omega)) (div_s (by decide) (by decide))⟩
    · exact Int.emod_nonneg _ (by omega)
    · exact Int.emod_lt_of_pos _ (by omega)
theorem a_of (F : Fn) {V : PyData} {p : Vl} {S S' : Sto} {n r : Int} {x : PyData} (e1 : gLen V = some (.int n)) (e2 : F [p, .d (.int n)] S = some (.d (.int r), S')) (e3 : gIx V (.int r) = some x) (hl : S'.take S.length = S') : fnS 2 2 (sCons (sRet (eOp2 gIx (eVar 1) (eCall F (aCons (eVar 0) (aCons (eOp1 gLen (eVar 1)) aNil)))))
 sNil) [p, .d V] S = some (.d x, S') := by
  simp [e1, e2, e3, hl]
theorem s_of {c : Int} {P : Int × Int × Int} (h : POk c P) (hc : c ≤ 1000) {V : PyData} {xs : List PyData} (hx : 1 ≤ xs.length) (hx2 : xs.length ≤ 100000) (hV : V = .list xs ∨ V = .tuple xs) (st : Sto) : ∃ x P', x ∈ xs ∧ POk (c + 1) P' ∧ ∀ g, sem__law_of [.loc st.length, .d V] (st ++ some (.lst (potL P)) :: g) = some (.d x, st ++ some (.lst (potL P')) :: g) := by
  obtain ⟨r, P', h1, h2, h3, h4⟩ := s_take h hc (u := (xs.length : Int)) (by omega) (by omega) st
  obtain ⟨n, rfl⟩ : ∃ n : Nat, r = (n : Int) := ⟨r.toNat, by omega⟩
  have hn : n < xs.length := by omega
  refine ⟨xs[n], P', List.getElem_mem hn, h3, fun g => a_of sem__law_take (n := (xs.length : Int)) (r := (n : Int)) ?_ (h4 g) ?_ (v_takec _ _ _ _)⟩
  · rcases hV with e | e <;> rw [e] <;> rfl
  · have e2 : atI xs ((n : Nat) : Int) = some xs[n] := by rw [atI_n, List.getElem?_eq_getElem hn]
    rcases hV with e | e <;> rw [e] <;> exact e2
end K42

end
section
set_option Elab.async false
set_option linter.all false
set_option autoImplicit false
set_option maxRecDepth 100000
set_option maxHeartbeats 1000000
namespace K42
open PySem PySem.Spec PyProof.Rows L2 QL MH
def drwA (F : Fn) : Ex := (sExpr (eMeth gApp (eVar 3) (eTup (aCons (eOp1 gInt (eOp2 gAdd (eC (.int 1)) (eCall F (aCons (eVar 0) (aCons (eVar 2) aNil))))) (aCons (eOp1 gInt (eCall F (aCons (eVar 0) (aCons (eVar 4) aNil)))) aNil)))))
def drwD : Ev := (eFz (lDisp (aCons (eOp2 gIx (eVar 3) (eOp1 gNeg (eC (.int 2)))) (aCons (eTup (aCons (eOp2 gIx (eOp2 gIx (eVar 3) (eOp1 gNeg (eC (.int 1)))) (eC (.int 0))) (aCons (eOp2 gIx (eOp2 gIx (eVar 3) (eOp1 gNeg (eC (.int 2)))) (eC (.int 1))) aNil))) (aCons (eTup (aCons (eOp2 gIx (eOp2 gIx (eVar 3) (eOp1 gNeg (eC (.int 2)))) (eC (.int 0))) (aCons (eOp2 gIx (eOp2 gIx (eVar 3) (eOp1 gNeg (eC (.int 1)))) (eC (.int 1))) aNil))) aNil)))))
def drwB (F1 F2 : Fn) : Ex := (sIf (tAndQ (tCmp2 pGt (eVar 5) (eC (.int 0))) (tCmp2 pEq (eCall F1 (aCons (eVar 0) (aCons (eC (.int 5)) aNil))) (eC (.int 0)))) (sCons (sAsg (eCall F2 (aCons (eVar 0) (aCons drwD aNil))) (bSub (eVar 3) (eOp1 gNeg (eC (.int 1)))))
 sNil) sNil)
theorem ev_drwA (F : Fn) {many : Option Vl} {scale wide r1 r2 : Int} {v5 : Option Vl} {st : Sto} {p0 p1 p2 : Option Cell} {X : List PyData} (hX : X.length < 1000)
    (e1 : ∀ g, F [.loc st.length, .d (.int scale)] (st ++ p0 :: g) = some (.d (.int r1), st ++ p1 :: g)) (e2 : ∀ g, F [.loc st.length, .d (.int wide)] (st ++ p1 :: g) = some (.d (.int r2), st ++ p2 :: g)) :
    drwA F [some (.loc st.length), many, some (.d (.int scale)), some (.loc (st.length + 1)), some (.d (.int wide)), v5] (st ++ [p0, some (.lst X)]) = some (.nx, [some (.loc st.length), many, some (.d (.int scale)), some (.loc (st.length + 1)), some (.d (.int wide)), v5], st ++ [p2, some (.lst (X ++ [.tuple [.int (1 + r1), .int r2]]))]) := by
  have ea := gApp_any X (.tuple [.int (1 + r1), .int r2]) hX
  have e1' := e1 [some (.lst X)]
  have e2' := e2 [some (.lst X)]
  unfold drwA
  simp [e1', e2', ea]
theorem v_atM2 (a b : PyData) (xs : List PyData) : atI (xs ++ [a, b]) (-2) = some a := by
  unfold atI ixN
  rw [if_neg (by omega), if_pos (by rw [List.length_append]; simp only [List.length_cons, List.length_nil]; omega)]
  have e : ((-2 : Int) + ((xs ++ [a, b]).length : Nat)).toNat = xs.length := by
    rw [List.length_append]
    simp only [List.length_cons, List.length_nil]
    omega
  show (some _ : Option Nat) >>= _ = _
  rw [e]
  show (xs ++ [a, b])[xs.length]? = _
  simp
theorem v_atM1 (a b : PyData) (xs : List PyData) : atI (xs ++ [a, b]) (-1) = some b := by
  have := v_atL (α := PyData) b (xs ++ [a])
  rwa [List.append_assoc] at this
theorem ev_drwD {many scale wide v5 : Option Vl} {V0 : Option Vl} {st g : Sto} {p : Option Cell} {X : List PyData} {a b : Int × Int} :
    drwD [V0, many, scale, some (.loc (st.length + 1)), wide, v5] (st ++ p :: some (.lst (X ++ [dP a, dP b])) :: g) = some (.d (.list [dP a, dP (b.1, a.2), dP (a.1, b.2)]), st ++ p :: some (.lst (X ++ [dP a, dP b])) :: g) := by
  have e1 := v_atM1 (dP a) (dP b) X
  have e2 := v_atM2 (dP a) (dP b) X
  generalize X ++ [dP a, dP b] = Y at e1 e2
  simp [drwD, e1, e2, dP]
theorem ev_drwB0 (F1 F2 : Fn) {V0 many scale wide : Option Vl} {V3 : Option Vl} {S : Sto} : drwB F1 F2 [V0, many, scale, V3, wide, some (.d (.int 0))] S = some (.nx, [V0, many, scale, V3, wide, some (.d (.int 0))], S) := by
  simp [drwB]
theorem ev_drwB1 (F1 F2 : Fn) {many scale wide : Option Vl} {V3 : Option Vl} {st g : Sto} {i r : Int} {p0 p1 : Option Cell} (hi : 0 < i) (hr : ¬ r = 0) (e1 : ∀ g, F1 [.loc st.length, .d (.int 5)] (st ++ p0 :: g) = some (.d (.int r), st ++ p1 :: g)) :
    drwB F1 F2 [some (.loc st.length), many, scale, V3, wide, some (.d (.int i))] (st ++ p0 :: g) = some (.nx, [some (.loc st.length), many, scale, V3, wide, some (.d (.int i))], st ++ p1 :: g) := by
  have e1' := e1 g
  unfold drwB
  generalize bSub (eVar 3) (eOp1 gNeg (eC (.int 1))) = BS
  simp [hi, e1', hr]
theorem ev_drwB2 (F1 F2 : Fn) {many scale wide : Option Vl} {st g : Sto} {i : Int} {p0 p1 p2 : Option Cell} {X : List PyData} {a b : Int × Int} {y : PyData} (hi : 0 < i) (e1 : ∀ g, F1 [.loc st.length, .d (.int 5)] (st ++ p0 :: g) = some (.d (.int 0), st ++ p1 :: g))
    (e2 : ∀ g, F2 [.loc st.length, .d (.list [dP a, dP (b.1, a.2), dP (a.1, b.2)])] (st ++ p1 :: g) = some (.d y, st ++ p2 :: g)) :
    drwB F1 F2 [some (.loc st.length), many, scale, some (.loc (st.length + 1)), wide, some (.d (.int i))] (st ++ p0 :: some (.lst (X ++ [dP a, dP b])) :: g) = some (.nx, [some (.loc st.length), many, scale, some (.loc (st.length + 1)), wide, some (.d (.int i))], st ++ p2 :: some (.lst (X ++ [dP a, y])) :: g) := by
  have e1' := e1 (some (.lst (X ++ [dP a, dP b])) :: g)
  have e2' := e2 (some (.lst (X ++ [dP a, dP b])) :: g)
  have ed := ev_drwD (V0 := some (.loc st.length)) (many := many) (scale := scale) (wide := wide) (v5 := some (.d (.int i))) (st := st) (g := g) (p := p1) (X := X) (a := a) (b := b)
  have eb := v_bSub1 (x := y) (ρ := [some (.loc st.length), many, scale, some (.loc (st.length + 1)), wide, some (.d (.int i))]) (st := st) (g := g) (A := p2) (xs := X ++ [dP a]) (y := dP b) (v := none) rfl
  rw [List.append_assoc, List.append_assoc] at eb
  have eb' : bSub (eVar 3) (eOp1 gNeg (eC (.int 1))) (.d y) [some (.loc st.length), many, scale, some (.loc (st.length + 1)), wide, some (.d (.int i))] (st ++ p2 :: some (.lst (X ++ [dP a, dP b])) :: g) = some ([some (.loc st.length), many, scale, some (.loc (st.length + 1)), wide, some (.d (.int i))], st ++ p2 :: some (.lst (X ++ [dP a, y])) :: g) := eb
  unfold drwB
  generalize bSub (eVar 3) (eOp1 gNeg (eC (.int 1))) = BS at eb' ⊢
  generalize drwD = DD at ed ⊢
  generalize X ++ [dP a, dP b] = Y at *
  generalize [dP a, dP (b.1, a.2), dP (a.1, b.2)] = Z at *
  simp [hi, e1', ed, e2', eb']
def JB (j : Int × Int) : Prop := 1 ≤ j.1 ∧ j.1 ≤ 1000 ∧ 0 ≤ j.2 ∧ j.2 ≤ 24000
theorem ev_drw {c scale wide : Int} {P : Int × Int × Int} (h : POk c P) (hc : c + 4 ≤ 1000) (hs : 1 ≤ scale) (hs2 : scale ≤ 1000) (hw : 1 ≤ wide) (hw2 : wide ≤ 24001) {js : List (Int × Int)} (hj : ∀ j ∈ js, JB j) (hl : js.length < 1000) (st : Sto) (many : Option Vl) {i : Nat} (hi : js.length = i) :
    ∃ (P' : Int × Int × Int) (j' : List (Int × Int)), POk (c + 4) P' ∧ (∀ j ∈ j', JB j) ∧ j'.length = js.length + 1 ∧ (sCons (drwA sem__law_take) (sCons (drwB sem__law_take sem__law_of) sNil)) [some (.loc st.length), many, some (.d (.int scale)), some (.loc (st.length + 1)), some (.d (.int wide)), some (.d (dN i))] (st ++ [some (.lst (potL P)), some (.lst (js.map dP))]) =
      some (.nx, [some (.loc st.length), many, some (.d (.int scale)), some (.loc (st.length + 1)), some (.d (.int wide)), some (.d (dN i))], st ++ [some (.lst (potL P')), some (.lst (j'.map dP))]) := by
  obtain ⟨r1, P1, a1, a2, a3, a4⟩ := s_take h (by omega) hs (by omega) st
  obtain ⟨r2, P2, b1, b2, b3, b4⟩ := s_take a3 (by omega) hw (by omega) st
  have eA := ev_drwA sem__law_take (many := many) (v5 := some (.d (dN i))) (X := js.map dP) (by rw [List.length_map]; omega) a4 b4
  have hb : JB (1 + r1, r2) := ⟨by simp only; omega, by simp only; omega, b1, by simp only; omega⟩
  have eX : js.map dP ++ [.tuple [.int (1 + r1), .int r2]] = (js ++ [(1 + r1, r2)]).map dP := by rw [List.map_append]; rfl
  have hjs : ∀ j ∈ js ++ [(1 + r1, r2)], JB j := fun j q => by
    rcases List.mem_append.mp q with z | z
    · exact hj j z
    · rw [List.mem_singleton.mp z]; exact hb
  cases i with
  | zero =>
    have eB := ev_drwB0 sem__law_take sem__law_of (V0 := some (.loc st.length)) (many := many) (scale := some (.d (.int scale))) (wide := some (.d (.int wide))) (V3 := some (.loc (st.length + 1))) (S := st ++ [some (.lst (potL P2)), some (.lst ((js ++ [(1 + r1, r2)]).map dP))])
    refine ⟨P2, js ++ [(1 + r1, r2)], ⟨b3.own, b3.m0, b3.m1, b3.k0, by have := b3.k1; omega⟩, hjs, by simp, ?_⟩
    rw [v_sCons, eA, v_obind, eX]
    simp only
    rw [v_sCons]
    have eB' : drwB sem__law_take sem__law_of [some (.loc st.length), many, some (.d (.int scale)), some (.loc (st.length + 1)), some (.d (.int wide)), some (.d (dN 0))] _ = _ := eB
    rw [eB']
    rfl
  | succ i =>
    obtain ⟨r3, P3, c1, c2, c3, c4⟩ := s_take b3 (by omega) (u := 5) (by omega) (by omega) st
    have hi0 : (0 : Int) < ((i + 1 : Nat) : Int) := by omega
    by_cases hr : r3 = 0
    · subst hr
      rcases List.eq_nil_or_concat js with e | ⟨fs, a, e⟩
      · rw [e] at hi; simp at hi
      · rw [List.concat_eq_append] at e
        have ha : JB a := hj a (by rw [e]; simp)
        obtain ⟨y, P4, d1, d2, d3⟩ := s_of c3 (by omega) (V := .list [dP a, dP (1 + r1, a.2), dP (a.1, r2)]) (xs := [dP a, dP (1 + r1, a.2), dP (a.1, r2)]) (by simp) (by simp) (.inl rfl) st
        have hy : ∃ j, JB j ∧ y = dP j := by
          simp only [List.mem_cons, List.not_mem_nil, or_false] at d1
          rcases d1 with z | z | z
          · exact ⟨a, ha, z⟩
          · exact ⟨(1 + r1, a.2), ⟨hb.1, hb.2.1, ha.2.2.1, ha.2.2.2⟩, z⟩
          · exact ⟨(a.1, r2), ⟨ha.1, ha.2.1, hb.2.2.1, hb.2.2.2⟩, z⟩
        obtain ⟨j, hjj, rfl⟩ := hy
        have eB := ev_drwB2 sem__law_take sem__law_of (many := many) (scale := some (.d (.int scale))) (wide := some (.d (.int wide))) (st := st) (g := []) (X := fs.map dP) (a := a) (b := (1 + r1, r2)) hi0 c4 d3
        refine ⟨P4, fs ++ [a, j], ⟨d2.own, d2.m0, d2.m1, d2.k0, by have := d2.k1; omega⟩, fun x q => ?_, by rw [e]; simp, ?_⟩
        · rcases List.mem_append.mp q with z | z
          · exact hj x (by rw [e]; exact List.mem_append_left _ z)
          · simp only [List.mem_cons, List.not_mem_nil, or_false] at z
            rcases z with z | z
            · rw [z]; exact ha
            · rw [z]; exact hjj
        · rw [v_sCons, eA, v_obind, eX]
          simp only
          rw [v_sCons]
          have e6 : (js ++ [(1 + r1, r2)]).map dP = fs.map dP ++ [dP a, dP (1 + r1, r2)] := by rw [e]; simp
          have e7 : (fs ++ [a, j]).map dP = fs.map dP ++ [dP a, dP j] := by simp
          rw [e6, e7]
          have eB' : drwB sem__law_take sem__law_of [some (.loc st.length), many, some (.d (.int scale)), some (.loc (st.length + 1)), some (.d (.int wide)), some (.d (dN (i + 1)))] _ = _ := eB
          rw [eB']
          rfl
    · have eB := ev_drwB1 sem__law_take sem__law_of (many := many) (scale := some (.d (.int scale))) (wide := some (.d (.int wide))) (V3 := some (.loc (st.length + 1))) (st := st) (g := [some (.lst ((js ++ [(1 + r1, r2)]).map dP))]) hi0 hr c4
      refine ⟨P3, js ++ [(1 + r1, r2)], ⟨c3.own, c3.m0, c3.m1, c3.k0, by have := c3.k1; omega⟩, hjs, by simp, ?_⟩
      rw [v_sCons, eA, v_obind, eX]
      simp only
      rw [v_sCons]
      have eB' : drwB sem__law_take sem__law_of [some (.loc st.length), many, some (.d (.int scale)), some (.loc (st.length + 1)), some (.d (.int wide)), some (.d (dN (i + 1)))] _ = _ := eB
      rw [eB']
      rfl
end K42

end
section
set_option Elab.async false
set_option linter.all false
set_option autoImplicit false
set_option maxRecDepth 100000
set_option maxHeartbeats 1000000
namespace K42
open PySem PySem.Spec PyProof.Rows L2 QL MH
theorem a_iRg {f : Ev} {ρ : Rho} {st s1 : Sto} {n : Nat} {c : Bool} (h : f ρ st = some (.d (.int n), s1)) (hc : smallI (n : Int) = c) (ok : c = true) : iRg1 f ρ st = some ((List.range n).map dN, s1) := by
  have e : iRg1 f ρ st = (f ρ st >>= fun a => match a.1 with
    | .d (.int n) => if smallI n = true then some (rgD 0 n.toNat, a.2) else none
    | _ => none) := rfl
  rw [e, h, v_obind]
  show (if smallI (n : Int) = true then some (rgD 0 (n : Int).toNat, s1) else none) = _
  rw [hc, ok, Int.toNat_natCast, rgD_map]
  rfl
theorem small_n {n : Nat} (h : n ≤ 16777216) : smallI (n : Int) = true := by
  have e1 : (2 : Int) ^ 62 = 4611686018427387904 := by decide
  unfold smallI
  rw [e1]
  simp only [Bool.and_eq_true, decide_eq_true_eq]
  omega
def drwL : Ex := (sCons (drwA sem__law_take) (sCons (drwB sem__law_take sem__law_of) sNil))
theorem loop_drw {scale wide : Int} (hs : 1 ≤ scale) (hs2 : scale ≤ 1000) (hw : 1 ≤ wide) (hw2 : wide ≤ 24001) (st : Sto) (many : Option Vl) : ∀ (k a : Nat) (c : Int) (P : Int × Int × Int) (js : List (Int × Int)) (v5 : Option Vl), js.length = a → POk c P → c + 4 * k ≤ 900 → a + k ≤ 24 → (∀ j ∈ js, JB j) →
    ∃ (P' : Int × Int × Int) (j' : List (Int × Int)) (v5' : Option Vl), POk (c + 4 * k) P' ∧ (∀ j ∈ j', JB j) ∧ j'.length = a + k ∧ loopD (bName 5) drwL ((List.range' a k).map dN) [some (.loc st.length), many, some (.d (.int scale)), some (.loc (st.length + 1)), some (.d (.int wide)), v5] (st ++ [some (.lst (potL P)), some (.lst (js.map dP))]) =
      some (.nx, [some (.loc st.length), many, some (.d (.int scale)), some (.loc (st.length + 1)), some (.d (.int wide)), v5'], st ++ [some (.lst (potL P')), some (.lst (j'.map dP))])
  | 0, a, c, P, js, v5, ha, h, _, _, hj => ⟨P, js, v5, by simpa using h, hj, by simpa using ha, rfl⟩
  | k + 1, a, c, P, js, v5, ha, h, hc, hk, hj => by
    obtain ⟨P1, j1, b1, b2, b3, b4⟩ := ev_drw h (by omega) hs hs2 hw hw2 hj (by omega) st many ha
    obtain ⟨P2, j2, v5', d1, d2, d3, d4⟩ := loop_drw hs hs2 hw hw2 st many k (a + 1) (c + 4) P1 j1 (some (.d (dN a))) (by omega) b1 (by omega) (by omega) b2
    refine ⟨P2, j2, v5', ⟨d1.own, d1.m0, d1.m1, d1.k0, by have := d1.k1; omega⟩, d2, by omega, ?_⟩
    rw [List.range'_succ, List.map_cons, v_loop1]
    have eb : bName 5 (.d (dN a)) [some (.loc st.length), many, some (.d (.int scale)), some (.loc (st.length + 1)), some (.d (.int wide)), v5] (st ++ [some (.lst (potL P)), some (.lst (js.map dP))]) = some ([some (.loc st.length), many, some (.d (.int scale)), some (.loc (st.length + 1)), some (.d (.int wide)), some (.d (dN a))], st ++ [some (.lst (potL P)), some (.lst (js.map dP))]) := rfl
    rw [eb, v_obind]
    have b4' : drwL [some (.loc st.length), many, some (.d (.int scale)), some (.loc (st.length + 1)), some (.d (.int wide)), some (.d (dN a))] (st ++ [some (.lst (potL P)), some (.lst (js.map dP))]) = _ := b4
    rw [b4', v_obind]
    exact d4
theorem v_take1 (st g : Sto) (a : Option Cell) : (st ++ a :: g).take (st.length + 1) = st ++ [a] := by
  rw [List.take_append, List.take_of_length_le (by omega), show st.length + 1 - st.length = 1 by omega]
  rfl
theorem a_drawn (F1 F2 : Fn) (B : Ex) {st : Sto} {p0 p1 p2 p3 p4 : Option Cell} {r1 r3 sc x y : Int} {L X : List PyData} {v5 : Option Vl} (e1 : ∀ g, F1 [.loc st.length, .d (.int 24)] (st ++ p0 :: g) = some (.d (.int r1), st ++ p1 :: g)) (e2 : ∀ g, F2 [.loc st.length, .d (.list [.int 2, .int 9, .int 1000])] (st ++ p1 :: g) = some (.d (.int sc), st ++ p2 :: g))
    (e3 : ∀ g, F1 [.loc st.length, .d (.int 4)] (st ++ p2 :: g) = some (.d (.int r3), st ++ p3 :: g)) (hm : gMul (.int (1 + r1)) (.int sc) = some (.int x)) (hd : gDiv (.int x) (.int (1 + r3)) = some (.int y))
    (hi : ∀ S, iRg1 (eVar 1) [some (.loc st.length), some (.d (.int (1 + r1))), some (.d (.int sc)), some (.loc (st.length + 1)), some (.d (.int (1 + y))), none] S = some (L, S))
    (e4 : loopD (bName 5) B L [some (.loc st.length), some (.d (.int (1 + r1))), some (.d (.int sc)), some (.loc (st.length + 1)), some (.d (.int (1 + y))), none] (st ++ [p3, some (.lst [])]) = some (.nx, [some (.loc st.length), some (.d (.int (1 + r1))), some (.d (.int sc)), some (.loc (st.length + 1)), some (.d (.int (1 + y))), v5], st ++ [p4, some (.lst X)])) :
    fnS 6 1 (sCons (sPar3 1 2 3 (aCons (eOp1 gInt (eOp2 gAdd (eC (.int 1)) (eCall F1 (aCons (eVar 0) (aCons (eC (.int 24)) aNil))))) (aCons (eOp1 gInt (eCall F2 (aCons (eVar 0) (aCons (eFz (lDisp (aCons (eC (.int 2)) (aCons (eC (.int 9)) (aCons (eC (.int 1000)) aNil))))) aNil)))) (aCons (eOwn (lDisp aNil)) aNil))))
 (sCons (sAsg (eOp2 gAdd (eC (.int 1)) (eOp2 gDiv (eOp2 gMul (eVar 1) (eVar 2)) (eOp2 gAdd (eC (.int 1)) (eOp1 gInt (eCall F1 (aCons (eVar 0) (aCons (eC (.int 4)) aNil))))))) (bName 4))
 (sCons (sFor (iRg1 (eVar 1)) (bName 5) B)
 (sCons (sRet (eOp1 gTuple (eVar 3)))
 sNil)))) [.loc st.length] (st ++ [p0]) = some (.d (.tuple X), st ++ [p4]) := by
  have ep : sPar3 1 2 3 (aCons (eOp1 gInt (eOp2 gAdd (eC (.int 1)) (eCall F1 (aCons (eVar 0) (aCons (eC (.int 24)) aNil))))) (aCons (eOp1 gInt (eCall F2 (aCons (eVar 0) (aCons (eFz (lDisp (aCons (eC (.int 2)) (aCons (eC (.int 9)) (aCons (eC (.int 1000)) aNil))))) aNil)))) (aCons (eOwn (lDisp aNil)) aNil))) [some (.loc st.length), none, none, none, none, none] (st ++ [p0]) = some (.nx, [some (.loc st.length), some (.d (.int (1 + r1))), some (.d (.int sc)), some (.loc (st.length + 1)), none, none], st ++ [p2, some (.lst [])]) := by
    have e1' := e1 []
    have e2' := e2 []
    unfold sPar3
    simp [e1', e2']
  have e3' := e3 [some (.lst [])]
  have hi' := hi (st ++ [p3, some (.lst [])])
  generalize sPar3 1 2 3 (aCons (eOp1 gInt (eOp2 gAdd (eC (.int 1)) (eCall F1 (aCons (eVar 0) (aCons (eC (.int 24)) aNil))))) (aCons (eOp1 gInt (eCall F2 (aCons (eVar 0) (aCons (eFz (lDisp (aCons (eC (.int 2)) (aCons (eC (.int 9)) (aCons (eC (.int 1000)) aNil))))) aNil)))) (aCons (eOwn (lDisp aNil)) aNil))) = PP at ep ⊢
  generalize iRg1 (eVar 1) = IR at hi' ⊢
  simp [-QL.v_mul, ep, hm, e3', hd, hi', e4, v_tuple_l, v_take1]
theorem s_drawn {P : Int × Int × Int} (h : POk 0 P) (st : Sto) : ∃ (P' : Int × Int × Int) (js : List (Int × Int)), POk 200 P' ∧ (∀ j ∈ js, JB j) ∧ 1 ≤ js.length ∧ js.length ≤ 24 ∧ sem__law_drawn [.loc st.length] (st ++ [some (.lst (potL P))]) = some (.d (encJ js), st ++ [some (.lst (potL P'))]) := by
  obtain ⟨r1, P1, a1, a2, a3, a4⟩ := s_take h (by omega) (u := 24) (by omega) (by omega) st
  obtain ⟨sc, P2, b1, b2, b3⟩ := s_of a3 (by omega) (V := .list [.int 2, .int 9, .int 1000]) (xs := [.int 2, .int 9, .int 1000]) (by simp) (by simp) (.inl rfl) st
  obtain ⟨r3, P3, c1, c2, c3, c4⟩ := s_take b2 (by omega) (u := 4) (by omega) (by omega) st
  obtain ⟨s, hs1, hs2, rfl⟩ : ∃ s : Int, 1 ≤ s ∧ s ≤ 1000 ∧ sc = .int s := by
    simp only [List.mem_cons, List.not_mem_nil, or_false] at b1
    rcases b1 with z | z | z
    · exact ⟨2, by decide, by decide, z⟩
    · exact ⟨9, by decide, by decide, z⟩
    · exact ⟨1000, by decide, by decide, z⟩
  obtain ⟨n, hn⟩ : ∃ n : Nat, 1 + r1 = (n : Int) := ⟨(1 + r1).toNat, by omega⟩
  have hx0 : 0 ≤ (1 + r1) * s := Int.mul_nonneg (by omega) (by omega)
  have hx1 : (1 + r1) * s ≤ 24 * 1000 := Int.mul_le_mul (by omega) hs2 (by omega) (by decide)
  have hy0 : 0 ≤ (1 + r1) * s / (1 + r3) := Int.ediv_nonneg hx0 (by omega)
  have hy1 : (1 + r1) * s / (1 + r3) ≤ 24000 := Int.le_trans (Int.ediv_le_self _ hx0) (by omega)
  obtain ⟨P4, js, v5, d1, d2, d3, d4⟩ := loop_drw hs1 hs2 (wide := 1 + (1 + r1) * s / (1 + r3)) (by omega) (by omega) st (some (.d (.int (1 + r1)))) n 0 (0 + 1 + 1 + 1) P3 [] none rfl c3 (by omega) (by omega) (fun j q => by cases q)
  refine ⟨P4, js, ⟨d1.own, d1.m0, d1.m1, d1.k0, by have := d1.k1; omega⟩, d2, by omega, by omega, ?_⟩
  rw [← List.range_eq_range'] at d4
  refine a_drawn sem__law_take sem__law_of drwL a4 b3 c4 (mul_r (by omega) (by omega)) (div_s (by omega) (by omega)) (fun S => ?_) d4
  refine a_iRg (c := true) ?_ (small_n (by omega)) rfl
  rw [← hn]
  rfl
end K42

end
section
set_option Elab.async false
set_option linter.all false
set_option autoImplicit false
set_option maxRecDepth 100000
set_option maxHeartbeats 1000000
namespace K42
open PySem PySem.Spec PyProof.Rows L2 QL MH
def pr (js : List (Int × Int)) (a : Nat) : PyData := .tuple [.int (dOf js a), .int (a : Int)]
theorem ix_job' {js : List (Int × Int)} {a : Nat} (h : a < js.length) : gIx (encJ js) (.int (a : Int)) = some (.tuple [.int (pOf js a), .int (dOf js a)]) := ix_job h
theorem sort_pr (js : List (Int × Int)) (is : List Nat) : gSort (.list (is.map (pr js))) = some ((edd js is).map (pr js)) := gSort_pairs (fun a => dOf js a) (fun a : Nat => (a : Int)) is
def arB : Ex := (sCons (sAsg (eOp2 gAdd (eVar 2) (eOp2 gIx (eOp2 gIx (eVar 0) (eVar 4)) (eC (.int 0)))) (bName 2))
 (sCons (sIf (tCmp2 pGt (eVar 2) (eVar 3)) (sCons (sRet (eC (.bool false)))
 sNil) sNil)
 sNil))
theorem loop_ar {J : PyData} (p d : Nat → Int) (st : Sto) (V1 : Vl) : ∀ (l : List Nat) (s : Int) (v3 v4 : Option Vl), (∀ a ∈ l, gIx J (.int (a : Int)) = some (.tuple [.int (p a), .int (d a)])) →
    ∃ ρ', loopD (bTup 2 (bsCons (bName 3) (bsCons (bName 4) bsNil))) arB (l.map fun a => .tuple [.int (d a), .int (a : Int)]) [some (.d J), some V1, some (.d (.int s)), v3, v4] st = some (if chk p d s l then .nx else .rt (.d (.bool false)), ρ', st)
  | [], s, v3, v4, _ => ⟨[some (.d J), some V1, some (.d (.int s)), v3, v4], rfl⟩
  | a :: l, s, v3, v4, h => by
    have h1 := h a List.mem_cons_self
    have eb : bTup 2 (bsCons (bName 3) (bsCons (bName 4) bsNil)) (.d (.tuple [.int (d a), .int (a : Int)])) [some (.d J), some V1, some (.d (.int s)), v3, v4] st = some ([some (.d J), some V1, some (.d (.int s)), some (.d (.int (d a))), some (.d (.int (a : Int)))], st) := by simp [bTup, bsCons, bsNil]
    rw [List.map_cons, v_loop1, eb]
    by_cases hc : d a < s + p a
    · refine ⟨[some (.d J), some V1, some (.d (.int (s + p a))), some (.d (.int (d a))), some (.d (.int (a : Int)))], ?_⟩
      have e1 : arB [some (.d J), some V1, some (.d (.int s)), some (.d (.int (d a))), some (.d (.int (a : Int)))] st = some (.rt (.d (.bool false)), [some (.d J), some V1, some (.d (.int (s + p a))), some (.d (.int (d a))), some (.d (.int (a : Int)))], st) := by
        simp [arB, h1, hc]
      rw [v_obind, e1]
      simp [chk, hc]
    · obtain ⟨ρ', e2⟩ := loop_ar p d st V1 l (s + p a) (some (.d (.int (d a)))) (some (.d (.int (a : Int)))) fun b hb => h b (List.mem_cons_of_mem _ hb)
      refine ⟨ρ', ?_⟩
      have e1 : arB [some (.d J), some V1, some (.d (.int s)), some (.d (.int (d a))), some (.d (.int (a : Int)))] st = some (.nx, [some (.d J), some V1, some (.d (.int (s + p a))), some (.d (.int (d a))), some (.d (.int (a : Int)))], st) := by
        simp [arB, h1, hc]
      rw [v_obind, e1]
      simp only [v_obind, chk, if_neg hc]
      exact e2
theorem a_ar (L : Lv) {J : PyData} {V1 : Vl} {st : Sto} {X Y : List PyData} {c : Bool} {ρ' : Rho} (eL : L [some (.d J), some V1, some (.d (.int 0)), none, none] st = some (X, st)) (eS : gSort (.list X) = some Y)
    (e4 : loopD (bTup 2 (bsCons (bName 3) (bsCons (bName 4) bsNil))) arB Y [some (.d J), some V1, some (.d (.int 0)), none, none] st = some (if c then .nx else .rt (.d (.bool false)), ρ', st)) :
    fnS 5 2 (sCons (sAsg (eC (.int 0)) (bName 2))
 (sCons (sFor (iSeq (eFz (lOp1 gSort (eFz L)))) (bTup 2 (bsCons (bName 3) (bsCons (bName 4) bsNil))) arB)
 (sCons (sRet (eC (.bool true)))
 sNil))) [.d J, V1] st = some (.d (.bool c), st) := by
  generalize arB = B at e4 ⊢
  simp [iSeq, eL, eS, e4]
  cases c <;> simp
theorem s_law_are {js : List (Int × Int)} (h : JOk js) {is : List Nat} (hi : ∀ a ∈ is, a < js.length) (hl : is.length ≤ 1000) (st : Sto) : sem__law_are_in_time [.d (encJ js), .d (.tuple (is.map dN))] st = some (.d (.bool (feasB js is)), st) := by
  obtain ⟨ρ', e⟩ := loop_ar (J := encJ js) (pOf js) (dOf js) st (.d (.tuple (is.map dN))) (edd js is) 0 none none fun a ha => ix_job' (hi a (edd_mem.mp ha))
  rw [chk_feasB h hi (edd_perm js is) (edd_sorted js is)] at e
  refine a_ar _ ?_ (sort_pr js is) e
  rw [v_lComp]
  have e2 : iSeq (eVar 1) [some (.d (encJ js)), some (.d (.tuple (is.map dN))), some (.d (.int 0)), none, none] st = some (is.map dN, st) := rfl
  rw [e2, v_obind]
  simp only
  rw [if_pos (by rw [List.length_map]; omega)]
  exact comp_map dN (pr js) (fun x => [some (.d (encJ js)), some (.d (.tuple (is.map dN))), some (.d (.int 0)), none, some (.d (dN x))]) is fun a ha => ⟨by simp [wipeR], by simp [ix_job (hi a ha), dN, ix_job' (hi a ha), pr]⟩
/-- the tasks of some jobs -/
def subJ (js : List (Int × Int)) (is : List Nat) : List (Int × Int) := is.map fun a => (pOf js a, dOf js a)
theorem s_as_tasks {js : List (Int × Int)} {is : List Nat} (hi : ∀ a ∈ is, a < js.length) (hl : is.length ≤ 1000) (st : Sto) : sem__law_as_tasks [.d (encJ js), .d (.tuple (is.map dN))] st = some (.d (encK (subJ js is)), st) := by
  have e : lComp [2] (iSeq (eVar 1)) (bName 2) tYesQ (eTup (aCons (eC (.int 0)) (aCons (eOp2 gIx (eOp2 gIx (eVar 0) (eVar 2)) (eC (.int 0))) (aCons (eOp2 gIx (eOp2 gIx (eVar 0) (eVar 2)) (eC (.int 1))) aNil)))) [some (.d (encJ js)), some (.d (.tuple (is.map dN))), none] st = some (is.map (tk js), st) := by
    rw [v_lComp]
    have e2 : iSeq (eVar 1) [some (.d (encJ js)), some (.d (.tuple (is.map dN))), none] st = some (is.map dN, st) := rfl
    rw [e2, v_obind]
    simp only
    rw [if_pos (by rw [List.length_map]; omega)]
    exact comp_map dN (tk js) (fun x => [some (.d (encJ js)), some (.d (.tuple (is.map dN))), some (.d (dN x))]) is fun a ha => ⟨by simp [wipeR], by simp [ix_job (hi a ha), tk]⟩
  have e3 : encK (subJ js is) = .tuple (is.map (tk js)) := by
    unfold encK subJ
    rw [List.map_map]
    rfl
  rw [e3]
  unfold sem__law_as_tasks
  generalize is.map (tk js) = X at e ⊢
  refine Eq.trans (v_fnS rfl) ?_
  have e' : (lComp [2] (iSeq (eVar 1)) (bName 2) tYesQ (eTup (aCons (eC (.int 0)) (aCons (eOp2 gIx (eOp2 gIx (eVar 0) (eVar 2)) (eC (.int 0))) (aCons (eOp2 gIx (eOp2 gIx (eVar 0) (eVar 2)) (eC (.int 1))) aNil))))) (List.map some [Vl.d (encJ js), Vl.d (.tuple (is.map dN))] ++ List.replicate (3 - [Vl.d (encJ js), Vl.d (.tuple (is.map dN))].length) none) st = some (X, st) := e
  rw [v_sCons, v_sRet, v_op1, v_eFz, e']
  simp [v_tuple_l]
theorem subJ_ok {js : List (Int × Int)} (h : JOk js) {is : List Nat} (hi : ∀ a ∈ is, a < js.length) (hl : is.length ≤ 24) : JOk (subJ js is) := ⟨by unfold subJ; rw [List.length_map]; exact hl, fun j hj => by
  obtain ⟨a, ha, rfl⟩ := List.mem_map.mp hj
  exact getD_ok h (hi a ha)⟩
end K42

end
section
set_option Elab.async false
set_option linter.all false
set_option autoImplicit false
set_option maxRecDepth 100000
set_option maxHeartbeats 1000000
namespace K42
open PySem PySem.Spec PyProof.Rows L2 QL MH
theorem compC_map {α : Type} {own : List Nat} {b : Bd} {f : Ev} {ρ : Rho} {st g : Sto} {dc : List PyData} (enc h : α → PyData) (ρ1 : α → Rho) : ∀ (xs : List α), (∀ x ∈ xs, b (.d (enc x)) (wipeR ρ own) (st ++ some (.lst dc) :: g) = some (ρ1 x, st ++ some (.lst dc) :: g) ∧ f (ρ1 x) (st ++ some (.lst dc) :: g) = some (.d (h x), st ++ some (.lst dc) :: g)) → compC st.length dc own b tYesQ f ρ (xs.map enc) (st ++ some (.lst dc) :: g) = some (xs.map h, st ++ some (.lst dc) :: g)
  | [], _ => by
    rw [List.map_nil, compC, v_getc]
    simp
  | x :: xs, hx => by
    obtain ⟨h1, h2⟩ := hx x List.mem_cons_self
    have ih := compC_map enc h ρ1 xs fun y hy => hx y (List.mem_cons_of_mem _ hy)
    have et := v_takec st g (some (.lst dc)) (some (.lst dc))
    rw [List.map_cons, compC, v_getc]
    simp only [if_true, h1, v_obind, v_yes, h2, v_datV, et, ih]
    rfl
theorem bestBy_map {α β : Type} (f : α → β) (r : β → β → Bool) : ∀ (zs : List α) (z : α), bestBy r (f z) (zs.map f) = f (bestBy (fun a b => r (f a) (f b)) z zs)
  | [], z => rfl
  | y :: zs, z => by
    have ih := bestBy_map f r zs (if r (f y) (f z) then y else z)
    have e1 : bestBy r (f z) ((y :: zs).map f) = bestBy r (if r (f y) (f z) then f y else f z) (zs.map f) := rfl
    have e2 : bestBy (fun a b => r (f a) (f b)) z (y :: zs) = bestBy (fun a b => r (f a) (f b)) (if r (f y) (f z) then y else z) zs := rfl
    rw [e1, e2, ← ih]
    congr 1
    split <;> rfl
theorem best_pair (js : List (Int × Int)) {l : List Nat} (h : l ≠ []) : gBest PySem.W.maxD (.list (l.map fun a => .tuple [.int (pOf js a), .int (a : Int)])) = some (.tuple [.int (pOf js (worst js l)), .int ((worst js l : Nat) : Int)]) := by
  cases l with
  | nil => exact absurd rfl h
  | cons z zs =>
    have e := gBest_maxP (pOf js z, (z : Int)) (zs.map fun a => (pOf js a, (a : Int)))
    rw [bestBy_map (fun a : Nat => (pOf js a, (a : Int))) (fun a b => QL.lexLt b a) zs z] at e
    rw [show (pOf js z, (z : Int)) :: zs.map (fun a : Nat => (pOf js a, (a : Int))) = (z :: zs).map (fun a : Nat => (pOf js a, (a : Int))) from rfl, List.map_map] at e
    exact e
noncomputable def mostL : Lv := lCompC [7] 1 (bName 7) tYesQ (eTup (aCons (eOp2 gIx (eOp2 gIx (eVar 0) (eVar 7)) (eC (.int 0))) (aCons (eVar 7) aNil)))
def mostB (L : Lv) : Ex := (sCons (sExpr (eMeth gApp (eVar 1) (eVar 4)))
 (sCons (sAsg (eOp2 gAdd (eVar 2) (eOp2 gIx (eOp2 gIx (eVar 0) (eVar 4)) (eC (.int 0)))) (bName 2))
 (sCons (sIf (tCmp2 pGt (eVar 2) (eVar 3)) (sCons (sAsg (eOp1 (gBest PySem.W.maxD) (eFz L)) (bTup 2 (bsCons (bName 5) (bsCons (bName 6) bsNil))))
 (sCons (sExpr (eMeth gRem (eVar 1) (eVar 6)))
 (sCons (sAsg (eOp2 gSub (eVar 2) (eVar 5)) (bName 2))
 sNil))) sNil)
 sNil)))
theorem ev_mostL {js : List (Int × Int)} {l : List Nat} (hl : ∀ a ∈ l, a < js.length) (hn : l.length ≤ 1000) (st : Sto) (V2 V3 V4 V5 V6 V7 : Option Vl) : mostL [some (.d (encJ js)), some (.loc st.length), V2, V3, V4, V5, V6, V7] (st ++ [some (.lst (l.map dN))]) = some (l.map fun a => .tuple [.int (pOf js a), .int (a : Int)], st ++ [some (.lst (l.map dN))]) := by
  have e := compC_map (own := [7]) (b := bName 7) (f := (eTup (aCons (eOp2 gIx (eOp2 gIx (eVar 0) (eVar 7)) (eC (.int 0))) (aCons (eVar 7) aNil)))) (ρ := [some (.d (encJ js)), some (.loc st.length), V2, V3, V4, V5, V6, V7]) (st := st) (g := []) (dc := l.map dN) dN (fun a => .tuple [.int (pOf js a), .int (a : Int)]) (fun a => [some (.d (encJ js)), some (.loc st.length), V2, V3, V4, V5, V6, some (.d (dN a))]) l fun a ha => ⟨by simp [wipeR], by simp [ix_job (hl a ha), dN, ix_job' (hl a ha)]⟩
  have e1 : mostL [some (.d (encJ js)), some (.loc st.length), V2, V3, V4, V5, V6, V7] (st ++ [some (.lst (l.map dN))]) = (match (st ++ [some (Cell.lst (l.map dN))])[st.length]? with
    | some (some (.lst ds)) => if ds.length ≤ 16777216 then compC st.length ds [7] (bName 7) tYesQ (eTup (aCons (eOp2 gIx (eOp2 gIx (eVar 0) (eVar 7)) (eC (.int 0))) (aCons (eVar 7) aNil))) [some (.d (encJ js)), some (.loc st.length), V2, V3, V4, V5, V6, V7] ds (st ++ [some (.lst (l.map dN))]) else none
    | _ => none) := rfl
  rw [e1, v_getc]
  simp only
  rw [if_pos (by rw [List.length_map]; omega)]
  exact e
theorem ev_mostB (L : Lv) {js : List (Int × Int)} {kept : List Nat} {a : Nat} (hk : ∀ b ∈ kept, b < js.length) (hl : kept.length < 900) (ha : a < js.length) (here : Int) (st : Sto) (v5 v6 v7 : Option Vl)
    (eL : ∀ V2 : Option Vl, L [some (.d (encJ js)), some (.loc st.length), V2, some (.d (.int (dOf js a))), some (.d (.int (a : Int))), v5, v6, v7] (st ++ [some (.lst ((kept ++ [a]).map dN))]) = some ((kept ++ [a]).map fun a => .tuple [.int (pOf js a), .int (a : Int)], st ++ [some (.lst ((kept ++ [a]).map dN))])) :
    ∃ w5 w6, mostB L [some (.d (encJ js)), some (.loc st.length), some (.d (.int here)), some (.d (.int (dOf js a))), some (.d (.int (a : Int))), v5, v6, v7] (st ++ [some (.lst (kept.map dN))]) =
      some (.nx, [some (.d (encJ js)), some (.loc st.length), some (.d (.int (mhStep js (kept, here) a).2)), some (.d (.int (dOf js a))), some (.d (.int (a : Int))), w5, w6, v7], st ++ [some (.lst ((mhStep js (kept, here) a).1.map dN))]) := by
  have e0 : gApp (kept.map dN) (.int (a : Int)) = some ((kept ++ [a]).map dN, .none) := gApp_nat kept a (by omega)
  have hw := worst_mem js (l := kept ++ [a]) (by simp)
  have er : gRem ((kept ++ [a]).map dN) (.int ((worst js (kept ++ [a]) : Nat) : Int)) = some (((kept ++ [a]).erase (worst js (kept ++ [a]))).map dN, .none) := gRem_nat hw
  have eb := best_pair js (l := kept ++ [a]) (by simp)
  have i1 := ix_job' ha
  unfold mhStep
  by_cases hc : dOf js a < here + pOf js a
  · refine ⟨some (.d (.int (pOf js (worst js (kept ++ [a]))))), some (.d (.int ((worst js (kept ++ [a]) : Nat) : Int))), ?_⟩
    rw [if_pos hc]
    simp only
    generalize worst js (kept ++ [a]) = w at er eb ⊢
    generalize (List.erase (kept ++ [a]) w).map dN = R at er ⊢
    generalize (kept ++ [a]).map dN = X at e0 er eL
    generalize ((kept ++ [a]).map fun a => PyData.tuple [.int (pOf js a), .int (a : Int)]) = Z at eb eL
    generalize kept.map dN = Y at e0 ⊢
    generalize encJ js = J at *
    simp [mostB, e0, i1, hc, eL, eb, er, bTup, bsCons, bsNil]
  · refine ⟨v5, v6, ?_⟩
    rw [if_neg hc]
    simp only
    generalize (kept ++ [a]).map dN = X at e0 eL ⊢
    generalize kept.map dN = Y at e0 ⊢
    generalize encJ js = J at *
    simp [mostB, e0, i1, hc]
theorem loop_most {js : List (Int × Int)} (st : Sto) : ∀ (as kept : List Nat) (here : Int) (v3 v4 v5 v6 : Option Vl), (∀ b ∈ kept, b < js.length) → (∀ b ∈ as, b < js.length) → kept.length + as.length < 900 →
    ∃ w3 w4 w5 w6, loopD (bTup 2 (bsCons (bName 3) (bsCons (bName 4) bsNil))) (mostB mostL) (as.map (pr js)) [some (.d (encJ js)), some (.loc st.length), some (.d (.int here)), v3, v4, v5, v6, none] (st ++ [some (.lst (kept.map dN))]) =
      some (.nx, [some (.d (encJ js)), some (.loc st.length), some (.d (.int (as.foldl (mhStep js) (kept, here)).2)), w3, w4, w5, w6, none], st ++ [some (.lst ((as.foldl (mhStep js) (kept, here)).1.map dN))])
  | [], kept, here, v3, v4, v5, v6, _, _, _ => ⟨v3, v4, v5, v6, rfl⟩
  | a :: as, kept, here, v3, v4, v5, v6, hk, ha, hl => by
    simp only [List.length_cons] at hl
    have ha' := ha a List.mem_cons_self
    have hka : ∀ b ∈ kept ++ [a], b < js.length := fun b hb => by
      rcases List.mem_append.mp hb with q | q
      · exact hk b q
      · rw [List.mem_singleton.mp q]; exact ha'
    obtain ⟨u5, u6, e⟩ := ev_mostB mostL hk (by omega) ha' here st v5 v6 none fun V2 => ev_mostL hka (by rw [List.length_append]; simp only [List.length_singleton]; omega) st _ _ _ _ _ _
    obtain ⟨w3, w4, w5, w6, e2⟩ := loop_most st as (mhStep js (kept, here) a).1 (mhStep js (kept, here) a).2 (some (.d (.int (dOf js a)))) (some (.d (.int (a : Int)))) u5 u6 (fun b hb => by
      rcases mhStep_mem js _ a b hb with q | q
      · exact hk b q
      · rw [q]; exact ha') (fun b hb => ha b (List.mem_cons_of_mem _ hb)) (by
      have := mhStep_len js (kept, here) a
      simp only at this
      omega)
    refine ⟨w3, w4, w5, w6, ?_⟩
    rw [List.map_cons, v_loop1]
    have eb : bTup 2 (bsCons (bName 3) (bsCons (bName 4) bsNil)) (.d (pr js a)) [some (.d (encJ js)), some (.loc st.length), some (.d (.int here)), v3, v4, v5, v6, none] (st ++ [some (.lst (kept.map dN))]) = some ([some (.d (encJ js)), some (.loc st.length), some (.d (.int here)), some (.d (.int (dOf js a))), some (.d (.int (a : Int))), v5, v6, none], st ++ [some (.lst (kept.map dN))]) := by simp [bTup, bsCons, bsNil, pr]
    rw [eb, v_obind, e, v_obind]
    exact e2
theorem a_lmost (L : Lv) (B : Ex) {J : PyData} {st : Sto} {X Y : List PyData} {ks k : List PyData} {t : Int} {v3 v4 v5 v6 : Option Vl} (eL : L [some (.d J), some (.loc st.length), some (.d (.int 0)), none, none, none, none, none] (st ++ [some (.lst [])]) = some (X, st ++ [some (.lst [])])) (eS : gSort (.list X) = some Y)
    (e : loopD (bTup 2 (bsCons (bName 3) (bsCons (bName 4) bsNil))) B Y [some (.d J), some (.loc st.length), some (.d (.int 0)), none, none, none, none, none] (st ++ [some (.lst [])]) = some (.nx, [some (.d J), some (.loc st.length), some (.d (.int t)), v3, v4, v5, v6, none], st ++ [some (.lst ks)]))
    (hs : gSort (.list ks) = some k) :
    fnS 8 1 (sCons (sPar2 1 2 (aCons (eOwn (lDisp aNil)) (aCons (eC (.int 0)) aNil)))
 (sCons (sFor (iSeq (eFz (lOp1 gSort (eFz L)))) (bTup 2 (bsCons (bName 3) (bsCons (bName 4) bsNil))) B)
 (sCons (sRet (eOp1 gTuple (eFz (lOp1 gSort (eVar 1)))))
 sNil))) [.d J] st = some (.d (.tuple k), st) := by
  simp [iSeq, eL, eS, e, hs, v_tuple_l]
theorem s_law_most {js : List (Int × Int)} (h : js.length ≤ 24) (st : Sto) : sem__law_most [.d (encJ js)] st = some (.d (.tuple ((mh js).map dN)), st) := by
  obtain ⟨v3, v4, v5, v6, e⟩ := loop_most (js := js) st (edd js (List.range js.length)) [] 0 none none none none (fun b hb => by cases hb) (fun b hb => by
    rw [edd_mem] at hb
    exact List.mem_range.mp hb) (by
    rw [edd, List.length_mergeSort, List.length_range]
    simp
    omega)
  refine a_lmost _ (mostB mostL) ?_ (sort_pr js (List.range js.length)) e (gSort_nat _)
  rw [v_lComp]
  have e2 : iRg1 (eOp1 gLen (eVar 0)) [some (.d (encJ js)), some (.loc st.length), some (.d (.int 0)), none, none, none, none, none] (st ++ [some (.lst [])]) = some ((List.range js.length).map dN, st ++ [some (.lst [])]) := a_iRg (c := true) (by simp [len_encJ]) (small_n (by omega)) rfl
  rw [e2, v_obind]
  simp only
  rw [if_pos (by rw [List.length_map, List.length_range]; omega)]
  exact comp_map dN (pr js) (fun x => [some (.d (encJ js)), some (.loc st.length), some (.d (.int 0)), none, some (.d (dN x)), none, none, none]) (List.range js.length) fun a ha => by
    have ha := List.mem_range.mp ha
    exact ⟨by simp [wipeR], by simp [ix_job ha, dN, ix_job' ha, pr]⟩
end K42

end
section
set_option Elab.async false
set_option linter.all false
set_option autoImplicit false
set_option maxRecDepth 100000
set_option maxHeartbeats 1000000
namespace K42
open PySem PySem.Spec PyProof.Rows L2 QL MH
theorem sub_get {js : List (Int × Int)} {is : List Nat} {i : Nat} (hi : i < is.length) : pOf (subJ js is) i = pOf js (is.getD i 0) ∧ dOf (subJ js is) i = dOf js (is.getD i 0) := by
  have e : (subJ js is).getD i (0, 0) = (pOf js (is.getD i 0), dOf js (is.getD i 0)) := by
    unfold subJ
    rw [List.getD_eq_getElem?_getD, List.getElem?_map, List.getD_eq_getElem?_getD, List.getElem?_eq_getElem hi]
    rfl
  have e1 : pOf (subJ js is) i = ((subJ js is).getD i (0, 0)).1 := rfl
  have e2 : dOf (subJ js is) i = ((subJ js is).getD i (0, 0)).2 := rfl
  rw [e1, e2, e]
  exact ⟨rfl, rfl⟩
theorem range_getD : ∀ is : List Nat, (List.range is.length).map (fun i => is.getD i 0) = is := fun is => by
  refine List.ext_getElem (by simp) fun i h1 h2 => ?_
  simp [List.getD_eq_getElem?_getD, h2]
theorem feas_sub {js : List (Int × Int)} {is : List Nat} : Feas (pOf (subJ js is)) (dOf (subJ js is)) (List.range is.length) ↔ Feas (pOf js) (dOf js) is := by
  have e : ∀ D, MH.cnt (pOf (subJ js is)) (dOf (subJ js is)) D (List.range is.length) = MH.cnt (pOf js) (dOf js) D is := fun D => by
    conv => rhs; rw [← range_getD is]
    unfold MH.cnt
    rw [tot_map]
    refine tot_congr fun i hi => ?_
    obtain ⟨a, b⟩ := sub_get (js := js) (List.mem_range.mp hi)
    rw [a, b]
  unfold Feas
  exact ⟨fun h D hD => by rw [← e]; exact h D hD, fun h D hD => by rw [e]; exact h D hD⟩
theorem subJ_len (js : List (Int × Int)) (is : List Nat) : (subJ js is).length = is.length := by unfold subJ; rw [List.length_map]
theorem subJ_ne {js : List (Int × Int)} {is : List Nat} (h : is ≠ []) : subJ js is ≠ [] := by
  unfold subJ
  simpa using h
/-- what is told with one more job -/
def moreN (js : List (Int × Int)) (a : Nat) : List Nat := (mh js ++ [a]).mergeSort fun a b => decide (a ≤ b)
theorem more_perm (js : List (Int × Int)) (a : Nat) : (moreN js a).Perm (mh js ++ [a]) := List.mergeSort_perm _ _
theorem more_nodup {js : List (Int × Int)} (h : JOk js) {a : Nat} (ha : a ∉ mh js) : (moreN js a).Nodup := (more_perm js a).nodup_iff.mpr (nodup_snoc (mh_nodup h) ha)
theorem more_lt {js : List (Int × Int)} (h : JOk js) {a : Nat} (ha : a < js.length) : ∀ b ∈ moreN js a, b < js.length := fun b hb => by
  rcases List.mem_append.mp ((more_perm js a).mem_iff.mp hb) with q | q
  · exact mh_lt h b q
  · rw [List.mem_singleton.mp q]; exact ha
theorem more_len (js : List (Int × Int)) (a : Nat) : (moreN js a).length = (mh js).length + 1 := by rw [(more_perm js a).length_eq]; simp
theorem more_le {js : List (Int × Int)} (h : JOk js) {a : Nat} (ha : a < js.length) (hn : a ∉ mh js) : (moreN js a).length ≤ 24 := by
  have := len_le_of_sub (more_nodup h hn) (m := List.range js.length) fun b hb => List.mem_range.mpr (more_lt h ha b hb)
  rw [List.length_range] at this
  exact Nat.le_trans this h.len
theorem more_not {js : List (Int × Int)} (h : JOk js) {a : Nat} (ha : a < js.length) (hn : a ∉ mh js) : ¬ Feas (pOf js) (dOf js) (moreN js a) := fun F => by
  have := mh_most h (more_nodup h hn) (more_lt h ha) F
  rw [more_len] at this
  omega
theorem more_notB {js : List (Int × Int)} (h : JOk js) {a : Nat} (ha : a < js.length) (hn : a ∉ mh js) : feasB js (moreN js a) = false := by
  cases e : feasB js (moreN js a) with
  | false => rfl
  | true => exact absurd (feasB_iff.mp e) (more_not h ha hn)
/-! ### from one list of jobs to another -/
theorem feas_move {js j2 : List (Int × Int)} (φ : Nat → Nat) {l : List Nat} (hp : ∀ a ∈ l, pOf j2 (φ a) = pOf js a) (h0 : ∀ a ∈ l, 0 ≤ pOf js a) (hd : ∀ a ∈ l, dOf js a ≤ dOf j2 (φ a)) (F : Feas (pOf js) (dOf js) l) : Feas (pOf j2) (dOf j2) (l.map φ) := fun D hD => by
  refine Int.le_trans ?_ (F D hD)
  unfold MH.cnt
  rw [tot_map]
  refine tot_le fun a ha => ?_
  have h1 := hp a ha
  have h2 := hd a ha
  have h3 := h0 a ha
  simp only [h1]
  split <;> split <;> omega
theorem most_move {js j2 : List (Int × Int)} (h : JOk js) (h2 : JOk j2) (φ : Nat → Nat) {l : List Nat} (hn : l.Nodup) (hl : ∀ a ∈ l, a < js.length) (hi : ∀ a ∈ l, ∀ b ∈ l, φ a = φ b → a = b) (hr : ∀ a ∈ l, φ a < j2.length) (hp : ∀ a ∈ l, pOf j2 (φ a) = pOf js a) (hd : ∀ a ∈ l, dOf js a ≤ dOf j2 (φ a)) (F : Feas (pOf js) (dOf js) l) : l.length ≤ (mh j2).length := by
  have e := mh_most h2 (S := l.map φ) ?_ (fun a ha => by
    obtain ⟨b, hb, e⟩ := List.mem_map.mp ha
    rw [← e]
    exact hr b hb) (feas_move φ hp (fun a ha => by have := getD_ok h (hl a ha); omega) hd F)
  · rwa [List.length_map] at e
  · rw [List.nodup_iff_pairwise_ne, List.pairwise_map]
    exact hn.imp_of_mem fun {a b} ha hb q z => q (hi a ha b hb z)
theorem later_most {js j2 : List (Int × Int)} (h : JOk js) (h2 : JOk j2) (hl : j2.length = js.length) (hp : ∀ a, a < js.length → pOf j2 a = pOf js a) (hd : ∀ a, a < js.length → dOf js a ≤ dOf j2 a) : (mh js).length ≤ (mh j2).length :=
  most_move h h2 id (mh_nodup h) (mh_lt h) (fun a _ b _ e => e) (fun a ha => by rw [hl]; exact mh_lt h a ha) (fun a ha => hp a (mh_lt h a ha)) (fun a ha => hd a (mh_lt h a ha)) (mh_feas h)
end K42

end
section
set_option Elab.async false
set_option linter.all false
set_option autoImplicit false
set_option maxRecDepth 100000
set_option maxHeartbeats 1000000
namespace K42
open PySem PySem.Spec PyProof.Rows L2 QL MH
theorem cutD_map {α β : Type} (f : α → β) (xs : List α) (lo hi : Option Int) : QL.cutD (xs.map f) lo hi = (QL.cutD xs lo hi).map f := by
  unfold QL.cutD
  rw [List.length_map, List.map_take, List.map_drop]
theorem cutD_mem {α : Type} {xs : List α} {lo hi : Option Int} {x : α} (h : x ∈ QL.cutD xs lo hi) : x ∈ xs := by
  unfold QL.cutD at h
  exact List.mem_of_mem_drop (List.mem_of_mem_take h)
def restN (js : List (Int × Int)) : List Nat := (List.range js.length).filter fun a => decide (a ∉ mh js)
@[simp] theorem v_isnotB (a b : Bool) : pIsNot (.bool a) (.bool b) = some (!decide (a = b)) := rfl
def moreB (F1 F2 F3 F4 F5 : Fn) : Ex := (sCons (sAsg (eOp1 gTuple (eFz (lOp1 gSort (eOp2 gAdd (eVar 2) (eTup (aCons (eVar 3) aNil)))))) (bName 4))
 (sCons (sIf (tOrQ (tCmp2 pIsNot (eCall F1 (aCons (eVar 1) (aCons (eVar 4) aNil))) (eC (.bool false))) (tCmp2 pIsNot (eCall F2 (aCons (eVar 1) (aCons (eVar 4) aNil))) (eC (.bool false)))) (sCons (sRet (eC (.bool false)))
 sNil) sNil)
 (sCons (sAsg (eCall F3 (aCons (eVar 1) (aCons (eVar 4) aNil))) (bName 5))
 (sCons (sIf (tOrQ (tCmp2 pLt (eCall F4 (aCons (eVar 5) aNil)) (eC (.int 1))) (tCmp2 pNe (eOp2 gIx (eCall F5 (aCons (eVar 5) aNil)) (eC (.int 0))) (eC (.str "lot")))) (sCons (sRet (eC (.bool false)))
 sNil) sNil)
 sNil))))
theorem a_moreB (F1 F2 F3 F4 F5 : Fn) {J K r : PyData} {ts ms : List PyData} {m : Int} {a : PyData} {V0 v4 v5 v6 v7 v8 v9 : Option Vl} {S : Sto}
    (e0 : gAdd (.tuple ts) (.tuple [a]) = some (.tuple (ts ++ [a]))) (es : gSort (.tuple (ts ++ [a])) = some ms) (e1 : F1 [.d J, .d (.tuple ms)] S = some (.d (.bool false), S)) (e2 : F2 [.d J, .d (.tuple ms)] S = some (.d (.bool false), S)) (e3 : F3 [.d J, .d (.tuple ms)] S = some (.d K, S))
    (e4 : F4 [.d K] S = some (.d (.int m), S)) (hm : ¬ m < 1) (e5 : F5 [.d K] S = some (.d (.tuple [.str "lot", r]), S)) :
    moreB F1 F2 F3 F4 F5 [V0, some (.d J), some (.d (.tuple ts)), some (.d a), v4, v5, v6, v7, v8, v9] S = some (.nx, [V0, some (.d J), some (.d (.tuple ts)), some (.d a), some (.d (.tuple ms)), some (.d K), v6, v7, v8, v9], S) := by
  have en := ne_str (Str.ofString "lot")
  simp [moreB, e0, es, e1, e2, e3, e4, hm, e5, v_tuple_l, en]
theorem ev_moreB {js : List (Int × Int)} (h : JOk js) {a : Nat} (ha : a < js.length) (hn : a ∉ mh js) (V0 v4 v5 v6 v7 v8 v9 : Option Vl) (S : Sto) : ∃ w4 w5, moreB sem_are_in_time sem_is_most_in_time sem__law_as_tasks sem_too_long sem_with_breaks [V0, some (.d (encJ js)), some (.d (.tuple ((mh js).map dN))), some (.d (dN a)), v4, v5, v6, v7, v8, v9] S = some (.nx, [V0, some (.d (encJ js)), some (.d (.tuple ((mh js).map dN))), some (.d (dN a)), w4, w5, v6, v7, v8, v9], S) := by
  have hlt := more_lt h ha
  have hle := more_le h ha hn
  have hne : moreN js a ≠ [] := fun e => by
    have := more_len js a
    rw [e] at this
    simp at this
  have hno := more_not h ha hn
  have hk := subJ_ok h hlt hle
  obtain ⟨m, t1, t2⟩ := s_too_long hk (subJ_ne hne) S
  obtain ⟨m', r, b1, b2⟩ := s_with_breaks hk (subJ_ne hne) S
  rw [subJ_len, feas_sub] at t2 b2
  have hm : ¬ m < 1 := fun q => hno (t2.mp (by omega))
  have hm' : 0 < m' := by
    rcases Int.lt_or_le 0 m' with q | q
    · exact q
    · exact absurd (b2.mp q) hno
  rw [if_pos hm'] at b1
  have hB := more_notB h ha hn
  have i1 := s_are_in_timeT h hlt (by omega) S
  have i2 := s_is_mostT h hlt (by omega) S
  rw [hB] at i1 i2
  simp only [Bool.and_false, Bool.false_and] at i1 i2
  have es : gSort (.tuple ((mh js).map dN ++ [dN a])) = some ((moreN js a).map dN) := by
    have := gSort_natT (mh js ++ [a])
    rw [List.map_append] at this
    exact this
  have e0 : gAdd (.tuple ((mh js).map dN)) (.tuple [dN a]) = some (.tuple ((mh js).map dN ++ [dN a])) := by
    have hl : (mh js).length ≤ 24 := by
      have := more_len js a
      omega
    show (if _ then _ else _) = _
    rw [if_pos (by rw [List.length_map]; simp only [List.length_singleton]; omega)]
  exact ⟨_, _, a_moreB sem_are_in_time sem_is_most_in_time sem__law_as_tasks sem_too_long sem_with_breaks e0 es i1 i2 (s_as_tasks hlt (by omega) S) t1 hm b1⟩
end K42

end
section
set_option Elab.async false
set_option linter.all false
set_option autoImplicit false
set_option maxRecDepth 100000
set_option maxHeartbeats 1000000
namespace K42
open PySem PySem.Spec PyProof.Rows L2 QL MH
theorem loop_more {js : List (Int × Int)} (h : JOk js) (V0 v6 v7 v8 v9 : Option Vl) (S : Sto) : ∀ (as : List Nat) (v3 v4 v5 : Option Vl), (∀ a ∈ as, a < js.length ∧ a ∉ mh js) → ∃ w3 w4 w5, loopD (bName 3) (moreB sem_are_in_time sem_is_most_in_time sem__law_as_tasks sem_too_long sem_with_breaks) (as.map dN) [V0, some (.d (encJ js)), some (.d (.tuple ((mh js).map dN))), v3, v4, v5, v6, v7, v8, v9] S = some (.nx, [V0, some (.d (encJ js)), some (.d (.tuple ((mh js).map dN))), w3, w4, w5, v6, v7, v8, v9], S)
  | [], v3, v4, v5, _ => ⟨v3, v4, v5, rfl⟩
  | a :: as, v3, v4, v5, ha => by
    obtain ⟨u4, u5, e⟩ := ev_moreB h (ha a List.mem_cons_self).1 (ha a List.mem_cons_self).2 V0 v4 v5 v6 v7 v8 v9 S
    obtain ⟨w3, w4, w5, e2⟩ := loop_more h V0 v6 v7 v8 v9 S as (some (.d (dN a))) u4 u5 fun b hb => ha b (List.mem_cons_of_mem _ hb)
    refine ⟨w3, w4, w5, ?_⟩
    rw [List.map_cons, v_loop1]
    have eb : bName 3 (.d (dN a)) [V0, some (.d (encJ js)), some (.d (.tuple ((mh js).map dN))), v3, v4, v5, v6, v7, v8, v9] S = some ([V0, some (.d (encJ js)), some (.d (.tuple ((mh js).map dN))), some (.d (dN a)), v4, v5, v6, v7, v8, v9], S) := rfl
    rw [eb, v_obind, e, v_obind]
    exact e2
theorem rest_ev {js : List (Int × Int)} (h : js.length ≤ 24) {k N : Nat} {ρ : Rho} {S : Sto} {ρ1 : Nat → Rho} (own : List Nat) (f : Ev) (hf : f = eVar k) (h1 : eVar 1 ρ S = some (.d (encJ js), S)) (hx : ∀ a : Nat, bName k (.d (dN a)) (wipeR ρ own) S = some (ρ1 a, S) ∧ eVar k (ρ1 a) S = some (.d (dN a), S) ∧ eVar 2 (ρ1 a) S = some (.d (.tuple ((mh js).map dN)), S)) :
    lComp own (iRg1 (eOp1 gLen (eVar 1))) (bName k) (tCmp2 pNotIn f (eVar 2)) f ρ S = some ((restN js).map dN, S) := by
  subst hf
  rw [v_lComp]
  have e2 : iRg1 (eOp1 gLen (eVar 1)) ρ S = some ((List.range js.length).map dN, S) := a_iRg (c := true) (by simp [h1, len_encJ]) (small_n (by omega)) rfl
  rw [e2, v_obind]
  simp only
  rw [if_pos (by rw [List.length_map, List.length_range]; omega)]
  refine comp_filter dN dN (fun a => decide (a ∉ mh js)) ρ1 (List.range js.length) fun a ha => ?_
  obtain ⟨q1, q2, q3⟩ := hx a
  refine ⟨q1, ?_, fun _ => q2⟩
  have q4 := notIn_tup (mh js) a
  generalize (mh js).map dN = X at q3 q4
  simp [q2, q3, q4]
end K42

end
section
set_option Elab.async false
set_option linter.all false
set_option autoImplicit false
set_option maxRecDepth 100000
set_option maxHeartbeats 1000000
namespace K42
open PySem PySem.Spec PyProof.Rows L2 QL MH
/-- nothing told: each job is too long by itself -/
theorem none_told {js : List (Int × Int)} (h : JOk js) (hm : mh js = []) : ∀ j ∈ js, j.2 < j.1 := fun j hj => by
  obtain ⟨a, ha, e⟩ := List.getElem_of_mem hj
  have e1 : pOf js a = j.1 := by
    unfold pOf
    rw [List.getD_eq_getElem?_getD, List.getElem?_eq_getElem ha, Option.getD_some, e]
  have e2 : dOf js a = j.2 := by
    unfold dOf
    rw [List.getD_eq_getElem?_getD, List.getElem?_eq_getElem ha, Option.getD_some, e]
  have h0 := h.ok j hj
  apply Classical.byContradiction
  intro q
  have F : Feas (pOf js) (dOf js) [a] := fun D hD => by
    unfold MH.cnt
    simp only [tot]
    rw [e1, e2]
    split <;> omega
  have := mh_most h (S := [a]) (by simp) (fun b hb => by rw [List.mem_singleton.mp hb]; exact ha) F
  rw [hm] at this
  simp at this
/-- the order of the tasks of what is told -/
def ordN (js : List (Int × Int)) (is : List Nat) : List Nat := edd (subJ js is) (List.range is.length)
theorem ord_perm (js : List (Int × Int)) (is : List Nat) : (ordN js is).Perm (List.range (subJ js is).length) := by
  rw [subJ_len]
  exact edd_perm _ _
theorem ord_chk {js : List (Int × Int)} {is : List Nat} (hk : JOk (subJ js is)) (F : Feas (pOf js) (dOf js) is) : chk (pOf (subJ js is)) (dOf (subJ js is)) 0 (ordN js is) = true := by
  have hb : ∀ a ∈ List.range is.length, a < (subJ js is).length := fun a ha => by
    rw [subJ_len]
    exact List.mem_range.mp ha
  unfold ordN
  rw [chk_feasB hk hb (edd_perm _ _) (edd_sorted _ _), feasB_iff, feas_sub]
  exact F
theorem sort_prK (ks : List (Int × Int)) (is : List Nat) : gSort (.list (is.map (pr ks))) = some ((edd ks is).map (pr ks)) := sort_pr ks is
theorem ord_ev1 {ks : List (Int × Int)} (h : ks.length ≤ 24) (V0 V1 V2 V3 V4 V6 V7 V8 V9 : Option Vl) (S : Sto) : lComp [3, 9] (iEn (eVar 5)) (bTup 2 (bsCons (bName 3) (bsCons (bName 9) bsNil))) tYesQ (eTup (aCons (eOp2 gIx (eVar 9) (eC (.int 2))) (aCons (eVar 3) aNil))) [V0, V1, V2, V3, V4, some (.d (encK ks)), V6, V7, V8, V9] S = some ((List.range ks.length).map (pr ks), S) := by
  have e : iEn (eVar 5) [V0, V1, V2, V3, V4, some (.d (encK ks)), V6, V7, V8, V9] S = some ((List.range ks.length).map (encE ks), S) := enum_task ks [] S
  rw [v_lComp, e, v_obind]
  simp only
  rw [if_pos (by rw [List.length_map, List.length_range]; omega)]
  exact comp_map (encE ks) (pr ks) (fun a => [V0, V1, V2, some (.d (dN a)), V4, some (.d (encK ks)), V6, V7, V8, some (.d (tk ks a))]) (List.range ks.length) fun a ha => ⟨by simp [wipeR, bTup, bsCons, bsNil, encE], by simp [tk, pr, dN]⟩
theorem ord_ev2 (L : Lv) {ks : List (Int × Int)} {as bs : List Nat} (hl : bs.length ≤ 1000) {ρ : Rho} {S : Sto} {ρ1 : Nat → Rho} (eL : L ρ S = some (as.map (pr ks), S)) (eS : gSort (.list (as.map (pr ks))) = some (bs.map (pr ks)))
    (hb : ∀ a : Nat, bTup 2 (bsCons (bName 8) (bsCons (bName 3) bsNil)) (.d (pr ks a)) (wipeR ρ [8, 3]) S = some (ρ1 a, S) ∧ eVar 3 (ρ1 a) S = some (.d (dN a), S)) :
    lComp [8, 3] (iSeq (eFz (lOp1 gSort (eFz L)))) (bTup 2 (bsCons (bName 8) (bsCons (bName 3) bsNil))) tYesQ (eVar 3) ρ S = some (bs.map dN, S) := by
  have e : iSeq (eFz (lOp1 gSort (eFz L))) ρ S = some (bs.map (pr ks), S) := by
    generalize as.map (pr ks) = X at eL eS
    simp [iSeq, eL, eS]
  rw [v_lComp, e, v_obind]
  simp only
  rw [if_pos (by rw [List.length_map]; omega)]
  exact comp_map (pr ks) dN ρ1 bs fun a _ => hb a
end K42

end
section
set_option Elab.async false
set_option linter.all false
set_option autoImplicit false
set_option maxRecDepth 100000
set_option maxHeartbeats 1000000
namespace K42
open PySem PySem.Spec PyProof.Rows L2 QL MH
theorem a_isMore0 (IT L1 L2 : Lv) (MB : Ex) (F3 F4 F5 F6 : Fn) {V0 : Vl} {J T : PyData} {S : Sto} {X Y : List PyData} {w3 w4 w5 : Option Vl} (e0 : IT [some V0, some (.d J), some (.d T), none, none, none, none, none, none, none] S = some (X, S))
    (e1 : loopD (bName 3) MB X [some V0, some (.d J), some (.d T), none, none, none, none, none, none, none] S = some (.nx, [some V0, some (.d J), some (.d T), w3, w4, w5, none, none, none, none], S)) (eq : pEq T (.tuple []) = some true)
    (e2 : L1 [some V0, some (.d J), some (.d T), w3, w4, w5, none, none, none, none] S = some (Y, S)) (e3 : gAll (.list Y) = some (.bool true)) :
    fnS 10 3 (sCons (sFor IT (bName 3) MB)
 (sCons (sIf (tCmp2 pEq (eVar 2) (eTup aNil)) (sCons (sRet (eOp1 gAll (eFz L1))) sNil) sNil)
 (sCons (sAsg (eCall F3 (aCons (eVar 1) (aCons (eVar 2) aNil))) (bName 5))
 (sCons (sAsg (eOwn L2) (bName 6))
 (sFrz 6 (sCons (sRet (eAnd (eOp2 (gB pLe) (eCall F4 (aCons (eVar 5) aNil)) (eC (.int 0))) (eAnd (eOp2 (gB pLe) (eCall F6 (aCons (eVar 5) (aCons (eOp1 gTuple (eVar 6)) aNil))) (eC (.int 0))) (eOp2 (gB pEq) (eOp2 gIx (eCall F5 (aCons (eVar 5) aNil)) (eC (.int 0))) (eC (.str "broken")))))) sNil)))))) [V0, .d J, .d T] S = some (.d (.bool true), S) := by
  simp [e0, e1, eq, e2, e3]
theorem eq_str (x : Str) : pEq (.str x) (.str x) = some true := by
  unfold pEq
  rw [if_pos (by simp [PyData.depth])]
  simp [PyData.eqv]
theorem a_isMore1 (IT L1 L2 : Lv) (MB : Ex) (F3 F4 F5 F6 : Fn) {V0 : Vl} {J T K r : PyData} {S : Sto} {X Y : List PyData} {m1 m2 : Int} {w3 w4 w5 : Option Vl} (e0 : IT [some V0, some (.d J), some (.d T), none, none, none, none, none, none, none] S = some (X, S))
    (e1 : loopD (bName 3) MB X [some V0, some (.d J), some (.d T), none, none, none, none, none, none, none] S = some (.nx, [some V0, some (.d J), some (.d T), w3, w4, w5, none, none, none, none], S)) (eq : pEq T (.tuple []) = some false)
    (e2 : F3 [.d J, .d T] S = some (.d K, S)) (e3 : L2 [some V0, some (.d J), some (.d T), w3, w4, some (.d K), none, none, none, none] S = some (Y, S))
    (e4 : F4 [.d K] (S ++ [none]) = some (.d (.int m1), S ++ [none])) (h1 : m1 ≤ 0) (e6 : F6 [.d K, .d (.tuple Y)] (S ++ [none]) = some (.d (.int m2), S ++ [none])) (h2 : m2 ≤ 0) (e5 : F5 [.d K] (S ++ [none]) = some (.d (.tuple [.str "broken", r]), S ++ [none])) :
    fnS 10 3 (sCons (sFor IT (bName 3) MB)
 (sCons (sIf (tCmp2 pEq (eVar 2) (eTup aNil)) (sCons (sRet (eOp1 gAll (eFz L1))) sNil) sNil)
 (sCons (sAsg (eCall F3 (aCons (eVar 1) (aCons (eVar 2) aNil))) (bName 5))
 (sCons (sAsg (eOwn L2) (bName 6))
 (sFrz 6 (sCons (sRet (eAnd (eOp2 (gB pLe) (eCall F4 (aCons (eVar 5) aNil)) (eC (.int 0))) (eAnd (eOp2 (gB pLe) (eCall F6 (aCons (eVar 5) (aCons (eOp1 gTuple (eVar 6)) aNil))) (eC (.int 0))) (eOp2 (gB pEq) (eOp2 gIx (eCall F5 (aCons (eVar 5) aNil)) (eC (.int 0))) (eC (.str "broken")))))) sNil)))))) [V0, .d J, .d T] S = some (.d (.bool true), S) := by
  have es := eq_str (Str.ofString "broken")
  have ef : ∀ F : Ex, sCons (sAsg (eOwn L2) (bName 6)) (sFrz 6 F) [some V0, some (.d J), some (.d T), w3, w4, some (.d K), none, none, none, none] S = F [some V0, some (.d J), some (.d T), w3, w4, some (.d K), some (.d (.list Y)), none, none, none] (S ++ [none]) := fun F => by
    rw [own_frz' (by simp) e3]
    rfl
  refine Eq.trans (v_fnS rfl) ?_
  have e0' : IT (List.map some [V0, Vl.d J, Vl.d T] ++ List.replicate (10 - [V0, Vl.d J, Vl.d T].length) none) S = some (X, S) := e0
  rw [v_sCons, v_sFor, e0', v_obind]
  have e1' : loopD (bName 3) MB X (List.map some [V0, Vl.d J, Vl.d T] ++ List.replicate (10 - [V0, Vl.d J, Vl.d T].length) none) S = _ := e1
  simp only
  rw [e1', v_obind]
  simp only
  rw [v_sCons, v_sIf]
  simp [-v_sCons, eq]
  rw [v_sCons]
  simp [-v_sCons, e2]
  rw [ef]
  simp [e4, h1, e6, h2, e5, es, v_tuple_l]
end K42

end
section
set_option Elab.async false
set_option linter.all false
set_option autoImplicit false
set_option maxRecDepth 100000
set_option maxHeartbeats 1000000
namespace K42
open PySem PySem.Spec PyProof.Rows L2 QL MH
theorem s_is_more {js : List (Int × Int)} (h : JOk js) (V0 : Vl) (S : Sto) : sem__law_is_more_right [V0, .d (encJ js), .d (.tuple ((mh js).map dN))] S = some (.d (.bool true), S) := by
  have hr := rest_ev (js := js) h.len (k := 3) (N := 0) (ρ := [some V0, some (.d (encJ js)), some (.d (.tuple ((mh js).map dN))), none, none, none, none, none, none, none]) (S := S) (ρ1 := fun a => [some V0, some (.d (encJ js)), some (.d (.tuple ((mh js).map dN))), some (.d (dN a)), none, none, none, none, none, none]) [3] (eVar 3) rfl rfl fun a => ⟨by simp [wipeR], rfl, rfl⟩
  have e0 : iSeq (eFz (lSlL (eFz (lComp [3] (iRg1 (eOp1 gLen (eVar 1))) (bName 3) (tCmp2 pNotIn (eVar 3) (eVar 2)) (eVar 3))) oNone (oSome (eC (.int 6))))) [some V0, some (.d (encJ js)), some (.d (.tuple ((mh js).map dN))), none, none, none, none, none, none, none] S = some ((QL.cutD (restN js) none (some 6)).map dN, S) := by
    rw [← cutD_map]
    generalize (lComp [3] (iRg1 (eOp1 gLen (eVar 1))) (bName 3) (tCmp2 pNotIn (eVar 3) (eVar 2)) (eVar 3)) = L at hr ⊢
    generalize (restN js).map dN = X at hr ⊢
    simp [iSeq, lSlL, hr, oNone, oSome]
  obtain ⟨w3, w4, w5, e1⟩ := loop_more h (some V0) none none none none S (QL.cutD (restN js) none (some 6)) none none none fun a ha => by
    obtain ⟨q1, q2⟩ := List.mem_filter.mp (cutD_mem ha)
    exact ⟨List.mem_range.mp q1, by simpa using q2⟩
  by_cases hm : mh js = []
  · have eq : pEq (.tuple ((mh js).map dN)) (.tuple []) = some true := by rw [hm]; exact (eq_tupN [] []).trans (by simp)
    refine a_isMore0 _ _ _ (moreB sem_are_in_time sem_is_most_in_time sem__law_as_tasks sem_too_long sem_with_breaks) sem__law_as_tasks sem_too_long sem_with_breaks sem_lateness_of e0 e1 eq (Y := js.map fun j => .bool (decide (j.2 < j.1))) ?_ ?_
    · rw [v_lComp]
      have e : iSeq (eVar 1) [some V0, some (.d (encJ js)), some (.d (.tuple ((mh js).map dN))), w3, w4, w5, none, none, none, none] S = some (js.map dP, S) := rfl
      rw [e, v_obind]
      simp only
      have := h.len
      rw [if_pos (by rw [List.length_map]; omega)]
      exact comp_map dP (fun j => .bool (decide (j.2 < j.1))) (fun j => [some V0, some (.d (encJ js)), some (.d (.tuple ((mh js).map dN))), w3, w4, w5, none, some (.d (.int j.1)), some (.d (.int j.2)), none]) js fun j _ => ⟨by simp [wipeR, bTup, bsCons, bsNil, dP], by simp⟩
    · rw [gAll_map]
      have : (js.all fun j => decide (j.2 < j.1)) = true := by
        rw [List.all_eq_true]
        intro j hj
        exact decide_eq_true (none_told h hm j hj)
      rw [this]
  · have hlt := mh_lt h
    have hle : (mh js).length ≤ 24 := by
      have := len_le_of_sub (mh_nodup h) (m := List.range js.length) fun b hb => List.mem_range.mpr (hlt b hb)
      rw [List.length_range] at this
      exact Nat.le_trans this h.len
    have hk := subJ_ok h hlt hle
    have hkn : subJ js (mh js) ≠ [] := subJ_ne hm
    have F := mh_feas h
    obtain ⟨m1, t1, t2⟩ := s_too_long hk hkn (S ++ [none])
    obtain ⟨m', r, b1, b2⟩ := s_with_breaks hk hkn (S ++ [none])
    rw [subJ_len, feas_sub] at t2 b2
    obtain ⟨m2, l1, l2⟩ := s_lateness hk (ord_perm js (mh js)) hkn (ord_chk hk F) (S ++ [none])
    have hm' : ¬ 0 < m' := by have := b2.mpr F; omega
    rw [if_neg hm'] at b1
    have eq : pEq (.tuple ((mh js).map dN)) (.tuple []) = some false := by
      have := eq_tupN (mh js) []
      rw [List.map_nil] at this
      rw [this]
      simp [hm]
    refine a_isMore1 _ _ _ (moreB sem_are_in_time sem_is_most_in_time sem__law_as_tasks sem_too_long sem_with_breaks) sem__law_as_tasks sem_too_long sem_with_breaks sem_lateness_of e0 e1 eq (s_as_tasks hlt (by omega) S) ?_ t1 (t2.mpr F) l2 l1 b1
    have o1 := ord_ev1 hk.len (some V0) (some (.d (encJ js))) (some (.d (.tuple ((mh js).map dN)))) none w4 none none none none S
    refine ord_ev2 _ (ks := subJ js (mh js)) (as := List.range (subJ js (mh js)).length) (bs := ordN js (mh js)) (ρ1 := fun a => [some V0, some (.d (encJ js)), some (.d (.tuple ((mh js).map dN))), some (.d (dN a)), w4, some (.d (encK (subJ js (mh js)))), none, none, some (.d (.int (dOf (subJ js (mh js)) a))), none]) ?_ ?_ ?_ fun a => ⟨by simp [wipeR, bTup, bsCons, bsNil, pr, dN], rfl⟩
    · rw [(ord_perm js (mh js)).length_eq, List.length_range, subJ_len]; omega
    · exact ord_ev1 hk.len (some V0) (some (.d (encJ js))) (some (.d (.tuple ((mh js).map dN)))) w3 w4 none none none none S
    · rw [subJ_len]
      exact sort_pr _ _
end K42

end
section
set_option Elab.async false
set_option linter.all false
set_option autoImplicit false
set_option maxRecDepth 100000
set_option maxHeartbeats 1000000
namespace K42
open PySem PySem.Spec PyProof.Rows L2 QL MH
theorem mul_l {i j : Int} (h0 : 0 ≤ i) (h : i < 18446744073709551616) : gMul (.int i) (.int j) = some (.int (i * j)) := by
  have e : mulOk i j = true := by
    have e2 : (2 : Int) ^ 64 = 18446744073709551616 := by decide
    unfold mulOk
    rw [e2]
    simp only [Bool.or_eq_true, Bool.and_eq_true, decide_eq_true_eq]
    omega
  rw [QL.v_mul, if_pos e]
theorem s_cells {ns : List Int} (hl : ns.length ≤ 63) (st : Sto) : ∃ k : Nat, k ≤ 3 ∧ 1 ≤ k ∧ sem__law_cells [.d (.list (ns.map .int)), .d (.int 3)] st = some (.d (.list ((List.range k).map dN)), st) := by
  have hk : ∃ k : Nat, k ≤ 3 ∧ 1 ≤ k ∧ (if (if (ns.length : Int) < 3 then (ns.length : Int) else 3) > 1 then (if (ns.length : Int) < 3 then (ns.length : Int) else 3) else 1) = (k : Int) := by
    refine ⟨(if (if (ns.length : Int) < 3 then (ns.length : Int) else 3) > 1 then (if (ns.length : Int) < 3 then (ns.length : Int) else 3) else 1).toNat, ?_, ?_, ?_⟩ <;> split <;> split <;> omega
  obtain ⟨k, k1, k2, e⟩ := hk
  refine ⟨k, k1, k2, ?_⟩
  have er : lRg (rg1 (eOp2 gMax2 (eC (.int 1)) (eOp2 gMin2 (eVar 1) (eOp1 gLen (eVar 0))))) [some (.d (.list (ns.map .int))), some (.d (.int 3))] st = some ((List.range k).map dN, st) := by
    refine a_lRg1 ?_ (by omega)
    rw [← e]
    simp
  generalize hR : lRg (rg1 (eOp2 gMax2 (eC (.int 1)) (eOp2 gMin2 (eVar 1) (eOp1 gLen (eVar 0))))) = R at er
  unfold sem__law_cells
  rw [hR]
  generalize (List.range k).map dN = X at er ⊢
  simp [er]
end K42

end
section
set_option Elab.async false
set_option linter.all false
set_option autoImplicit false
set_option maxRecDepth 100000
set_option maxHeartbeats 1000000
namespace K42
open PySem PySem.Spec PyProof.Rows L2 QL MH
theorem rem_getD (js : List (Int × Int)) (o i : Nat) : (js.eraseIdx o).getD i (0, 0) = js.getD (if i < o then i else i + 1) (0, 0) := by
  rw [List.getD_eq_getElem?_getD, List.getD_eq_getElem?_getD, List.getElem?_eraseIdx]
  split <;> rfl
theorem rem_ok {js : List (Int × Int)} (h : JOk js) (o : Nat) : JOk (js.eraseIdx o) := ⟨Nat.le_trans (List.length_eraseIdx_le js o) h.len, fun j hj => h.ok j (List.mem_of_mem_eraseIdx hj)⟩
theorem rem_le {js : List (Int × Int)} (h : JOk js) {o : Nat} (ho : o < js.length) : (mh (js.eraseIdx o)).length ≤ (mh js).length := by
  have h2 := rem_ok h o
  have hlen : (js.eraseIdx o).length = js.length - 1 := by rw [List.length_eraseIdx, if_pos ho]
  refine most_move h2 h (fun i => if i < o then i else i + 1) (mh_nodup h2) (mh_lt h2) (fun a _ b _ e => ?_) (fun a ha => ?_) (fun a _ => ?_) (fun a _ => ?_) (mh_feas h2)
  · split at e <;> split at e <;> omega
  · have := mh_lt h2 a ha
    split <;> omega
  · unfold pOf
    rw [rem_getD]
  · unfold dOf
    rw [rem_getD]
    exact Int.le_refl _
theorem rem_ge {js : List (Int × Int)} (h : JOk js) {o : Nat} (ho : o < js.length) {l : List Nat} (hn : l.Nodup) (hl : ∀ a ∈ l, a < js.length) (hol : o ∉ l) (F : Feas (pOf js) (dOf js) l) : l.length ≤ (mh (js.eraseIdx o)).length := by
  have h2 := rem_ok h o
  have hlen : (js.eraseIdx o).length = js.length - 1 := by rw [List.length_eraseIdx, if_pos ho]
  have hne : ∀ a ∈ l, a ≠ o := fun a ha => ne_of hol ha
  have hback : ∀ a, a ≠ o → (if (if a < o then a else a - 1) < o then (if a < o then a else a - 1) else (if a < o then a else a - 1) + 1) = a := fun a ha => by
    by_cases q : a < o
    · rw [if_pos q, if_pos q]
    · rw [if_neg q, if_neg (by omega)]
      omega
  refine most_move h h2 (fun i => if i < o then i else i - 1) hn hl (fun a ha b hb e => ?_) (fun a ha => ?_) (fun a ha => ?_) (fun a ha => ?_) F
  · have := hne a ha
    have := hne b hb
    split at e <;> split at e <;> omega
  · have := hl a ha
    have := hne a ha
    split <;> omega
  · unfold pOf
    rw [rem_getD, hback a (hne a ha)]
  · unfold dOf
    rw [rem_getD, hback a (hne a ha)]
    exact Int.le_refl _
/-- all fit: all are told -/
theorem all_told {js : List (Int × Int)} (h : JOk js) (F : Feas (pOf js) (dOf js) (List.range js.length)) : mh js = List.range js.length := by
  have h1 := mh_most h List.nodup_range (fun a ha => List.mem_range.mp ha) F
  rw [List.length_range] at h1
  refine sorted_eq (mh_sorted h) (range_lt _) fun a => ⟨fun ha => List.mem_range.mpr (mh_lt h a ha), fun ha => ?_⟩
  apply Classical.byContradiction
  intro q
  have hn := nodup_snoc (mh_nodup h) q
  have := len_le_of_sub hn (m := List.range js.length) fun b hb => by
    rcases List.mem_append.mp hb with z | z
    · exact List.mem_range.mpr (mh_lt h b z)
    · rw [List.mem_singleton.mp z]; exact ha
  rw [List.length_range, List.length_append] at this
  simp only [List.length_singleton] at this
  omega
theorem told_all {js : List (Int × Int)} (h : JOk js) : (mh js).length = js.length ↔ Feas (pOf js) (dOf js) (List.range js.length) := by
  constructor
  · intro e
    have hp : ∀ a, a ∈ mh js ↔ a ∈ List.range js.length := fun a => ⟨fun ha => List.mem_range.mpr (mh_lt h a ha), fun ha => by
      apply Classical.byContradiction
      intro q
      have hn := nodup_snoc (mh_nodup h) q
      have := len_le_of_sub hn (m := List.range js.length) fun b hb => by
        rcases List.mem_append.mp hb with z | z
        · exact List.mem_range.mpr (mh_lt h b z)
        · rw [List.mem_singleton.mp z]; exact ha
      rw [List.length_range, List.length_append] at this
      simp only [List.length_singleton] at this
      omega⟩
    have := sorted_eq (mh_sorted h) (range_lt _) hp
    rw [← this]
    exact mh_feas h
  · intro F
    rw [all_told h F, List.length_range]
end K42

end
section
set_option Elab.async false
set_option linter.all false
set_option autoImplicit false
set_option maxRecDepth 100000
set_option maxHeartbeats 1000000
namespace K42
open PySem PySem.Spec PyProof.Rows L2 QL MH
theorem snoc_get (js : List (Int × Int)) (j : Int × Int) {a : Nat} (ha : a < js.length) : pOf (js ++ [j]) a = pOf js a ∧ dOf (js ++ [j]) a = dOf js a := by
  have e : (js ++ [j]).getD a (0, 0) = js.getD a (0, 0) := by
    rw [List.getD_eq_getElem?_getD, List.getD_eq_getElem?_getD, List.getElem?_append_left ha]
  unfold pOf dOf
  rw [e]
  exact ⟨rfl, rfl⟩
theorem both_ge {js : List (Int × Int)} {j : Int × Int} (h : JOk js) (h2 : JOk (js ++ [j])) : (mh js).length ≤ (mh (js ++ [j])).length :=
  most_move h h2 id (mh_nodup h) (mh_lt h) (fun a _ b _ e => e) (fun a ha => by
    have := mh_lt h a ha
    rw [List.length_append]
    show a < _
    omega) (fun a ha => (snoc_get js j (mh_lt h a ha)).1) (fun a ha => by
    show dOf js a ≤ dOf (js ++ [j]) a
    rw [(snoc_get js j (mh_lt h a ha)).2]
    exact Int.le_refl _) (mh_feas h)
theorem both_le {js : List (Int × Int)} {j : Int × Int} (h : JOk js) (h2 : JOk (js ++ [j])) : (mh (js ++ [j])).length ≤ (mh js).length + 1 := by
  have hn := (mh_nodup h2).erase js.length
  have hlt : ∀ a ∈ (mh (js ++ [j])).erase js.length, a < js.length := fun a ha => by
    have h1 := mh_lt h2 a (List.mem_of_mem_erase ha)
    have hne : a ≠ js.length := ne_of ((mh_nodup h2).not_mem_erase) ha
    rw [List.length_append, List.length_singleton] at h1
    omega
  have hp : ∀ a ∈ mh (js ++ [j]), 0 ≤ pOf (js ++ [j]) a := fun a ha => by
    have := getD_ok h2 (mh_lt h2 a ha)
    omega
  have F := (mh_feas h2).sub hn (fun a ha => List.mem_of_mem_erase ha) hp
  have := most_move h2 h id hn (fun a ha => mh_lt h2 a (List.mem_of_mem_erase ha)) (fun a _ b _ e => e) (fun a ha => hlt a ha) (fun a ha => (snoc_get js j (hlt a ha)).1.symm) (fun a ha => by
    show dOf (js ++ [j]) a ≤ dOf js a
    rw [(snoc_get js j (hlt a ha)).2]
    exact Int.le_refl _) F
  have hl := List.length_erase (l := mh (js ++ [j])) (a := js.length)
  split at hl <;> omega
end K42

end
section
set_option Elab.async false
set_option linter.all false
set_option autoImplicit false
set_option maxRecDepth 100000
set_option maxHeartbeats 1000000
namespace K42
open PySem PySem.Spec PyProof.Rows L2 QL MH
theorem repr_bb (a b : Bool) : ∃ s, gRepr (.list [.bool a, .bool b]) = some (.str s) := by
  have ok : ((PyData.list [.bool a, .bool b]).showable && !(PyData.list [.bool a, .bool b]).hasDict && decide ((PyData.list [.bool a, .bool b]).shown.length ≤ 16777216) && decide ((PyData.list [.bool a, .bool b]).depth ≤ 60)) = true := by
    cases a <;> cases b <;> decide +kernel
  exact ⟨_, if_pos ok⟩
def othB (F1 F2 F3 : Fn) : Ex := (sCons (sAsg (eAnd (eOp1 (gIsi "tuple") (eVar 8)) (eOp2 (gB pEq) (eFz (lOp1 seqOf (eVar 8))) (eFz (lOp1 gSSet (eVar 8))))) (bName 9))
 (sCons (sAsg (eAnd (eVar 9) (eCall F1 (aCons (eVar 1) (aCons (eVar 8) aNil)))) (bName 10))
 (sCons (sAsg (eAnd (eVar 10) (eOp2 (gB pEq) (eOp1 gLen (eVar 8)) (eOp1 gLen (eVar 2)))) (bName 11))
 (sCons (sIf (tCmp2 pNe (eOp1 gRepr (eFz (lDisp (aCons (eCall F2 (aCons (eVar 1) (aCons (eVar 8) aNil))) (aCons (eCall F3 (aCons (eVar 1) (aCons (eVar 8) aNil))) aNil))))) (eOp1 gRepr (eFz (lDisp (aCons (eVar 10) (aCons (eVar 11) aNil)))))) (sCons (sRet (eC (.bool false)))
 sNil) sNil)
 sNil))))
theorem a_othT (F1 F2 F3 : Fn) {J T : PyData} {xs ys : List PyData} {k m : Int} {c9 c1 : Bool} {V0 V3 v4 v5 v6 v7 v9 v10 v11 v12 : Option Vl} {S : Sto} (h1 : gSSet (.tuple xs) = some ys) (h2 : pEq (.list xs) (.list ys) = some c9) (e1 : F1 [.d J, .d (.tuple xs)] S = some (.d (.bool c1), S)) (hT : gLen T = some (.int m)) (hk : (xs.length : Int) = k)
    (e2 : F2 [.d J, .d (.tuple xs)] S = some (.d (.bool (c9 && c1)), S)) (e3 : F3 [.d J, .d (.tuple xs)] S = some (.d (.bool (c9 && c1 && (k == m))), S)) :
    ∃ w9 w10 w11, othB F1 F2 F3 [V0, some (.d J), some (.d T), V3, v4, v5, v6, v7, some (.d (.tuple xs)), v9, v10, v11, v12] S = some (.nx, [V0, some (.d J), some (.d T), V3, v4, v5, v6, v7, some (.d (.tuple xs)), w9, w10, w11, v12], S) := by
  refine ⟨some (.d (.bool c9)), some (.d (.bool (c9 && c1))), some (.d (.bool (c9 && c1 && (k == m)))), ?_⟩
  obtain ⟨s, hs⟩ := repr_bb (c9 && c1) (c9 && c1 && (k == m))
  have hn := ne_str s
  cases c9 <;> cases c1 <;> simp_all [othB, isiB]
end K42

end
section
set_option Elab.async false
set_option linter.all false
set_option autoImplicit false
set_option maxRecDepth 100000
set_option maxHeartbeats 1000000
namespace K42
open PySem PySem.Spec PyProof.Rows L2 QL MH
theorem a_othL (F1 F2 F3 : Fn) {J T : PyData} {xs : List PyData} {V0 V3 v4 v5 v6 v7 v9 v10 v11 v12 : Option Vl} {S : Sto}
    (e2 : F2 [.d J, .d (.list xs)] S = some (.d (.bool false), S)) (e3 : F3 [.d J, .d (.list xs)] S = some (.d (.bool false), S)) :
    ∃ w9 w10 w11, othB F1 F2 F3 [V0, some (.d J), some (.d T), V3, v4, v5, v6, v7, some (.d (.list xs)), v9, v10, v11, v12] S = some (.nx, [V0, some (.d J), some (.d T), V3, v4, v5, v6, v7, some (.d (.list xs)), w9, w10, w11, v12], S) := by
  refine ⟨some (.d (.bool false)), some (.d (.bool false)), some (.d (.bool false)), ?_⟩
  obtain ⟨s, hs⟩ := repr_bb false false
  have hn := ne_str s
  simp_all [othB, isiB]
/-- a value that is asked about: a tuple of places, or a list -/
def VOk (js : List (Int × Int)) (d : PyData) : Prop := (∃ is : List Nat, d = .tuple (is.map dN) ∧ is.length < 64 ∧ ∀ a ∈ is, a < js.length) ∨ ∃ xs, d = .list xs
theorem ev_oth {js : List (Int × Int)} (h : JOk js) {d : PyData} (hd : VOk js d) (V0 V3 v4 v5 v6 v7 v9 v10 v11 v12 : Option Vl) (S : Sto) :
    ∃ w9 w10 w11, othB sem__law_are_in_time sem_are_in_time sem_is_most_in_time [V0, some (.d (encJ js)), some (.d (.tuple ((mh js).map dN))), V3, v4, v5, v6, v7, some (.d d), v9, v10, v11, v12] S = some (.nx, [V0, some (.d (encJ js)), some (.d (.tuple ((mh js).map dN))), V3, v4, v5, v6, v7, some (.d d), w9, w10, w11, v12], S) := by
  rcases hd with ⟨is, rfl, hl, hi⟩ | ⟨xs, rfl⟩
  · obtain ⟨ks, k1, k2⟩ := sset_nat hl
    have hs : decide (is = ks) = srtB is := by
      unfold srtB
      exact decide_eq_decide.mpr k2
    refine a_othT sem__law_are_in_time sem_are_in_time sem_is_most_in_time (k := (is.length : Int)) (m := ((mh js).length : Int)) (c9 := srtB is) (c1 := feasB js is) k1 ((eq_listN is ks).trans (by rw [hs])) (s_law_are h hi (by omega) S) (by simp) (by simp) (s_are_in_timeT h hi hl S) ((s_is_mostT h hi hl S).trans ?_)
    congr 4
    rw [Bool.eq_iff_iff]
    simp
    omega
  · exact a_othL _ _ _ (s_are_in_timeL h S) (s_is_mostL h S)
end K42

end
section
set_option Elab.async false
set_option linter.all false
set_option autoImplicit false
set_option maxRecDepth 100000
set_option maxHeartbeats 1000000
namespace K42
open PySem PySem.Spec PyProof.Rows L2 QL MH
theorem loop_oth {js : List (Int × Int)} (h : JOk js) (V0 V3 v4 v5 v6 v7 v12 : Option Vl) (S : Sto) : ∀ (ds : List PyData) (v8 v9 v10 v11 : Option Vl), (∀ d ∈ ds, VOk js d) → ∃ w8 w9 w10 w11, loopD (bName 8) (othB sem__law_are_in_time sem_are_in_time sem_is_most_in_time) ds [V0, some (.d (encJ js)), some (.d (.tuple ((mh js).map dN))), V3, v4, v5, v6, v7, v8, v9, v10, v11, v12] S = some (.nx, [V0, some (.d (encJ js)), some (.d (.tuple ((mh js).map dN))), V3, v4, v5, v6, v7, w8, w9, w10, w11, v12], S)
  | [], v8, v9, v10, v11, _ => ⟨v8, v9, v10, v11, rfl⟩
  | d :: ds, v8, v9, v10, v11, hd => by
    obtain ⟨u9, u10, u11, e⟩ := ev_oth h (hd d List.mem_cons_self) V0 V3 v4 v5 v6 v7 v9 v10 v11 v12 S
    obtain ⟨w8, w9, w10, w11, e2⟩ := loop_oth h V0 V3 v4 v5 v6 v7 v12 S ds (some (.d d)) u9 u10 u11 fun x hx => hd x (List.mem_cons_of_mem _ hx)
    refine ⟨w8, w9, w10, w11, ?_⟩
    rw [v_loop1]
    have eb : bName 8 (.d d) [V0, some (.d (encJ js)), some (.d (.tuple ((mh js).map dN))), V3, v4, v5, v6, v7, v8, v9, v10, v11, v12] S = some ([V0, some (.d (encJ js)), some (.d (.tuple ((mh js).map dN))), V3, v4, v5, v6, v7, some (.d d), v9, v10, v11, v12], S) := rfl
    rw [eb, v_obind, e, v_obind]
    exact e2
end K42

end
section
set_option Elab.async false
set_option linter.all false
set_option autoImplicit false
set_option maxRecDepth 100000
set_option maxHeartbeats 1000000
namespace K42
open PySem PySem.Spec PyProof.Rows L2 QL MH
def swpB (F : Fn) (L5 LC : Lv) : Ex := (sCons (sAsg (eOwn L5) (bName 5))
 (sFrz 5 (sCons (sIf (tAndQ (tCmp2 pNe (eVar 5) (eFz (lDisp aNil))) (tCmp2 pNe (eVar 2) (eTup aNil))) (sCons (sParT [6, 7] (aCons (eCall F (aCons (eVar 0) (aCons (eVar 2) aNil))) (aCons (eCall F (aCons (eVar 0) (aCons (eVar 5) aNil))) aNil)))
 (sCons (sExpr (eMeth gApp (eVar 3) (eOp1 gTuple (eFz (lOp1 gSort (eFz (lAdd (eFz LC) (eFz (lDisp (aCons (eVar 7) aNil))))))))))
 sNil)) sNil)
 sNil)))
@[simp] theorem v_parT (is : List Nat) (g : Evs) (ρ : Rho) (st : Sto) : sParT is g ρ st = (g ρ st >>= fun a => if a.1.length = is.length ∧ a.1.length ≤ 16777216 then some (.nx, setN is a.1 ρ, a.2) else none) := rfl
theorem a_swp0 (F : Fn) (L5 LC : Lv) {J T : PyData} {V3 v4 v5 v6 v7 v8 v9 v10 v11 v12 : Option Vl} {V0 : Vl} {S : Sto} {rest : List PyData} {c1 c2 : Bool}
    (e5 : L5 [some V0, some (.d J), some (.d T), V3, v4, v5, v6, v7, v8, v9, v10, v11, v12] S = some (rest, S)) (n1 : pNe (.list rest) (.list []) = some c1) (n2 : pNe T (.tuple []) = some c2) (hc : ¬ (c1 = true ∧ c2 = true)) :
    swpB F L5 LC [some V0, some (.d J), some (.d T), V3, v4, v5, v6, v7, v8, v9, v10, v11, v12] S = some (.nx, [some V0, some (.d J), some (.d T), V3, v4, some (.d (.list rest)), v6, v7, v8, v9, v10, v11, v12], S ++ [none]) := by
  unfold swpB
  rw [own_frz' (by simp) e5]
  cases c1 with
  | false => simp [n1]
  | true =>
    cases c2 with
    | false => simp [n1, n2]
    | true => exact absurd ⟨rfl, rfl⟩ hc
theorem a_swp1 (F : Fn) (L5 LC : Lv) {J T : PyData} {v4 v5 v6 v7 v8 v9 v10 v11 v12 : Option Vl} {st g : Sto} {p0 p1 p2 : Option Cell} {rest ks xs os : List PyData} {o new : PyData}
    (e5 : L5 [some (.loc st.length), some (.d J), some (.d T), some (.loc (st.length + 1)), v4, v5, v6, v7, v8, v9, v10, v11, v12] (st ++ p0 :: some (.lst os) :: g) = some (rest, st ++ p0 :: some (.lst os) :: g)) (n1 : pNe (.list rest) (.list []) = some true) (n2 : pNe T (.tuple []) = some true)
    (f1 : ∀ g, F [.loc st.length, .d T] (st ++ p0 :: g) = some (.d o, st ++ p1 :: g)) (f2 : ∀ g, F [.loc st.length, .d (.list rest)] (st ++ p1 :: g) = some (.d new, st ++ p2 :: g))
    (eC : ∀ S, LC [some (.loc st.length), some (.d J), some (.d T), some (.loc (st.length + 1)), v4, some (.d (.list rest)), some (.d o), some (.d new), v8, v9, v10, v11, v12] S = some (ks, S)) (hk : ks.length ≤ 1000) (es : gSort (.list (ks ++ [new])) = some xs) (ho : os.length < 1000) :
    swpB F L5 LC [some (.loc st.length), some (.d J), some (.d T), some (.loc (st.length + 1)), v4, v5, v6, v7, v8, v9, v10, v11, v12] (st ++ p0 :: some (.lst os) :: g) =
      some (.nx, [some (.loc st.length), some (.d J), some (.d T), some (.loc (st.length + 1)), v4, some (.d (.list rest)), some (.d o), some (.d new), v8, v9, v10, v11, v12], st ++ p2 :: some (.lst (os ++ [.tuple xs])) :: (g ++ [none])) := by
  unfold swpB
  rw [own_frz' (by simp) e5]
  have ea : ∀ S, lAdd (eFz LC) (eFz (lDisp (aCons (eVar 7) aNil))) [some (.loc st.length), some (.d J), some (.d T), some (.loc (st.length + 1)), v4, some (.d (.list rest)), some (.d o), some (.d new), v8, v9, v10, v11, v12] S = some (ks ++ [new], S) := fun S =>
    v_lAdd _ _ _ S S S ks [new] (by simp [eC]) (by simp) (by simp only [List.length_singleton]; omega)
  generalize lAdd (eFz LC) (eFz (lDisp (aCons (eVar 7) aNil))) = LA at ea ⊢
  have eg := gApp_any os (.tuple xs) ho
  have es1 : st ++ p0 :: some (.lst os) :: g ++ [none] = st ++ p0 :: some (.lst os) :: (g ++ [none]) := by simp
  rw [es1]
  simp [n1, n2, f1, f2, ea, es, setN, v_tuple_l, eg]
end K42

end
section
set_option Elab.async false
set_option linter.all false
set_option autoImplicit false
set_option maxRecDepth 100000
set_option maxHeartbeats 1000000
namespace K42
open PySem PySem.Spec PyProof.Rows L2 QL MH
def swpL5 : Lv := lComp [12] (iRg1 (eOp1 gLen (eVar 1))) (bName 12) (tCmp2 pNotIn (eVar 12) (eVar 2)) (eVar 12)
def swpLC : Lv := lComp [12] (iSeq (eVar 2)) (bName 12) (tCmp2 pNe (eVar 12) (eVar 6)) (eVar 12)
theorem ev_swpLC (is : List Nat) (hl : is.length ≤ 1000) (o : Nat) (V0 V1 V3 V4 V5 V7 V8 V9 V10 V11 V12 : Option Vl) (S : Sto) :
    swpLC [V0, V1, some (.d (.tuple (is.map dN))), V3, V4, V5, some (.d (dN o)), V7, V8, V9, V10, V11, V12] S = some ((is.filter fun a : Nat => !((a : Int) == (o : Int))).map dN, S) := by
  have e : iSeq (eVar 2) [V0, V1, some (.d (.tuple (is.map dN))), V3, V4, V5, some (.d (dN o)), V7, V8, V9, V10, V11, V12] S = some (is.map dN, S) := rfl
  unfold swpLC
  rw [v_lComp, e, v_obind]
  simp only
  rw [if_pos (by rw [List.length_map]; omega)]
  refine comp_filter dN dN (fun a : Nat => !((a : Int) == (o : Int))) (fun a => [V0, V1, some (.d (.tuple (is.map dN))), V3, V4, V5, some (.d (dN o)), V7, V8, V9, V10, V11, some (.d (dN a))]) is fun a _ => ?_
  generalize is.map dN = X
  refine ⟨by simp [wipeR], ?_, fun _ => rfl⟩
  have q : pNe (dN a) (dN o) = some (!((a : Int) == (o : Int))) := ne_int _ _
  generalize (!((a : Int) == (o : Int))) = b at q ⊢
  simp [q]
theorem ev_swp {js : List (Int × Int)} (h : JOk js) {c : Int} {P : Int × Int × Int} (hP : POk c P) (hc : c + 2 ≤ 1000) {os : List PyData} (ho : os.length < 1000) (hv : ∀ d ∈ os, VOk js d) (st g : Sto) (v4 v5 v6 v7 v8 v9 v10 v11 v12 : Option Vl) :
    ∃ P' os' g' w5 w6 w7, POk (c + 2) P' ∧ os'.length ≤ os.length + 1 ∧ (∀ d ∈ os', VOk js d) ∧ swpB sem__law_of swpL5 swpLC [some (.loc st.length), some (.d (encJ js)), some (.d (.tuple ((mh js).map dN))), some (.loc (st.length + 1)), v4, v5, v6, v7, v8, v9, v10, v11, v12] (st ++ some (.lst (potL P)) :: some (.lst os) :: g) =
      some (.nx, [some (.loc st.length), some (.d (encJ js)), some (.d (.tuple ((mh js).map dN))), some (.loc (st.length + 1)), v4, w5, w6, w7, v8, v9, v10, v11, v12], st ++ some (.lst (potL P')) :: some (.lst os') :: g') := by
  have hlen : (mh js).length ≤ 24 := by
    have := len_le_of_sub (mh_nodup h) (m := List.range js.length) fun b hb => List.mem_range.mpr (mh_lt h b hb)
    rw [List.length_range] at this
    have := h.len
    omega
  have e5 : swpL5 [some (.loc st.length), some (.d (encJ js)), some (.d (.tuple ((mh js).map dN))), some (.loc (st.length + 1)), v4, v5, v6, v7, v8, v9, v10, v11, v12] (st ++ some (.lst (potL P)) :: some (.lst os) :: g) = some ((restN js).map dN, st ++ some (.lst (potL P)) :: some (.lst os) :: g) :=
    rest_ev (js := js) h.len (k := 12) (N := 0) (ρ1 := fun a => [some (.loc st.length), some (.d (encJ js)), some (.d (.tuple ((mh js).map dN))), some (.loc (st.length + 1)), v4, v5, v6, v7, v8, v9, v10, v11, some (.d (dN a))]) [12] (eVar 12) rfl rfl fun a => ⟨by simp [wipeR], rfl, rfl⟩
  have n1 : pNe (.list ((restN js).map dN)) (.list []) = some (!decide (restN js = [])) := ne_listN (restN js) []
  have n2 : pNe (.tuple ((mh js).map dN)) (.tuple []) = some (!decide (mh js = [])) := ne_tupN (mh js) []
  by_cases q : restN js ≠ [] ∧ mh js ≠ []
  · obtain ⟨q1, q2⟩ := q
    obtain ⟨o, P1, o1, o2, o3⟩ := s_of hP (by omega) (V := .tuple ((mh js).map dN)) (xs := (mh js).map dN) (by
      rw [List.length_map]
      exact List.length_pos_iff.mpr q2) (by rw [List.length_map]; omega) (.inr rfl) st
    have hr : (restN js).length ≤ 24 := by
      unfold restN
      have := List.length_filter_le (fun a => decide (a ∉ mh js)) (List.range js.length)
      rw [List.length_range] at this
      have := h.len
      omega
    obtain ⟨nw, P2, p1, p2, p3⟩ := s_of o2 (by omega) (V := .list ((restN js).map dN)) (xs := (restN js).map dN) (by
      rw [List.length_map]
      exact List.length_pos_iff.mpr q1) (by rw [List.length_map]; omega) (.inl rfl) st
    obtain ⟨oN, _, rfl⟩ := List.mem_map.mp o1
    obtain ⟨nN, hn, rfl⟩ := List.mem_map.mp p1
    have hnl : nN < js.length := by
      unfold restN at hn
      exact List.mem_range.mp (List.mem_filter.mp hn).1
    have hkl : ((mh js).filter fun a : Nat => !((a : Int) == (oN : Int))).length ≤ 24 := Nat.le_trans (List.length_filter_le _ _) hlen
    have hkm : ∀ a ∈ (mh js).filter (fun a : Nat => !((a : Int) == (oN : Int))), a < js.length := fun a ha => mh_lt h a (List.mem_filter.mp ha).1
    have ec := fun S => ev_swpLC (mh js) (by omega) oN (some (.loc st.length)) (some (.d (encJ js))) (some (.loc (st.length + 1))) v4 (some (.d (.list ((restN js).map dN)))) (some (.d (dN nN))) v8 v9 v10 v11 v12 S
    generalize (mh js).filter (fun a : Nat => !((a : Int) == (oN : Int))) = ks at hkl hkm ec
    have es : gSort (.list (ks.map dN ++ [dN nN])) = some (((ks ++ [nN]).mergeSort fun a b => decide (a ≤ b)).map dN) := by
      have := gSort_nat (ks ++ [nN])
      rw [List.map_append] at this
      exact this
    refine ⟨P2, _, _, _, _, _, by rw [show c + 2 = c + 1 + 1 by omega]; exact p2, ?_, ?_, a_swp1 sem__law_of swpL5 swpLC e5 (n1.trans (by simp [q1])) (n2.trans (by simp [q2])) o3 p3 ec (by rw [List.length_map]; omega) es ho⟩
    · simp
    · intro d hd
      rcases List.mem_append.mp hd with z | z
      · exact hv d z
      · rw [List.mem_singleton.mp z]
        refine .inl ⟨_, rfl, ?_, fun a ha => ?_⟩
        · rw [List.length_mergeSort, List.length_append, List.length_singleton]
          omega
        · rcases List.mem_append.mp (List.mem_mergeSort.mp ha) with y | y
          · exact hkm a y
          · rw [List.mem_singleton.mp y]; exact hnl
  · refine ⟨P, os, g ++ [none], some (.d (.list ((restN js).map dN))), v6, v7, ⟨hP.own, hP.m0, hP.m1, hP.k0, by have := hP.k1; omega⟩, by omega, hv, (a_swp0 sem__law_of swpL5 swpLC e5 n1 n2 ?_).trans (by simp)⟩
    intro z
    simp only [Bool.not_eq_true', decide_eq_false_iff_not] at z
    exact q z
theorem loop_swp {js : List (Int × Int)} (h : JOk js) (st : Sto) (v8 v9 v10 v11 v12 : Option Vl) : ∀ (ds : List PyData) (c : Int) (P : Int × Int × Int) (os : List PyData) (g : Sto) (v4 v5 v6 v7 : Option Vl), POk c P → c + 2 * ds.length ≤ 1000 → os.length + ds.length < 1000 → (∀ d ∈ os, VOk js d) →
    ∃ P' os' g' w4 w5 w6 w7, POk (c + 2 * ds.length) P' ∧ (∀ d ∈ os', VOk js d) ∧ loopD (bName 4) (swpB sem__law_of swpL5 swpLC) ds [some (.loc st.length), some (.d (encJ js)), some (.d (.tuple ((mh js).map dN))), some (.loc (st.length + 1)), v4, v5, v6, v7, v8, v9, v10, v11, v12] (st ++ some (.lst (potL P)) :: some (.lst os) :: g) =
      some (.nx, [some (.loc st.length), some (.d (encJ js)), some (.d (.tuple ((mh js).map dN))), some (.loc (st.length + 1)), w4, w5, w6, w7, v8, v9, v10, v11, v12], st ++ some (.lst (potL P')) :: some (.lst os') :: g')
  | [], c, P, os, g, v4, v5, v6, v7, hP, hc, ho, hv => ⟨P, os, g, v4, v5, v6, v7, by simpa using hP, hv, rfl⟩
  | d :: ds, c, P, os, g, v4, v5, v6, v7, hP, hc, ho, hv => by
    rw [List.length_cons] at hc ho
    obtain ⟨P1, os1, g1, u5, u6, u7, a1, a2, a3, e⟩ := ev_swp h hP (by omega) (by omega) hv st g (some (.d d)) v5 v6 v7 v8 v9 v10 v11 v12
    obtain ⟨P2, os2, g2, w4, w5, w6, w7, b1, b2, e2⟩ := loop_swp h st v8 v9 v10 v11 v12 ds (c + 2) P1 os1 g1 (some (.d d)) u5 u6 u7 a1 (by omega) (by omega) a3
    refine ⟨P2, os2, g2, w4, w5, w6, w7, ?_, b2, ?_⟩
    · rw [List.length_cons, show c + 2 * ((ds.length + 1 : Nat) : Int) = c + 2 + 2 * (ds.length : Int) by omega]
      exact b1
    · rw [v_loop1]
      have eb : bName 4 (.d d) [some (.loc st.length), some (.d (encJ js)), some (.d (.tuple ((mh js).map dN))), some (.loc (st.length + 1)), v4, v5, v6, v7, v8, v9, v10, v11, v12] (st ++ some (.lst (potL P)) :: some (.lst os) :: g) = some ([some (.loc st.length), some (.d (encJ js)), some (.d (.tuple ((mh js).map dN))), some (.loc (st.length + 1)), some (.d d), v5, v6, v7, v8, v9, v10, v11, v12], st ++ some (.lst (potL P)) :: some (.lst os) :: g) := rfl
      rw [eb, v_obind, e, v_obind]
      exact e2
end K42

end
section
set_option Elab.async false
set_option linter.all false
set_option autoImplicit false
set_option maxRecDepth 100000
set_option maxHeartbeats 1000000
namespace K42
open PySem PySem.Spec PyProof.Rows L2 QL MH
theorem a_others (L0 IT : Lv) (SB OB : Ex) {J T : PyData} {st g' : Sto} {p0 p1 : Option Cell} {os os' X : List PyData} {w4 w5 w6 w7 w8 w9 w10 w11 : Option Vl}
    (e0 : L0 [some (.loc st.length), some (.d J), some (.d T), none, none, none, none, none, none, none, none, none, none] (st ++ [p0]) = some (os, st ++ [p0]))
    (eI : ∀ (S : Sto), IT [some (.loc st.length), some (.d J), some (.d T), some (.loc (st.length + 1)), none, none, none, none, none, none, none, none, none] S = some (X, S))
    (e1 : loopD (bName 4) SB X [some (.loc st.length), some (.d J), some (.d T), some (.loc (st.length + 1)), none, none, none, none, none, none, none, none, none] (st ++ p0 :: some (.lst os) :: []) = some (.nx, [some (.loc st.length), some (.d J), some (.d T), some (.loc (st.length + 1)), w4, w5, w6, w7, none, none, none, none, none], st ++ p1 :: some (.lst os') :: g'))
    (e2 : loopD (bName 8) OB os' [some (.loc st.length), some (.d J), some (.d T), some (.d (.list os')), w4, w5, w6, w7, none, none, none, none, none] (st ++ p1 :: none :: g') = some (.nx, [some (.loc st.length), some (.d J), some (.d T), some (.d (.list os')), w4, w5, w6, w7, w8, w9, w10, w11, none], st ++ p1 :: none :: g')) :
    fnS 13 3 (sCons (sAsg (eOwn L0) (bName 3))
 (sCons (sFor IT (bName 4) SB)
 (sFrz 3 (sCons (sFor (iSeq (eVar 3)) (bName 8) OB)
 (sCons (sRet (eC (.bool true)))
 sNil))))) [.loc st.length, .d J, .d T] (st ++ [p0]) = some (.d (.bool true), st ++ [p1]) := by
  refine Eq.trans (v_fnS rfl) ?_
  have e0' : L0 (List.map some [Vl.loc st.length, Vl.d J, Vl.d T] ++ List.replicate (13 - [Vl.loc st.length, Vl.d J, Vl.d T].length) none) (st ++ [p0]) = some (os, st ++ [p0]) := e0
  rw [v_sCons, v_sAsg, v_eOwn, e0', v_obind, v_obind]
  simp only
  rw [v_bName, v_obind, v_obind]
  simp only
  have es : (List.map some [Vl.loc st.length, Vl.d J, Vl.d T] ++ List.replicate (13 - [Vl.loc st.length, Vl.d J, Vl.d T].length) none).set 3 (some (Vl.loc (st ++ [p0]).length)) = [some (.loc st.length), some (.d J), some (.d T), some (.loc (st.length + 1)), none, none, none, none, none, none, none, none, none] := by
    rw [List.length_append]
    rfl
  rw [es]
  have es2 : st ++ [p0] ++ [some (Cell.lst os)] = st ++ p0 :: some (.lst os) :: [] := by simp
  rw [es2, v_sCons, v_sFor, eI, v_obind]
  simp only
  rw [e1, v_obind]
  simp only
  unfold sFrz
  have e3 : [some (Vl.loc st.length), some (.d J), some (.d T), some (.loc (st.length + 1)), w4, w5, w6, w7, none, none, none, none, none][3]? = some (some (.loc (st.length + 1))) := rfl
  rw [e3]
  simp only [v_getc2, v_setc2]
  rw [v_sCons, v_sFor]
  have e4 : iSeq (eVar 3) ([some (Vl.loc st.length), some (.d J), some (.d T), some (.loc (st.length + 1)), w4, w5, w6, w7, none, none, none, none, none].set 3 (some (Vl.d (.list os')))) (st ++ p1 :: none :: g') = some (os', st ++ p1 :: none :: g') := rfl
  rw [e4, v_obind]
  simp only
  have e2' : loopD (bName 8) OB os' ([some (Vl.loc st.length), some (.d J), some (.d T), some (.loc (st.length + 1)), w4, w5, w6, w7, none, none, none, none, none].set 3 (some (Vl.d (.list os')))) (st ++ p1 :: none :: g') = _ := e2
  rw [e2', v_obind]
  simp [v_take1]
theorem ev_six (is : List Nat) (V0 V1 : Option Vl) (S : Sto) : lDisp (aCons (eVar 2) (aCons (eSlT (eVar 2) (oSome (eC (.int 1))) oNone) (aCons (eSlT (eVar 2) oNone (oSome (eOp1 gNeg (eC (.int 1))))) (aCons (eRevT (eVar 2)) (aCons (eFz (lOp1 seqOf (eVar 2))) (aCons (eTup aNil) aNil)))))) [V0, V1, some (.d (.tuple (is.map dN))), none, none, none, none, none, none, none, none, none, none] S =
    some ([.tuple (is.map dN), .tuple ((QL.cutD is (some 1) none).map dN), .tuple ((QL.cutD is none (some (-1))).map dN), .tuple (is.reverse.map dN), .list (is.map dN), .tuple []], S) := by
  rw [← cutD_map, ← cutD_map, List.map_reverse]
  generalize is.map dN = X
  simp [eSlT, eRevT, oSome]
theorem cutD_len {α : Type} (xs : List α) (lo hi : Option Int) : (QL.cutD xs lo hi).length ≤ xs.length := by
  unfold QL.cutD
  rw [List.length_take, List.length_drop]
  omega
theorem s_others {js : List (Int × Int)} (h : JOk js) {c : Int} {P : Int × Int × Int} (hP : POk c P) (hc : c ≤ 900) (st : Sto) : ∃ P', POk (c + 16) P' ∧ sem__law_are_others_right [.loc st.length, .d (encJ js), .d (.tuple ((mh js).map dN))] (st ++ [some (.lst (potL P))]) = some (.d (.bool true), st ++ [some (.lst (potL P'))]) := by
  have hlen : (mh js).length ≤ 24 := by
    have := len_le_of_sub (mh_nodup h) (m := List.range js.length) fun b hb => List.mem_range.mpr (mh_lt h b hb)
    rw [List.length_range] at this
    have := h.len
    omega
  have e0 := ev_six (mh js) (some (.loc st.length)) (some (.d (encJ js))) (st ++ [some (.lst (potL P))])
  have hv : ∀ d ∈ [PyData.tuple ((mh js).map dN), .tuple ((QL.cutD (mh js) (some 1) none).map dN), .tuple ((QL.cutD (mh js) none (some (-1))).map dN), .tuple ((mh js).reverse.map dN), .list ((mh js).map dN), .tuple []], VOk js d := fun d hd => by
    have hm := mh_lt h
    simp only [List.mem_cons, List.not_mem_nil, or_false] at hd
    rcases hd with e | e | e | e | e | e <;> rw [e]
    · exact .inl ⟨_, rfl, by omega, hm⟩
    · exact .inl ⟨_, rfl, by have := cutD_len (mh js) (some 1) none; omega, fun a ha => hm a (cutD_mem ha)⟩
    · exact .inl ⟨_, rfl, by have := cutD_len (mh js) none (some (-1)); omega, fun a ha => hm a (cutD_mem ha)⟩
    · exact .inl ⟨_, rfl, by rw [List.length_reverse]; omega, fun a ha => hm a (List.mem_reverse.mp ha)⟩
    · exact .inr ⟨_, rfl⟩
    · exact .inl ⟨[], rfl, by simp, fun a ha => by cases ha⟩
  obtain ⟨P', os', g', w4, w5, w6, w7, b1, b2, e1⟩ := loop_swp h st none none none none none ((List.range 8).map dN) c P _ [] none none none none hP (by rw [List.length_map, List.length_range]; omega) (by rw [List.length_map, List.length_range]; simp) hv
  obtain ⟨w8, w9, w10, w11, e2⟩ := loop_oth h (some (.loc st.length)) (some (.d (.list os'))) w4 w5 w6 w7 none (st ++ some (.lst (potL P')) :: none :: g') os' none none none none b2
  have b1' : POk (c + 16) P' := by
    rw [List.length_map, List.length_range] at b1
    exact b1
  exact ⟨P', b1', a_others _ (iRg1 (eC (.int 8))) (swpB sem__law_of swpL5 swpLC) (othB sem__law_are_in_time sem_are_in_time sem_is_most_in_time) e0 (fun S => a_iRg (n := 8) (c := true) rfl (small_n (by omega)) rfl) e1 e2⟩
end K42

end
section
set_option Elab.async false
set_option linter.all false
set_option autoImplicit false
set_option maxRecDepth 100000
set_option maxHeartbeats 1000000
namespace K42
open PySem PySem.Spec PyProof.Rows L2 QL MH
theorem shown_nat {n : Nat} (h : n < 24) : (PyData.shown (dN n)).length ≤ 2 := by
  have : ∀ m : Fin 24, (PyData.shown (dN m.val)).length ≤ 2 := by
    intro m
    simp only [dN, PyData.shown]
    revert m
    decide +kernel
  exact this ⟨n, h⟩
theorem piled_nats : ∀ {is : List Nat}, (∀ a ∈ is, a < 24) → piled (PyData.shownAll (is.map dN)) ≤ 4 * is.length
  | [], _ => by simp [PyData.shownAll, piled]
  | a :: is, h => by
    have ih := piled_nats fun b hb => h b (List.mem_cons_of_mem _ hb)
    have h1 := shown_nat (h a List.mem_cons_self)
    rw [List.map_cons, PyData.shownAll, piled_cons, List.length_cons]
    omega
theorem showable_nats : ∀ {is : List Nat}, (∀ a ∈ is, a < 24) → PyData.showableAll (is.map dN) = true
  | [], _ => rfl
  | a :: is, h => by
    have ih := showable_nats fun b hb => h b (List.mem_cons_of_mem _ hb)
    have h1 := h a List.mem_cons_self
    have : (dN a).showable = true := by
      have q : ∀ m : Fin 24, (dN m.val).showable = true := by decide +kernel
      exact q ⟨a, h1⟩
    rw [List.map_cons, PyData.showableAll, this, ih]
    rfl
theorem hasDict_nats : ∀ is : List Nat, PyData.hasDictAll (is.map dN) = false
  | [] => rfl
  | a :: is => by
    rw [List.map_cons, PyData.hasDictAll, hasDict_nats is]
    rfl
theorem repr_nats {is : List Nat} (h : ∀ a ∈ is, a < 24) (hl : is.length ≤ 24) : ∃ s, gRepr (.tuple (is.map dN)) = some (.str s) := by
  have h1 : (PyData.tuple (is.map dN)).showable = true := by simp only [PyData.showable]; exact showable_nats h
  have h2 : (PyData.tuple (is.map dN)).hasDict = false := by simp only [PyData.hasDict]; exact hasDict_nats is
  have h3 : (PyData.tuple (is.map dN)).shown.length ≤ 16777216 := by
    simp only [PyData.shown]
    have hp := piled_nats h
    cases is with
    | nil => decide +kernel
    | cons a is =>
      have hj := join_length_add (PyData.shownAll ((a :: is).map dN)) (by simp [PyData.shownAll])
      unfold tupleText
      rw [strLen_append, strLen_append]
      have q1 : (("(" : String) : Str).length = 1 := rfl
      have q2 : ((if (PyData.shownAll ((a :: is).map dN)).length == 1 then ",)" else ")" : String) : Str).length ≤ 2 := by
        split <;> decide
      omega
  have h4 : (PyData.tuple (is.map dN)).depth ≤ 60 := by simp [PyData.depth, depthAll_nat]
  unfold gRepr
  rw [h1, h2]
  exact ⟨_, if_pos (by simp [h3, h4])⟩
/-! the pieces of _law_right -/
def retF : Ex := (sCons (sRet (eC (.bool false))) sNil)
def R1 (F : Fn) : Ex := sAsg (eCall F (aCons (eVar 0) aNil)) (bName 1)
def R2 (F : Fn) : Ex := sAsg (eCall F (aCons (eVar 1) aNil)) (bName 2)
def R3 (F1 F2 : Fn) : Ex := sIf (tOrQ (tCmp2 pNe (eOp1 gRepr (eVar 2)) (eOp1 gRepr (eCall F1 (aCons (eVar 1) aNil)))) (tNotQ (tV (eCall F2 (aCons (eVar 1) (aCons (eVar 2) aNil)))))) retF sNil
def R4 (F1 F2 : Fn) : Ex := sIf (tOrQ (tNotQ (tV (eCall F1 (aCons (eVar 0) (aCons (eVar 1) (aCons (eVar 2) aNil)))))) (tNotQ (tV (eCall F2 (aCons (eVar 0) (aCons (eVar 1) (aCons (eVar 2) aNil))))))) retF sNil
def R5 (F : Fn) : Ex := sParT [3, 4] (aCons (eOp1 gInt (eCall F (aCons (eVar 0) (aCons (eOp1 gLen (eVar 1)) aNil)))) (aCons (eOp1 gInt (eCall F (aCons (eVar 0) (aCons (eC (.int 2000)) aNil)))) aNil))
def R6 (F : Fn) : Ex := sAsg (eCall F (aCons (eOp2 gAdd (eSlT (eVar 1) oNone (oSome (eVar 3))) (eSlT (eVar 1) (oSome (eOp2 gAdd (eVar 3) (eC (.int 1)))) oNone)) aNil)) (bName 5)
def R7 : Ex := sIf (tOrQ (tNotQ (tChn pLe pLe (eOp2 gSub (eOp1 gLen (eVar 2)) (eC (.int 1))) (eOp1 gLen (eVar 5)) (eOp1 gLen (eVar 2)))) (tAndQ (tCmp2 pNotIn (eVar 3) (eVar 2)) (tCmp2 pNe (eOp1 gLen (eVar 5)) (eOp1 gLen (eVar 2))))) retF sNil
def R8 (L : Lv) : Ex := sAsg (eOp1 gTuple (eFz L)) (bName 6)
def R9 (L : Lv) : Ex := sAsg (eOp1 gTuple (eFz L)) (bName 7)
def R10 (F : Fn) (E : Ev) : Ex := sIf (tOrQ (tCmp2 pLt (eOp1 gLen (eCall F (aCons (eVar 6) aNil))) (eOp1 gLen (eVar 2))) (tCmp2 pNe (eOp1 gRepr (eCall F (aCons (eVar 7) aNil))) (eOp1 gRepr E))) retF sNil
def R11 : Ex := sAsg (eIf (tCmp2 pLt (eOp1 gLen (eVar 1)) (eC (.int 24))) (eOp2 gAdd (eVar 1) (eTup (aCons (eOp2 gIx (eVar 1) (eVar 3)) aNil))) (eVar 1)) (bName 8)
def R12 (F : Fn) : Ex := sIf (tNotQ (tChn pLe pLe (eOp1 gLen (eVar 2)) (eOp1 gLen (eCall F (aCons (eVar 8) aNil))) (eOp2 gAdd (eOp1 gLen (eVar 2)) (eC (.int 1))))) retF sNil
def R13 (F : Fn) (E : Ev) : Ex := sAsg (eCall F (aCons (eVar 1) (aCons E aNil))) (bName 9)
def R14 (F : Fn) : Ex := sRet (eOp2 (gB pEq) (eOp2 (gB pLe) (eCall F (aCons (eVar 9) aNil)) (eC (.int 0))) (eOp2 (gB pEq) (eOp1 gLen (eVar 2)) (eOp1 gLen (eVar 1))))
theorem sc_nx {f g : Ex} {ρ ρ' : Rho} {st s1 : Sto} (h : f ρ st = some (.nx, ρ', s1)) : sCons f g ρ st = g ρ' s1 := by
  rw [v_sCons, h, v_obind]
section
variable {V0 v1 v2 v3 v4 v5 v6 v7 v8 v9 v10 v11 : Option Vl} {J T : PyData} {S S' S2 : Sto}
theorem r1 (F : Fn) {L : Vl} (e : F [L] S = some (.d J, S')) : R1 F [some L, v1, v2, v3, v4, v5, v6, v7, v8, v9, v10, v11] S = some (.nx, [some L, some (.d J), v2, v3, v4, v5, v6, v7, v8, v9, v10, v11], S') := by
  simp [R1, e]
theorem r2 (F : Fn) (e : F [.d J] S = some (.d T, S')) : R2 F [V0, some (.d J), v2, v3, v4, v5, v6, v7, v8, v9, v10, v11] S = some (.nx, [V0, some (.d J), some (.d T), v3, v4, v5, v6, v7, v8, v9, v10, v11], S') := by
  simp [R2, e]
theorem r3 (F1 F2 : Fn) {s : Str} (e1 : F1 [.d J] S = some (.d T, S)) (e2 : gRepr T = some (.str s)) (e3 : F2 [.d J, .d T] S = some (.d (.bool true), S)) : R3 F1 F2 [V0, some (.d J), some (.d T), v3, v4, v5, v6, v7, v8, v9, v10, v11] S = some (.nx, [V0, some (.d J), some (.d T), v3, v4, v5, v6, v7, v8, v9, v10, v11], S) := by
  have hn := ne_str s
  simp [R3, e1, e2, e3, hn]
theorem r4 (F1 F2 : Fn) {L : Vl} (e1 : F1 [L, .d J, .d T] S = some (.d (.bool true), S)) (e2 : F2 [L, .d J, .d T] S = some (.d (.bool true), S')) : R4 F1 F2 [some L, some (.d J), some (.d T), v3, v4, v5, v6, v7, v8, v9, v10, v11] S = some (.nx, [some L, some (.d J), some (.d T), v3, v4, v5, v6, v7, v8, v9, v10, v11], S') := by
  simp [R4, e1, e2]
theorem r5 (F : Fn) {L : Vl} {n a b : Int} (e0 : gLen J = some (.int n)) (e1 : F [L, .d (.int n)] S = some (.d (.int a), S')) (e2 : F [L, .d (.int 2000)] S' = some (.d (.int b), S2)) : R5 F [some L, some (.d J), some (.d T), v3, v4, v5, v6, v7, v8, v9, v10, v11] S = some (.nx, [some L, some (.d J), some (.d T), some (.d (.int a)), some (.d (.int b)), v5, v6, v7, v8, v9, v10, v11], S2) := by
  simp [R5, e0, e1, e2, setN]
theorem r6 (F : Fn) {xs ys : List PyData} {U : PyData} {a : Int} (e1 : QL.cutD xs none (some a) ++ QL.cutD xs (some (a + 1)) none = ys) (e2 : (QL.cutD xs none (some a)).length + (QL.cutD xs (some (a + 1)) none).length ≤ 16777216) (e3 : F [.d (.tuple ys)] S = some (.d U, S)) :
    R6 F [V0, some (.d (.tuple xs)), v2, some (.d (.int a)), v4, v5, v6, v7, v8, v9, v10, v11] S = some (.nx, [V0, some (.d (.tuple xs)), v2, some (.d (.int a)), v4, some (.d U), v6, v7, v8, v9, v10, v11], S) := by
  have e4 : gAdd (.tuple (QL.cutD xs none (some a))) (.tuple (QL.cutD xs (some (a + 1)) none)) = some (.tuple ys) := by
    show (if _ then _ else _) = _
    rw [if_pos e2, e1]
  simp [R6, eSlT, oSome, e4, e3]
theorem r7 {U : PyData} {n m : Int} {a : PyData} {c : Bool} (e1 : gLen T = some (.int n)) (e2 : gLen U = some (.int m)) (h1 : n - 1 ≤ m) (h2 : m ≤ n) (e3 : pNotIn a T = some c) (h3 : c = true → m = n) :
    R7 [V0, v1, some (.d T), some (.d a), v4, some (.d U), v6, v7, v8, v9, v10, v11] S = some (.nx, [V0, v1, some (.d T), some (.d a), v4, some (.d U), v6, v7, v8, v9, v10, v11], S) := by
  cases c with
  | false => simp [R7, e1, e2, h1, h2, e3]
  | true =>
    have := h3 rfl
    subst this
    simp [R7, e1, e2, h1, e3]
theorem r8 (L : Lv) {X : List PyData} (e : L [V0, v1, v2, v3, v4, v5, v6, v7, v8, v9, v10, v11] S = some (X, S)) : R8 L [V0, v1, v2, v3, v4, v5, v6, v7, v8, v9, v10, v11] S = some (.nx, [V0, v1, v2, v3, v4, v5, some (.d (.tuple X)), v7, v8, v9, v10, v11], S) := by
  simp [R8, e, v_tuple_l]
theorem r9 (L : Lv) {X : List PyData} (e : L [V0, v1, v2, v3, v4, v5, v6, v7, v8, v9, v10, v11] S = some (X, S)) : R9 L [V0, v1, v2, v3, v4, v5, v6, v7, v8, v9, v10, v11] S = some (.nx, [V0, v1, v2, v3, v4, v5, v6, some (.d (.tuple X)), v8, v9, v10, v11], S) := by
  simp [R9, e, v_tuple_l]
theorem r10 (F : Fn) (E : Ev) {A B U W : PyData} {n m : Int} {s : Str} (e1 : F [.d A] S = some (.d U, S)) (e2 : gLen U = some (.int m)) (e3 : gLen T = some (.int n)) (h : ¬ m < n) (e4 : F [.d B] S = some (.d W, S)) (e5 : gRepr W = some (.str s)) (e6 : E [V0, v1, some (.d T), v3, v4, v5, some (.d A), some (.d B), v8, v9, v10, v11] S = some (.d W, S)) :
    R10 F E [V0, v1, some (.d T), v3, v4, v5, some (.d A), some (.d B), v8, v9, v10, v11] S = some (.nx, [V0, v1, some (.d T), v3, v4, v5, some (.d A), some (.d B), v8, v9, v10, v11], S) := by
  have hn := ne_str s
  simp [R10, e1, e2, e3, h, e4, e5, e6, hn]
theorem r11a {xs : List PyData} {a : Int} {x : PyData} (h : xs.length < 24) (e : atI xs a = some x) : R11 [V0, some (.d (.tuple xs)), v2, some (.d (.int a)), v4, v5, v6, v7, v8, v9, v10, v11] S = some (.nx, [V0, some (.d (.tuple xs)), v2, some (.d (.int a)), v4, v5, v6, v7, some (.d (.tuple (xs ++ [x]))), v9, v10, v11], S) := by
  have e4 : gAdd (.tuple xs) (.tuple [x]) = some (.tuple (xs ++ [x])) := by
    show (if _ then _ else _) = _
    rw [if_pos (by simp only [List.length_singleton]; omega)]
  have h' : (xs.length : Int) < 24 := by omega
  simp [R11, e, h', e4]
theorem r11b {xs : List PyData} {a : Int} (h : ¬ xs.length < 24) : R11 [V0, some (.d (.tuple xs)), v2, some (.d (.int a)), v4, v5, v6, v7, v8, v9, v10, v11] S = some (.nx, [V0, some (.d (.tuple xs)), v2, some (.d (.int a)), v4, v5, v6, v7, some (.d (.tuple xs)), v9, v10, v11], S) := by
  have h' : ¬ (xs.length : Int) < 24 := by omega
  simp [R11, h']
theorem r12 (F : Fn) {A U : PyData} {n m : Int} (e1 : F [.d A] S = some (.d U, S)) (e2 : gLen U = some (.int m)) (e3 : gLen T = some (.int n)) (h1 : n ≤ m) (h2 : m ≤ n + 1) :
    R12 F [V0, v1, some (.d T), v3, v4, v5, v6, v7, some (.d A), v9, v10, v11] S = some (.nx, [V0, v1, some (.d T), v3, v4, v5, v6, v7, some (.d A), v9, v10, v11], S) := by
  simp [R12, e1, e2, e3, h1, h2]
theorem r13 (F : Fn) (E : Ev) {R K : PyData} (e1 : E [V0, some (.d J), v2, v3, v4, v5, v6, v7, v8, v9, v10, v11] S = some (.d R, S)) (e2 : F [.d J, .d R] S = some (.d K, S)) :
    R13 F E [V0, some (.d J), v2, v3, v4, v5, v6, v7, v8, v9, v10, v11] S = some (.nx, [V0, some (.d J), v2, v3, v4, v5, v6, v7, v8, some (.d K), v10, v11], S) := by
  simp [R13, e1, e2]
theorem eq_bb (a b : Bool) (h : a = b) : pEq (.bool a) (.bool b) = some true := by
  subst h
  unfold pEq
  rw [if_pos (by simp [PyData.depth])]
  simp [PyData.eqv]
theorem r14 (F : Fn) {K : PyData} {n m k : Int} (e1 : F [.d K] S = some (.d (.int k), S)) (e2 : gLen T = some (.int n)) (e3 : gLen J = some (.int m)) (h : k ≤ 0 ↔ n = m) :
    R14 F [V0, some (.d J), some (.d T), v3, v4, v5, v6, v7, v8, some (.d K), v10, v11] S = some (.rt (.d (.bool true)), [V0, some (.d J), some (.d T), v3, v4, v5, v6, v7, v8, some (.d K), v10, v11], S) := by
  have hb := eq_bb (decide (k ≤ 0)) (n == m) (by rw [Bool.eq_iff_iff]; simpa using h)
  simp [R14, e1, e2, e3, hb]
end
end K42

end
section
set_option Elab.async false
set_option linter.all false
set_option autoImplicit false
set_option maxRecDepth 100000
set_option maxHeartbeats 1000000
namespace K42
open PySem PySem.Spec PyProof.Rows L2 QL MH
theorem cut_erase {α : Type} (xs : List α) {o : Nat} (h : o < xs.length) : QL.cutD xs none (some (o : Int)) ++ QL.cutD xs (some ((o : Int) + 1)) none = xs.eraseIdx o := by
  have e1 : HT.sIx xs.length xs.length (some (o : Int)) = o := by
    rw [HT.sIx_nat]
    omega
  have e2 : HT.sIx xs.length 0 (some ((o : Int) + 1)) = o + 1 := by
    have : (o : Int) + 1 = ((o + 1 : Nat) : Int) := by omega
    rw [this, HT.sIx_nat]
    omega
  have e3 : HT.sIx xs.length 0 none = 0 := rfl
  have e4 : HT.sIx xs.length xs.length none = xs.length := rfl
  unfold QL.cutD
  rw [e1, e2, e3, e4, List.eraseIdx_eq_take_drop_succ]
  simp
  rw [List.take_of_length_le (by rw [List.length_drop]; omega)]
/-! later and great -/
def mapJ (f : Int → Int) (js : List (Int × Int)) : List (Int × Int) := js.map fun j => (j.1, f j.2)
theorem mapJ_get (f : Int → Int) {js : List (Int × Int)} {a : Nat} (ha : a < js.length) : pOf (mapJ f js) a = pOf js a ∧ dOf (mapJ f js) a = f (dOf js a) := by
  unfold pOf dOf mapJ
  rw [List.getD_eq_getElem?_getD, List.getD_eq_getElem?_getD, List.getElem?_map, List.getElem?_eq_getElem ha]
  exact ⟨rfl, rfl⟩
theorem mapJ_len (f : Int → Int) (js : List (Int × Int)) : (mapJ f js).length = js.length := by unfold mapJ; rw [List.length_map]
theorem mapJ_ok {f : Int → Int} {js : List (Int × Int)} (h : JOk js) (hf : ∀ j ∈ js, 0 ≤ f j.2 ∧ f j.2 ≤ 1000000) : JOk (mapJ f js) := ⟨by rw [mapJ_len]; exact h.len, fun j hj => by
  unfold mapJ at hj
  obtain ⟨i, hi, e⟩ := List.mem_map.mp hj
  have := h.ok i hi
  have := hf i hi
  rw [← e]
  simp only
  omega⟩
theorem mapJ_comp (f : Int → Int) (E : Ev) {js : List (Int × Int)} (h : js.length ≤ 1000) (ρ : Rho) (S : Sto) (ρ1 : Int × Int → Rho) (e0 : eVar 1 ρ S = some (.d (encJ js), S))
    (hb : ∀ j : Int × Int, bTup 2 (bsCons (bName 10) (bsCons (bName 11) bsNil)) (.d (dP j)) (wipeR ρ [10, 11]) S = some (ρ1 j, S) ∧ E (ρ1 j) S = some (.d (dP (j.1, f j.2)), S)) :
    lComp [10, 11] (iSeq (eVar 1)) (bTup 2 (bsCons (bName 10) (bsCons (bName 11) bsNil))) tYesQ E ρ S = some ((mapJ f js).map dP, S) := by
  have e : iSeq (eVar 1) ρ S = some (js.map dP, S) := by
    unfold encJ at e0
    generalize js.map dP = X at e0 ⊢
    simp [iSeq, e0]
  rw [v_lComp, e, v_obind]
  simp only
  rw [if_pos (by rw [List.length_map]; omega)]
  have := comp_map dP (fun j => dP (j.1, f j.2)) ρ1 js fun j _ => hb j
  rw [this]
  unfold mapJ
  rw [List.map_map]
  rfl
theorem pow6 : gPowW (.int 10) (.int 6) = some (.int 1000000) := by
  have h : Builtin.Int.intBits (10 : Int) ≤ 4 := intBits_le (by omega) (by decide)
  show (if 0 ≤ (6 : Int) ∧ (Builtin.Int.intBits (10 : Int) : Int) * 6 ≤ 2 ^ 27 then some (PyData.int ((10 : Int) ^ (6 : Int).toNat)) else none) = _
  rw [if_pos ⟨by decide, by
    have : (2 : Int) ^ 27 = 134217728 := by decide
    rw [this]
    omega⟩]
  rfl
def latE : Ev := eTup (aCons (eVar 10) (aCons (eOp2 gMin2 (eOp2 gPowW (eC (.int 10)) (eC (.int 6))) (eOp2 gAdd (eVar 11) (eVar 4))) aNil))
def grtE : Ev := eTup (aCons (eVar 10) (aCons (eOp2 gPowW (eC (.int 10)) (eC (.int 6))) aNil))
def latL : Lv := lComp [10, 11] (iSeq (eVar 1)) (bTup 2 (bsCons (bName 10) (bsCons (bName 11) bsNil))) tYesQ latE
def grtL : Lv := lComp [10, 11] (iSeq (eVar 1)) (bTup 2 (bsCons (bName 10) (bsCons (bName 11) bsNil))) tYesQ grtE
def latF (m : Int) : Int → Int := fun d => if d + m < 1000000 then d + m else 1000000
theorem ev_latL {js : List (Int × Int)} (h : js.length ≤ 1000) (m : Int) (V0 V2 V3 V5 V6 V7 V8 V9 V10 V11 : Option Vl) (S : Sto) : latL [V0, some (.d (encJ js)), V2, V3, some (.d (.int m)), V5, V6, V7, V8, V9, V10, V11] S = some ((mapJ (latF m) js).map dP, S) :=
  mapJ_comp (latF m) latE h _ S (fun j => [V0, some (.d (encJ js)), V2, V3, some (.d (.int m)), V5, V6, V7, V8, V9, some (.d (.int j.1)), some (.d (.int j.2))]) rfl fun j => ⟨by simp [wipeR, bTup, bsCons, bsNil, dP], by
    have := pow6
    simp [latE, pow6, dP, latF]⟩
theorem ev_grtL {js : List (Int × Int)} (h : js.length ≤ 1000) (V0 V2 V3 V4 V5 V6 V7 V8 V9 V10 V11 : Option Vl) (S : Sto) : grtL [V0, some (.d (encJ js)), V2, V3, V4, V5, V6, V7, V8, V9, V10, V11] S = some ((mapJ (fun _ => 1000000) js).map dP, S) :=
  mapJ_comp (fun _ => 1000000) grtE h _ S (fun j => [V0, some (.d (encJ js)), V2, V3, V4, V5, V6, V7, V8, V9, some (.d (.int j.1)), some (.d (.int j.2))]) rfl fun j => ⟨by simp [wipeR, bTup, bsCons, bsNil, dP], by
    have := pow6
    simp [grtE, pow6, dP]⟩
theorem tot_le_const {f : Nat → Int} {c : Int} : ∀ {l : List Nat}, (∀ a ∈ l, f a ≤ c) → tot f l ≤ c * l.length
  | [], _ => by simp [tot]
  | a :: l, h => by
    have ih := tot_le_const fun b hb => h b (List.mem_cons_of_mem _ hb)
    have h1 := h a List.mem_cons_self
    show f a + tot f l ≤ _
    rw [List.length_cons]
    have : c * ((l.length + 1 : Nat) : Int) = c * (l.length : Int) + c := by rw [Int.natCast_add, Int.mul_add]; simp
    omega
theorem great_feas {js : List (Int × Int)} (h : JOk js) : Feas (pOf (mapJ (fun _ => 1000000) js)) (dOf (mapJ (fun _ => 1000000) js)) (List.range (mapJ (fun _ => 1000000) js).length) := fun D hD => by
  rw [mapJ_len]
  have hg : ∀ a ∈ List.range js.length, a < js.length := fun a ha => List.mem_range.mp ha
  by_cases q : 1000000 ≤ D
  · refine Int.le_trans (cnt_le_tot fun a ha => ?_) (Int.le_trans (tot_le_const (c := 1000) fun a ha => ?_) ?_)
    · rw [(mapJ_get _ (hg a ha)).1]
      have := getD_ok h (hg a ha)
      omega
    · rw [(mapJ_get _ (hg a ha)).1]
      exact (getD_ok h (hg a ha)).2.1
    · rw [List.length_range]
      have := h.len
      omega
  · rw [cnt_none fun ⟨j, hj, z⟩ => by
      rw [(mapJ_get _ (hg j hj)).2] at z
      exact q z]
    exact hD
end K42

end
section
set_option Elab.async false
set_option linter.all false
set_option autoImplicit false
set_option maxRecDepth 100000
set_option maxHeartbeats 1000000
namespace K42
open PySem PySem.Spec PyProof.Rows L2 QL MH
theorem JOk.of {js : List (Int × Int)} (h : ∀ j ∈ js, JB j) (hl : js.length ≤ 24) : JOk js := ⟨hl, fun j hj => by
  have := h j hj
  unfold JB at this
  omega⟩
def rightX (F1 F2 F3 F4 F5 F6 F7 F8 F9 : Fn) (L6 L7 : Lv) (E : Ev) : Ex := (sCons (R1 F1) (sCons (R2 F2) (sCons (R3 F3 F4) (sCons (R4 F5 F6) (sCons (R5 F7) (sCons (R6 F2) (sCons R7 (sCons (R8 L6) (sCons (R9 L7) (sCons (R10 F2 E) (sCons R11 (sCons (R12 F2) (sCons (R13 F8 E) (sCons (R14 F9) sNil))))))))))))))
theorem tup_take (st : Sto) (p q : Option Cell) : (st ++ [q]).take (st ++ [p]).length = st ++ [q] := List.take_of_length_le (by simp)
theorem a_right (F1 F2 F3 F4 F5 F6 F7 F8 F9 : Fn) (L6 L7 : Lv) (E : Ev) {st : Sto} {c0 c1 c2 c3 c4 : Option Cell} {T U T2 T4 K : PyData} {xs ys lt gt bt : List PyData} {o m k n t1 t2 t3 t4 : Int} {R : PyData} {s s2 : Str} {cb : Bool}
    (e1 : F1 [.loc st.length] (st ++ [c0]) = some (.d (.tuple xs), st ++ [c1])) (e2 : ∀ S, F2 [.d (.tuple xs)] S = some (.d T, S)) (e3 : ∀ S, F3 [.d (.tuple xs)] S = some (.d T, S)) (h3 : gRepr T = some (.str s)) (e4 : ∀ S, F4 [.d (.tuple xs), .d T] S = some (.d (.bool true), S))
    (e5 : ∀ S, F5 [.loc st.length, .d (.tuple xs), .d T] S = some (.d (.bool true), S)) (e6 : F6 [.loc st.length, .d (.tuple xs), .d T] (st ++ [c1]) = some (.d (.bool true), st ++ [c2])) (hn : gLen (.tuple xs) = some (.int n)) (e7 : F7 [.loc st.length, .d (.int n)] (st ++ [c2]) = some (.d (.int o), st ++ [c3])) (e8 : F7 [.loc st.length, .d (.int 2000)] (st ++ [c3]) = some (.d (.int m), st ++ [c4]))
    (hc1 : QL.cutD xs none (some o) ++ QL.cutD xs (some (o + 1)) none = ys) (hc2 : (QL.cutD xs none (some o)).length + (QL.cutD xs (some (o + 1)) none).length ≤ 16777216) (e9 : ∀ S, F2 [.d (.tuple ys)] S = some (.d U, S)) (ht1 : gLen T = some (.int t1)) (hu : gLen U = some (.int t2)) (hl1 : t1 - 1 ≤ t2) (hl2 : t2 ≤ t1) (hin : pNotIn (.int o) T = some cb) (hcb : cb = true → t2 = t1)
    (e10 : ∀ ρ5 S, L6 [some (.loc st.length), some (.d (.tuple xs)), some (.d T), some (.d (.int o)), some (.d (.int m)), ρ5, none, none, none, none, none, none] S = some (lt, S)) (e11 : ∀ ρ5 ρ6 S, L7 [some (.loc st.length), some (.d (.tuple xs)), some (.d T), some (.d (.int o)), some (.d (.int m)), ρ5, ρ6, none, none, none, none, none] S = some (gt, S))
    (e12 : ∀ S, F2 [.d (.tuple lt)] S = some (.d T2, S)) (ht2 : gLen T2 = some (.int t3)) (hl3 : ¬ t3 < t1) (e13 : ∀ S, F2 [.d (.tuple gt)] S = some (.d R, S)) (hR : gRepr R = some (.str s2)) (eR : ∀ (ρ : Rho) (S : Sto), eVar 1 ρ S = some (.d (.tuple xs), S) → E ρ S = some (.d R, S))
    (hb : (xs.length < 24 ∧ ∃ x, atI xs o = some x ∧ bt = xs ++ [x]) ∨ (¬ xs.length < 24 ∧ bt = xs)) (e14 : ∀ S, F2 [.d (.tuple bt)] S = some (.d T4, S)) (ht4 : gLen T4 = some (.int t4)) (hl4 : t1 ≤ t4) (hl5 : t4 ≤ t1 + 1)
    (e15 : ∀ S, F8 [.d (.tuple xs), .d R] S = some (.d K, S)) (e16 : F9 [.d K] (st ++ [c4]) = some (.d (.int k), st ++ [c4])) (hk : k ≤ 0 ↔ t1 = n) :
    fnS 12 1 (rightX F1 F2 F3 F4 F5 F6 F7 F8 F9 L6 L7 E) [.loc st.length] (st ++ [c0]) = some (.d (.bool true), st ++ [c4]) := by
  refine Eq.trans (v_fnS rfl) ?_
  have ee : rightX F1 F2 F3 F4 F5 F6 F7 F8 F9 L6 L7 E [some (.loc st.length), none, none, none, none, none, none, none, none, none, none, none] (st ++ [c0]) = some (.rt (.d (.bool true)), [some (.loc st.length), some (.d (.tuple xs)), some (.d T), some (.d (.int o)), some (.d (.int m)), some (.d U), some (.d (.tuple lt)), some (.d (.tuple gt)), some (.d (.tuple bt)), some (.d K), none, none], st ++ [c4]) := by
    unfold rightX
    rw [sc_nx (r1 F1 e1), sc_nx (r2 F2 (e2 _)), sc_nx (r3 F3 F4 (e3 _) h3 (e4 _)), sc_nx (r4 F5 F6 (e5 _) e6), sc_nx (r5 F7 hn e7 e8)]
    rw [sc_nx (r6 F2 hc1 hc2 (e9 _))]
    rw [sc_nx (r7 ht1 hu hl1 hl2 hin hcb)]
    rw [sc_nx (r8 L6 (e10 _ _))]
    rw [sc_nx (r9 L7 (e11 _ _ _))]
    rw [sc_nx (r10 F2 E (e12 _) ht2 ht1 hl3 (e13 _) hR (eR _ _ rfl))]
    rcases hb with ⟨q, x, h1, h2⟩ | ⟨q, h2⟩
    · subst h2
      rw [sc_nx (r11a q h1), sc_nx (r12 F2 (e14 _) ht4 ht1 hl4 hl5), sc_nx (r13 F8 E (eR _ _ rfl) (e15 _)), v_sCons, r14 F9 e16 ht1 hn hk]
      rfl
    · subst h2
      rw [sc_nx (r11b q), sc_nx (r12 F2 (e14 _) ht4 ht1 hl4 hl5), sc_nx (r13 F8 E (eR _ _ rfl) (e15 _)), v_sCons, r14 F9 e16 ht1 hn hk]
      rfl
  have ee' : rightX F1 F2 F3 F4 F5 F6 F7 F8 F9 L6 L7 E (List.map some [Vl.loc st.length] ++ List.replicate (12 - [Vl.loc st.length].length) none) (st ++ [c0]) = _ := ee
  rw [ee', v_obind]
  simp only
  rw [v_fin, tup_take]
end K42

end
section
set_option Elab.async false
set_option linter.all false
set_option autoImplicit false
set_option maxRecDepth 100000
set_option maxHeartbeats 1000000
namespace K42
open PySem PySem.Spec PyProof.Rows L2 QL MH
theorem right_eq : sem__law_right = fnS 12 1 (rightX sem__law_drawn sem_most_in_time sem__law_most sem__law_are_in_time sem__law_is_more_right sem__law_are_others_right sem__law_take sem__law_as_tasks sem_too_long latL grtL (eTupRg (rg1 (eOp1 gLen (eVar 1))))) := by
  unfold sem__law_right rightX R1 R2 R3 R4 R5 R6 R7 R8 R9 R10 R11 R12 R13 R14 retF latL grtL latE grtE
  rfl
theorem ev_R {js : List (Int × Int)} (h : js.length ≤ 24) (ρ : Rho) (S : Sto) (hv : eVar 1 ρ S = some (.d (encJ js), S)) : eTupRg (rg1 (eOp1 gLen (eVar 1))) ρ S = some (.d (.tuple ((List.range js.length).map dN)), S) := by
  have eJ : gLen (encJ js) = some (.int js.length) := len_encJ js
  refine a_tRg1 (c := true) ?_ ?_ rfl
  · generalize encJ js = J at eJ hv
    simp [hv, eJ]
  · unfold rgOkB
    simp only [Bool.and_eq_true, decide_eq_true_eq]
    have q : (2 : Int) ^ 62 = 4611686018427387904 := by decide
    have q2 : (2 : Nat) ^ 24 = 16777216 := by decide
    rw [q, q2]
    omega
theorem len_nats (is : List Nat) : gLen (.tuple (is.map dN)) = some (.int is.length) := by simp
theorem mh_len {js : List (Int × Int)} (h : JOk js) : (mh js).length ≤ js.length := by
  have := len_le_of_sub (mh_nodup h) (m := List.range js.length) fun b hb => List.mem_range.mpr (mh_lt h b hb)
  rw [List.length_range] at this
  exact this
theorem rem_ge1 {js : List (Int × Int)} (h : JOk js) {o : Nat} (ho : o < js.length) : (mh js).length ≤ (mh (js.eraseIdx o)).length + 1 := by
  have hn := (mh_nodup h).erase o
  have hp : ∀ a ∈ mh js, 0 ≤ pOf js a := fun a ha => by
    have := getD_ok h (mh_lt h a ha)
    omega
  have := rem_ge h ho hn (fun a ha => mh_lt h a (List.mem_of_mem_erase ha)) ((mh_nodup h).not_mem_erase) ((mh_feas h).sub hn (fun a ha => List.mem_of_mem_erase ha) hp)
  have hl := List.length_erase (l := mh js) (a := o)
  split at hl <;> omega
theorem map_erase {α β : Type} (f : α → β) : ∀ (xs : List α) (n : Nat), (xs.map f).eraseIdx n = (xs.eraseIdx n).map f
  | [], _ => by simp
  | x :: xs, 0 => rfl
  | x :: xs, n + 1 => by rw [List.map_cons, List.eraseIdx_cons_succ, List.eraseIdx_cons_succ, List.map_cons, map_erase f xs n]
theorem enc_len (js : List (Int × Int)) : (js.map dP).length = js.length := List.length_map _
end K42

end
section
set_option Elab.async false
set_option linter.all false
set_option autoImplicit false
set_option maxRecDepth 100000
set_option maxHeartbeats 1000000
namespace K42
open PySem PySem.Spec PyProof.Rows L2 QL MH
theorem s_right {P : Int × Int × Int} (hP : POk 0 P) (st : Sto) : ∃ P', sem__law_right [.loc st.length] (st ++ [some (.lst (potL P))]) = some (.d (.bool true), st ++ [some (.lst (potL P'))]) := by
  obtain ⟨P1, js, p1, hB, l1, l24, e1⟩ := s_drawn hP st
  have h := JOk.of hB l24
  have hlen := mh_len h
  obtain ⟨P2, p2, e4⟩ := s_others h p1 (by omega) st
  obtain ⟨ro, P3, o0, o1, p3, e5⟩ := s_take p2 (by omega) (u := (js.length : Int)) (by omega) (by omega) st
  obtain ⟨m, P4, m0, m1, p4, e6⟩ := s_take p3 (by omega) (u := 2000) (by omega) (by omega) st
  obtain ⟨o, rfl⟩ : ∃ o : Nat, ro = (o : Int) := ⟨ro.toNat, by omega⟩
  have ho : o < js.length := by omega
  obtain ⟨s, hs⟩ := repr_nats (is := mh js) (fun a ha => by have := mh_lt h a ha; omega) (by omega)
  obtain ⟨s2, hs2⟩ := repr_nats (is := List.range js.length) (fun a ha => by have := List.mem_range.mp ha; omega) (by rw [List.length_range]; exact l24)
  have hrem := rem_ok h o
  have hfe : JOk (mapJ (latF m) js) := mapJ_ok h fun j hj => by
    have := hB j hj
    unfold JB at this
    unfold latF
    split <;> omega
  have hgr : JOk (mapJ (fun _ => 1000000) js) := mapJ_ok h fun j hj => by simp
  have hgm := all_told hgr (great_feas h)
  rw [mapJ_len] at hgm
  have hk : JOk (subJ js (List.range js.length)) := subJ_ok h (fun a ha => List.mem_range.mp ha) (by rw [List.length_range]; exact l24)
  have hne : subJ js (List.range js.length) ≠ [] := subJ_ne fun e => by
    have := congrArg List.length e
    rw [List.length_range] at this
    have : js.length = 0 := this
    omega
  obtain ⟨k, t1, t2⟩ := s_too_long hk hne (st ++ [some (.lst (potL P4))])
  rw [subJ_len, feas_sub, ← told_all h] at t2
  refine ⟨P4, ?_⟩
  have hcut : QL.cutD (js.map dP) none (some (o : Int)) ++ QL.cutD (js.map dP) (some ((o : Int) + 1)) none = (js.eraseIdx o).map dP := by
    rw [cut_erase _ (by rw [List.length_map]; exact ho), map_erase]
  have hcl : (QL.cutD (js.map dP) none (some (o : Int))).length + (QL.cutD (js.map dP) (some ((o : Int) + 1)) none).length ≤ 16777216 := by
    have q1 := cutD_len (js.map dP) none (some (o : Int))
    have q2 := cutD_len (js.map dP) (some ((o : Int) + 1)) none
    rw [List.length_map] at q1 q2
    omega
  have hle := rem_le h ho
  have hge := rem_ge1 h ho
  have hlm := later_most h hfe (mapJ_len _ _) (fun a ha => (mapJ_get _ ha).1) (fun a ha => by
    rw [(mapJ_get _ ha).2]
    have q := getD_ok h ha
    unfold latF
    split <;> omega)
  have hare : ∀ S, sem__law_are_in_time [.d (encJ js), .d (.tuple ((mh js).map dN))] S = some (.d (.bool true), S) := fun S => by
    have := s_law_are h (mh_lt h) (by omega) S
    rw [feasB_iff.mpr (mh_feas h)] at this
    exact this
  have hget : js.getD o (0, 0) ∈ js := by
    rw [List.getD_eq_getElem?_getD, List.getElem?_eq_getElem ho]
    exact List.getElem_mem ho
  obtain ⟨bs, hbs, hbj, hb1, hb2⟩ : ∃ bs : List (Int × Int), (((js.map dP).length < 24 ∧ ∃ x, atI (js.map dP) (o : Int) = some x ∧ bs.map dP = js.map dP ++ [x]) ∨ (¬ (js.map dP).length < 24 ∧ bs.map dP = js.map dP)) ∧ JOk bs ∧ (mh js).length ≤ (mh bs).length ∧ (mh bs).length ≤ (mh js).length + 1 := by
    rw [enc_len]
    by_cases q : js.length < 24
    · have h2 : JOk (js ++ [js.getD o (0, 0)]) := ⟨by rw [List.length_append, List.length_singleton]; omega, fun j hj => by
        rcases List.mem_append.mp hj with z | z
        · exact h.ok j z
        · rw [List.mem_singleton.mp z]; exact h.ok _ hget⟩
      refine ⟨_, .inl ⟨q, dP (js.getD o (0, 0)), ?_, ?_⟩, h2, both_ge h h2, both_le h h2⟩
      · rw [atI_n, List.getElem?_map, List.getD_eq_getElem?_getD, List.getElem?_eq_getElem ho]
        rfl
      · rw [List.map_append]
        rfl
    · exact ⟨js, .inr ⟨q, rfl⟩, h, by omega, by omega⟩
  rw [right_eq]
  exact a_right sem__law_drawn sem_most_in_time sem__law_most sem__law_are_in_time sem__law_is_more_right sem__law_are_others_right sem__law_take sem__law_as_tasks sem_too_long latL grtL (eTupRg (rg1 (eOp1 gLen (eVar 1)))) (xs := js.map dP) (ys := (js.eraseIdx o).map dP) (lt := (mapJ (latF m) js).map dP) (gt := (mapJ (fun _ => 1000000) js).map dP) (bt := bs.map dP) (T := .tuple ((mh js).map dN)) (U := .tuple ((mh (js.eraseIdx o)).map dN)) (T2 := .tuple ((mh (mapJ (latF m) js)).map dN)) (R := .tuple ((List.range js.length).map dN)) (T4 := .tuple ((mh bs).map dN)) (K := encK (subJ js (List.range js.length))) (n := (js.length : Int)) (t1 := ((mh js).length : Int)) (t2 := ((mh (js.eraseIdx o)).length : Int)) (t3 := ((mh (mapJ (latF m) js)).length : Int)) (t4 := ((mh bs).length : Int)) (cb := decide (o ∉ mh js))
    e1 (s_most_in_time h) (s_law_most l24) hs hare (s_is_more h _) e4 (len_encJ js) (e5 []) (e6 []) hcut hcl (s_most_in_time hrem) (len_nats _) (len_nats _) (by omega) (by omega) (notIn_tup (mh js) o) (fun hc => by
      have hno : o ∉ mh js := by simpa using hc
      have := rem_ge h ho (mh_nodup h) (mh_lt h) hno (mh_feas h)
      omega)
    (fun ρ5 S => ev_latL (by omega) m _ _ _ _ _ _ _ _ _ _ S) (fun ρ5 ρ6 S => ev_grtL (by omega) _ _ _ _ _ _ _ _ _ _ _ S) (s_most_in_time hfe) (len_nats _) (by omega) (fun S => by
      have := s_most_in_time hgr S
      rw [hgm] at this
      exact this) hs2 (ev_R l24) hbs (s_most_in_time hbj) (len_nats _) (by omega) (by omega)
    (fun S => s_as_tasks (fun a ha => List.mem_range.mp ha) (by rw [List.length_range]; omega) S) t1 (by omega)
end K42

end
section
set_option Elab.async false
set_option linter.all false
set_option autoImplicit false
set_option maxRecDepth 100000
set_option maxHeartbeats 1000000
namespace K42
open PySem PySem.Spec PyProof.Rows L2 QL MH
theorem comp_mapT {α : Type} {own : List Nat} {b : Bd} {f : Ev} {ρ : Rho} {st : Sto} (enc h : α → PyData) (ρ1 : α → Rho) : ∀ (xs : List α), (∀ x ∈ xs, b (.d (enc x)) (wipeR ρ own) st = some (ρ1 x, st) ∧ ∃ s3, f (ρ1 x) st = some (.d (h x), s3) ∧ s3.take st.length = st) → compD own b tYesQ f ρ (xs.map enc) st = some (xs.map h, st)
  | [], _ => rfl
  | x :: xs, hx => by
    obtain ⟨h1, s3, h2, h3⟩ := hx x List.mem_cons_self
    have ih := comp_mapT enc h ρ1 xs fun y hy => hx y (List.mem_cons_of_mem _ hy)
    rw [List.map_cons, compD, h1]
    simp [h2, h3, ih]
def potE : Ev := (eIf (tCmp2 pLt (eVar 1) (eOp1 gLen (eVar 0))) (eOp2 gIx (eVar 0) (eVar 1)) (eOp2 gAdd (eOp2 gAdd (eOp2 gMod (eOp1 gInt (eOp1 gSum (eFz (lSlL (eVar 0) oNone (oSome (eC (.int 1))))))) (eC (.int 1000303))) (eOp2 gMul (eC (.int 4723)) (eVar 1))) (eC (.int 2971))))
theorem ev_potE (ns : List Int) {p : Nat} (hp : p < 1000) (V2 V3 V4 : Option Vl) (S : Sto) : ∃ c, potE [some (.d (.list (ns.map .int))), some (.d (dN p)), V2, V3, V4] S = some (.d (.int c), S) := by
  by_cases q : p < ns.length
  · have e : gIx (.list (ns.map .int)) (dN p) = some (.int ns[p]) := by
      show atI (ns.map PyData.int) ((p : Nat) : Int) = _
      rw [atI_n, List.getElem?_map, List.getElem?_eq_getElem q]
      rfl
    refine ⟨ns[p], ?_⟩
    have q' : (p : Int) < ns.length := by omega
    have el : gLen (.list (ns.map PyData.int)) = some (.int ns.length) := by simp
    have ec : pLt (dN p) (.int ns.length) = some true := by
      show some _ = _
      rw [decide_eq_true q']
    generalize ns.map PyData.int = X at e el ⊢
    simp [-v_len_l, potE, e, el, ec]
  · have el : gLen (.list (ns.map PyData.int)) = some (.int ns.length) := by simp
    have ec : pLt (dN p) (.int ns.length) = some false := by
      show some _ = _
      rw [decide_eq_false (by omega)]
    have hs : ∃ z, gSum (.list (QL.cutD (ns.map PyData.int) none (some 1))) = some (.int z) := by
      rw [cutD_map]
      exact ⟨_, gSum_map (fun i => i) (QL.cutD ns none (some 1))⟩
    obtain ⟨z, hz⟩ := hs
    have hm : gMul (.int 4723) (dN p) = some (.int (4723 * (p : Int))) := mul_r (by omega) (by omega)
    refine ⟨z % 1000303 + 4723 * (p : Int) + 2971, ?_⟩
    generalize ns.map PyData.int = X at el hz ⊢
    simp [-v_len_l, -QL.v_mul, potE, el, ec, lSlL, oSome, hz, hm]
theorem a_pot (E : Ev) {V W : PyData} {c A B o p r1 r2 r3 : Int} {st : Sto} (e0 : ∀ V2 V3 V4, E [some (.d V), some (.d W), V2, V3, V4] st = some (.d (.int c), st)) (h1 : gPowW (.int 10) (.int 60) = some (.int A)) (h2 : gPowW (.int A) (.int 5) = some (.int B)) (hB : 0 < B) (h3 : gPowW (.int 10) (.int 18) = some (.int p))
    (h4 : gMul (.int ((if c < 0 then -c else c) % B)) (.int (if p ≤ (if c < 0 then -c else c) then (1 : Int) else 0)) = some (.int o)) (h5 : gMul (.int (c % 2305843009213693921)) (.int 68111) = some (.int r1)) (h6 : gMul (.int 12413) W = some (.int r2)) (h7 : gMul (.int r2) W = some (.int r3)) :
    fnS 5 2 (sCons (sAsg E (bName 2))
 (sCons (sAsg (eOp2 gMul (eOp2 gMod (eOp1 gInt (eOp1 gAbs (eVar 2))) (eOp2 gPowW (eOp2 gPowW (eC (.int 10)) (eC (.int 60))) (eC (.int 5)))) (eOp1 gInt (eOp2 (gB pGe) (eOp1 gAbs (eVar 2)) (eOp2 gPowW (eC (.int 10)) (eC (.int 18)))))) (bName 3))
 (sCons (sAsg (eOp2 gMod (eOp1 gInt (eVar 2)) (eC (.int 2305843009213693921))) (bName 4))
 (sCons (sRet (eOwn (lDisp (aCons (eVar 3) (aCons (eOp2 gMod (eOp1 gInt (eOp2 gAdd (eOp2 gAdd (eOp2 gMul (eVar 4) (eC (.int 68111))) (eOp2 gMul (eOp2 gMul (eC (.int 12413)) (eVar 1)) (eVar 1))) (eC (.int 2843)))) (eC (.int 2305843009213693921))) (aCons (eC (.int 0)) aNil))))))
 sNil)))) [.d V, .d W] st = some (.loc st.length, st ++ [some (.lst [.int o, .int ((r1 + r3 + 2843) % 2305843009213693921), .int 0])]) := by
  have hf : ∀ c : Option Cell, c ≠ none → fin st.length (.loc st.length) (st ++ [c]) = some (.loc st.length, st ++ [c]) := fun c hc => by
    cases c with
    | none => exact absurd rfl hc
    | some c =>
      show (if st.length < st.length then _ else _) = _
      rw [if_neg (Nat.lt_irrefl _)]
      simp
  have hM : (0 : Int) < 2305843009213693921 := by decide
  generalize (2305843009213693921 : Int) = M at *
  simp only [v_fn, List.length_cons, List.length_nil, if_true, List.map_cons, List.map_nil]
  simp [-QL.v_mul, e0, h1, h2, hB, h3, h4, h5, h6, h7, hf, hM]
theorem bits_pow {n k : Nat} (h : k < 2 ^ n) : Builtin.Int.intBits (k : Int) ≤ n := intBits_le (Int.natCast_nonneg k) (by
  have : ((2 ^ n : Nat) : Int) = (2 : Int) ^ n := by rw [Int.natCast_pow]; rfl
  rw [← this]
  omega)
theorem powW_ok {x : Int} {k n : Nat} (h : Builtin.Int.intBits x ≤ n) (hk : n * k ≤ 134217728) : gPowW (.int x) (.int (k : Int)) = some (.int (x ^ k)) := by
  show (if 0 ≤ (k : Int) ∧ (Builtin.Int.intBits x : Int) * (k : Int) ≤ 2 ^ 27 then some (PyData.int (x ^ (k : Int).toNat)) else none) = _
  rw [if_pos ⟨by omega, by
    have : (2 : Int) ^ 27 = 134217728 := by decide
    rw [this]
    have h7 : (Builtin.Int.intBits x) * k ≤ 134217728 := Nat.le_trans (Nat.mul_le_mul_right k h) hk
    rw [← Int.natCast_mul]
    generalize (Builtin.Int.intBits x) * k = y at h7
    omega⟩, Int.toNat_natCast]
theorem s_pot (ns : List Int) {p : Nat} (hp : p < 1000) (st : Sto) : ∃ P, POk 0 P ∧ sem__law_pot [.d (.list (ns.map .int)), .d (dN p)] st = some (.loc st.length, st ++ [some (.lst (potL P))]) := by
  obtain ⟨c, e0⟩ : ∃ c, ∀ V2 V3 V4, potE [some (.d (.list (ns.map .int))), some (.d (dN p)), V2, V3, V4] st = some (.d (.int c), st) := by
    obtain ⟨c, h⟩ := ev_potE ns hp none none none st
    exact ⟨c, fun V2 V3 V4 => h⟩
  have h1 : gPowW (.int 10) (.int 60) = some (.int ((10 : Int) ^ 60)) := powW_ok (k := 60) (n := 4) (bits_pow (k := 10) (by decide)) (by decide)
  have h2 : gPowW (.int ((10 : Int) ^ 60)) (.int 5) = some (.int (((10 : Int) ^ 60) ^ 5)) := powW_ok (k := 5) (n := 200) (bits_pow (k := 10 ^ 60) (by decide)) (by decide)
  have h3 : gPowW (.int 10) (.int 18) = some (.int ((10 : Int) ^ 18)) := powW_ok (k := 18) (n := 4) (bits_pow (k := 10) (by decide)) (by decide)
  have hB : (0 : Int) < ((10 : Int) ^ 60) ^ 5 := Int.pow_pos (Int.pow_pos (by decide))
  generalize ((10 : Int) ^ 60) ^ 5 = B at h2 hB
  generalize (10 : Int) ^ 60 = A at h1 h2
  generalize (10 : Int) ^ 18 = p18 at h3
  have hb : (if p18 ≤ (if c < 0 then -c else c) then (1 : Int) else 0) = 0 ∨ (if p18 ≤ (if c < 0 then -c else c) then (1 : Int) else 0) = 1 := by
    by_cases q : p18 ≤ (if c < 0 then -c else c)
    · rw [if_pos q]; exact .inr rfl
    · rw [if_neg q]; exact .inl rfl
  have h4 := mul_r (i := (if c < 0 then -c else c) % B) (j := (if p18 ≤ (if c < 0 then -c else c) then (1 : Int) else 0)) (by omega) (by omega)
  have ha : 0 ≤ (if c < 0 then -c else c) % B := Int.emod_nonneg _ (by omega)
  have s0 : 0 ≤ c % 2305843009213693921 := Int.emod_nonneg _ (by omega)
  have h5 := mul_r (i := c % 2305843009213693921) (j := 68111) (by omega) (by omega)
  have h6 : gMul (.int 12413) (dN p) = some (.int (12413 * (p : Int))) := mul_r (by omega) (by omega)
  have h7 : gMul (.int (12413 * (p : Int))) (dN p) = some (.int (12413 * (p : Int) * (p : Int))) := mul_r (by omega) (by omega)
  have := a_pot potE e0 h1 h2 hB h3 h4 h5 h6 h7
  refine ⟨(_, _, 0), ⟨?_, ?_, ?_, by simp, by simp⟩, this⟩
  · simp only
    rcases hb with q | q <;> rw [q] <;> omega
  · exact Int.emod_nonneg _ (by omega)
  · exact Int.emod_lt_of_pos _ (by omega)
theorem a_law (F1 F2 F3 : Fn) {V : PyData} {X Y : List PyData} (e1 : F1 [.d V, .d (.int 3)] [] = some (.d (.list X), [])) (hC : compD [1] (bName 1) tYesQ (eCall F2 (aCons (eCall F3 (aCons (eVar 0) (aCons (eVar 1) aNil))) aNil)) [some (.d V), none] X [] = some (Y, [])) (hX : X.length ≤ 1000) (e2 : gAll (.list Y) = some (.bool true)) :
    fnS 2 1 (sCons (sRet (eOp1 gAll (eFz (lComp [1] (iSeq (eCall F1 (aCons (eVar 0) (aCons (eC (.int 3)) aNil)))) (bName 1) tYesQ (eCall F2 (aCons (eCall F3 (aCons (eVar 0) (aCons (eVar 1) aNil))) aNil))))))
 sNil) [.d V] [] = some (.d (.bool true), []) := by
  have hX' : X.length ≤ 16777216 := by omega
  simp [e1, iSeq, hC, hX', e2]
theorem a_body (F2 F3 : Fn) {V W x : PyData} {c : Vl} {S2 S3 : Sto} (h1 : F3 [.d V, .d W] [] = some (c, S2)) (h2 : F2 [c] S2 = some (.d x, S3)) : eCall F2 (aCons (eCall F3 (aCons (eVar 0) (aCons (eVar 1) aNil))) aNil) [some (.d V), some (.d W)] [] = some (.d x, S3) := by
  simp [h1, h2]
theorem law_eq : sem_law = fnS 2 1 (sCons (sRet (eOp1 gAll (eFz (lComp [1] (iSeq (eCall sem__law_cells (aCons (eVar 0) (aCons (eC (.int 3)) aNil)))) (bName 1) tYesQ (eCall sem__law_right (aCons (eCall sem__law_pot (aCons (eVar 0) (aCons (eVar 1) aNil))) aNil))))))
 sNil) := by
  unfold sem_law
  rfl
theorem spec (ns : List Int) (hl : ns.length ≤ 63) (hb : ∀ z ∈ ns, Builtin.Int.intBits z ≤ 1048576) : ∃ st', sem_law [.d (.list (ns.map .int))] [] = some (.d (.bool true), st') := by
  obtain ⟨k, k3, k1, e1⟩ := s_cells hl []
  refine ⟨[], ?_⟩
  rw [law_eq]
  refine a_law sem__law_cells sem__law_right sem__law_pot e1 (Y := (List.range k).map fun _ => .bool true) ?_ (by rw [List.length_map, List.length_range]; omega) ?_
  · refine comp_mapT dN (fun _ => .bool true) (fun p => [some (.d (.list (ns.map .int))), some (.d (dN p))]) (List.range k) fun p hp => ⟨?_, ?_⟩
    · generalize ns.map PyData.int = X
      simp [wipeR]
    · have hp' := List.mem_range.mp hp
      obtain ⟨P, h0, h1⟩ := s_pot ns (p := p) (by omega) []
      obtain ⟨P', h2⟩ := s_right h0 []
      exact ⟨_, a_body sem__law_right sem__law_pot h1 h2, rfl⟩
  · have := gAll_map (fun _ : Nat => true) (List.range k)
    rw [this]
    simp
end K42

end
section
set_option Elab.async false
set_option linter.all false
set_option maxRecDepth 100000
set_option maxHeartbeats 0
namespace K42
open PySem PySem.Spec PyProof.Rows L2 QL Hd
theorem code_of {K : PySem.W.Frag} {x q : Str} {a : Arguments} {b : List Stmt} {sc : Scope} {dvs : List V} {kws : List (Str × V)} {p : Str × Option Str} {fd : FuncData} (F : FunD K x q a b sc dvs kws (He.fAd K p) fd) : fd.code = .ref (He.cT K p).1 := by
  obtain ⟨oc, od, dV, kV, doc, pm, an, cdv, ct, osl, rfl, lk, hcd, _, _⟩ := F.ex
  obtain ⟨c, rfl⟩ := He.codeIn_ref hcd
  show Value.ref c = _
  rw [show (He.cT K p).1 = c from He.codeOf_eq lk rfl]
def TT (K : PySem.W.Frag) : Tb := tf.map fun p => ((He.cT K p).2, (p.1 ++ ".<locals>.") ++ "<lambda>")
theorem lamF {K : PySem.W.Frag} {base : Heap} {mg : Str → Option Value} {x q : Str} {a : Arguments} {b : List Stmt} {sc : Scope} {fd : FuncData} (hx : ex K = true) (ht : ∀ p ∈ tf.map (He.cT K), LamX.TabB base mg p.1 p.2) (hm : ((x, none) : He.Defn) ∈ tf) (F : FunD K x q a b sc [] [] (He.fAd K (x, none)) fd) : LamF base mg (TT K) x fd (He.cT K (x, none)).1 (He.cT K (x, none)).2 where
  code := code_of F
  tb := ht _ (List.mem_map_of_mem hm)
  mem := List.mem_map.mpr ⟨_, hm, rfl⟩
  uni := fun q hq e => by
    obtain ⟨p, hp, rfl⟩ := List.mem_map.mp hq
    have nd : (tf.map fun p => (He.cT K p).2).Nodup := of_decide_eq_true hx
    have := inj_of_nodup nd hp hm e
    rw [this]
theorem facts {w : World} {K : PySem.W.Frag} {h : Heap} {mg : Str → Option Value} {fl : Addr} (X : K.In h) (G : h.Ns mainGlobals mg) (hfa : mg ("law" : Str) = some (.ref fl)) (cx : He.SaysX fa fn [] tf ex w h K) :
    LawG PySem.Challenge.rw_leastendwithcuts_k42_whole_most_in_time w K 10 63 "script" mg fl h := by
  have c : He.SaysD fa fn K := congrArg (fun z : He.AlT => z.1) cx.t
  have e := hfa.symm.trans (He.glo_ok X G (c.facts (f := .glo "law") (by simp [fa])))
  cases e
  obtain ⟨fd_is_int, F_is_int⟩ := c.def_ 0 (d := mk 5 "is_int") rfl
  obtain ⟨fd_are_ints, F_are_ints⟩ := c.def_ 1 (d := mk 6 "are_ints") rfl
  obtain ⟨fd_are_dues, F_are_dues⟩ := c.def_ 2 (d := mk 12 "are_dues") rfl
  obtain ⟨fd_look_at_dues, F_look_at_dues⟩ := c.def_ 3 (d := mk 13 "look_at_dues") rfl
  obtain ⟨fd_told_in_time, F_told_in_time⟩ := c.def_ 4 (d := mk 14 "told_in_time") rfl
  obtain ⟨fd_most_in_time, F_most_in_time⟩ := c.def_ 5 (d := mk 15 "most_in_time") rfl
  obtain ⟨fd_are_in_time, F_are_in_time⟩ := c.def_ 6 (d := mk 16 "are_in_time") rfl
  obtain ⟨fd_is_most_in_time, F_is_most_in_time⟩ := c.def_ 7 (d := mk 17 "is_most_in_time") rfl
  obtain ⟨fd_are_tasks, F_are_tasks⟩ := c.def_ 8 (d := mk 21 "are_tasks") rfl
  obtain ⟨fd_look_at_tasks, F_look_at_tasks⟩ := c.def_ 9 (d := mk 22 "look_at_tasks") rfl
  obtain ⟨fd_told_over, F_told_over⟩ := c.def_ 10 (d := mk 23 "told_over") rfl
  obtain ⟨fd_told_lots, F_told_lots⟩ := c.def_ 11 (d := mk 24 "told_lots") rfl
  obtain ⟨fd_told_worst, F_told_worst⟩ := c.def_ 12 (d := mk 25 "told_worst") rfl
  obtain ⟨fd_too_long, F_too_long⟩ := c.def_ 13 (d := mk 26 "too_long") rfl
  obtain ⟨fd_told_broken, F_told_broken⟩ := c.def_ 14 (d := mk 27 "told_broken") rfl
  obtain ⟨fd_with_breaks, F_with_breaks⟩ := c.def_ 15 (d := mk 28 "with_breaks") rfl
  obtain ⟨fd_lateness_of, F_lateness_of⟩ := c.def_ 16 (d := mk 29 "lateness_of") rfl
  obtain ⟨fd__law_pot, F__law_pot⟩ := c.def_ 17 (d := mk 31 "_law_pot") rfl
  obtain ⟨fd__law_take, F__law_take⟩ := c.def_ 18 (d := mk 32 "_law_take") rfl
  obtain ⟨fd__law_of, F__law_of⟩ := c.def_ 19 (d := mk 33 "_law_of") rfl
  obtain ⟨fd__law_cells, F__law_cells⟩ := c.def_ 20 (d := mk 34 "_law_cells") rfl
  obtain ⟨fd__law_drawn, F__law_drawn⟩ := c.def_ 21 (d := mk 35 "_law_drawn") rfl
  obtain ⟨fd__law_most, F__law_most⟩ := c.def_ 22 (d := mk 36 "_law_most") rfl
  obtain ⟨fd__law_are_in_time, F__law_are_in_time⟩ := c.def_ 23 (d := mk 37 "_law_are_in_time") rfl
  obtain ⟨fd__law_as_tasks, F__law_as_tasks⟩ := c.def_ 24 (d := mk 38 "_law_as_tasks") rfl
  obtain ⟨fd__law_is_more_right, F__law_is_more_right⟩ := c.def_ 25 (d := mk 39 "_law_is_more_right") rfl
  obtain ⟨fd__law_are_others_right, F__law_are_others_right⟩ := c.def_ 26 (d := mk 40 "_law_are_others_right") rfl
  obtain ⟨fd__law_right, F__law_right⟩ := c.def_ 27 (d := mk 41 "_law_right") rfl
  obtain ⟨fd_law, F_law⟩ := c.def_ 28 (d := mk 42 "law") rfl
  have D_is_int : DefF K mg (K42.stAt 5) "is_int" ["value", "low", "high"] (He.fAd K ("is_int", none)) fd_is_int := ⟨He.glo_ok X G (c.facts (f := .glo "is_int") (by simp [fa])), F_is_int, FunD.bindsN (ps := ["value", "low", "high"]) F_is_int fun _ _ _ _ _ _ us hl => match us, hl with | [_, _, _], _ => rfl⟩
  have D_are_ints : DefF K mg (K42.stAt 6) "are_ints" ["value", "low", "high"] (He.fAd K ("are_ints", none)) fd_are_ints := ⟨He.glo_ok X G (c.facts (f := .glo "are_ints") (by simp [fa])), F_are_ints, FunD.bindsN (ps := ["value", "low", "high"]) F_are_ints fun _ _ _ _ _ _ us hl => match us, hl with | [_, _, _], _ => rfl⟩
  have D_are_dues : DefF K mg (K42.stAt 12) "are_dues" ["value"] (He.fAd K ("are_dues", none)) fd_are_dues := ⟨He.glo_ok X G (c.facts (f := .glo "are_dues") (by simp [fa])), F_are_dues, FunD.bindsN (ps := ["value"]) F_are_dues fun _ _ _ _ _ _ us hl => match us, hl with | [_], _ => rfl⟩
  have D_look_at_dues : DefF K mg (K42.stAt 13) "look_at_dues" ["jobs"] (He.fAd K ("look_at_dues", none)) fd_look_at_dues := ⟨He.glo_ok X G (c.facts (f := .glo "look_at_dues") (by simp [fa])), F_look_at_dues, FunD.bindsN (ps := ["jobs"]) F_look_at_dues fun _ _ _ _ _ _ us hl => match us, hl with | [_], _ => rfl⟩
  have D_told_in_time : DefF K mg (K42.stAt 14) "told_in_time" ["jobs"] (He.fAd K ("told_in_time", none)) fd_told_in_time := ⟨He.glo_ok X G (c.facts (f := .glo "told_in_time") (by simp [fa])), F_told_in_time, FunD.bindsN (ps := ["jobs"]) F_told_in_time fun _ _ _ _ _ _ us hl => match us, hl with | [_], _ => rfl⟩
  have D_most_in_time : DefF K mg (K42.stAt 15) "most_in_time" ["jobs"] (He.fAd K ("most_in_time", none)) fd_most_in_time := ⟨He.glo_ok X G (c.facts (f := .glo "most_in_time") (by simp [fa])), F_most_in_time, FunD.bindsN (ps := ["jobs"]) F_most_in_time fun _ _ _ _ _ _ us hl => match us, hl with | [_], _ => rfl⟩
  have D_are_in_time : DefF K mg (K42.stAt 16) "are_in_time" ["jobs", "some"] (He.fAd K ("are_in_time", none)) fd_are_in_time := ⟨He.glo_ok X G (c.facts (f := .glo "are_in_time") (by simp [fa])), F_are_in_time, FunD.bindsN (ps := ["jobs", "some"]) F_are_in_time fun _ _ _ _ _ _ us hl => match us, hl with | [_, _], _ => rfl⟩
  have D_is_most_in_time : DefF K mg (K42.stAt 17) "is_most_in_time" ["jobs", "value"] (He.fAd K ("is_most_in_time", none)) fd_is_most_in_time := ⟨He.glo_ok X G (c.facts (f := .glo "is_most_in_time") (by simp [fa])), F_is_most_in_time, FunD.bindsN (ps := ["jobs", "value"]) F_is_most_in_time fun _ _ _ _ _ _ us hl => match us, hl with | [_, _], _ => rfl⟩
  have D_are_tasks : DefF K mg (K42.stAt 21) "are_tasks" ["value"] (He.fAd K ("are_tasks", none)) fd_are_tasks := ⟨He.glo_ok X G (c.facts (f := .glo "are_tasks") (by simp [fa])), F_are_tasks, FunD.bindsN (ps := ["value"]) F_are_tasks fun _ _ _ _ _ _ us hl => match us, hl with | [_], _ => rfl⟩
  have D_look_at_tasks : DefF K mg (K42.stAt 22) "look_at_tasks" ["tasks"] (He.fAd K ("look_at_tasks", none)) fd_look_at_tasks := ⟨He.glo_ok X G (c.facts (f := .glo "look_at_tasks") (by simp [fa])), F_look_at_tasks, FunD.bindsN (ps := ["tasks"]) F_look_at_tasks fun _ _ _ _ _ _ us hl => match us, hl with | [_], _ => rfl⟩
  have D_told_over : DefF K mg (K42.stAt 23) "told_over" ["tasks", "lot"] (He.fAd K ("told_over", none)) fd_told_over := ⟨He.glo_ok X G (c.facts (f := .glo "told_over") (by simp [fa])), F_told_over, FunD.bindsN (ps := ["tasks", "lot"]) F_told_over fun _ _ _ _ _ _ us hl => match us, hl with | [_, _], _ => rfl⟩
  have D_told_lots : DefF K mg (K42.stAt 24) "told_lots" ["tasks"] (He.fAd K ("told_lots", none)) fd_told_lots := ⟨He.glo_ok X G (c.facts (f := .glo "told_lots") (by simp [fa])), F_told_lots, FunD.bindsN (ps := ["tasks"]) F_told_lots fun _ _ _ _ _ _ us hl => match us, hl with | [_], _ => rfl⟩
  have D_told_worst : DefF K mg (K42.stAt 25) "told_worst" ["tasks"] (He.fAd K ("told_worst", none)) fd_told_worst := ⟨He.glo_ok X G (c.facts (f := .glo "told_worst") (by simp [fa])), F_told_worst, FunD.bindsN (ps := ["tasks"]) F_told_worst fun _ _ _ _ _ _ us hl => match us, hl with | [_], _ => rfl⟩
  have D_too_long : DefF K mg (K42.stAt 26) "too_long" ["tasks"] (He.fAd K ("too_long", none)) fd_too_long := ⟨He.glo_ok X G (c.facts (f := .glo "too_long") (by simp [fa])), F_too_long, FunD.bindsN (ps := ["tasks"]) F_too_long fun _ _ _ _ _ _ us hl => match us, hl with | [_], _ => rfl⟩
  have D_told_broken : DefF K mg (K42.stAt 27) "told_broken" ["tasks"] (He.fAd K ("told_broken", none)) fd_told_broken := ⟨He.glo_ok X G (c.facts (f := .glo "told_broken") (by simp [fa])), F_told_broken, FunD.bindsN (ps := ["tasks"]) F_told_broken fun _ _ _ _ _ _ us hl => match us, hl with | [_], _ => rfl⟩
  have D_with_breaks : DefF K mg (K42.stAt 28) "with_breaks" ["tasks"] (He.fAd K ("with_breaks", none)) fd_with_breaks := ⟨He.glo_ok X G (c.facts (f := .glo "with_breaks") (by simp [fa])), F_with_breaks, FunD.bindsN (ps := ["tasks"]) F_with_breaks fun _ _ _ _ _ _ us hl => match us, hl with | [_], _ => rfl⟩
  have D_lateness_of : DefF K mg (K42.stAt 29) "lateness_of" ["tasks", "order"] (He.fAd K ("lateness_of", none)) fd_lateness_of := ⟨He.glo_ok X G (c.facts (f := .glo "lateness_of") (by simp [fa])), F_lateness_of, FunD.bindsN (ps := ["tasks", "order"]) F_lateness_of fun _ _ _ _ _ _ us hl => match us, hl with | [_, _], _ => rfl⟩
  have D__law_pot : DefF K mg (K42.stAt 31) "_law_pot" ["script", "place"] (He.fAd K ("_law_pot", none)) fd__law_pot := ⟨He.glo_ok X G (c.facts (f := .glo "_law_pot") (by simp [fa])), F__law_pot, FunD.bindsN (ps := ["script", "place"]) F__law_pot fun _ _ _ _ _ _ us hl => match us, hl with | [_, _], _ => rfl⟩
  have D__law_take : DefF K mg (K42.stAt 32) "_law_take" ["pot", "upto"] (He.fAd K ("_law_take", none)) fd__law_take := ⟨He.glo_ok X G (c.facts (f := .glo "_law_take") (by simp [fa])), F__law_take, FunD.bindsN (ps := ["pot", "upto"]) F__law_take fun _ _ _ _ _ _ us hl => match us, hl with | [_, _], _ => rfl⟩
  have D__law_of : DefF K mg (K42.stAt 33) "_law_of" ["pot", "some"] (He.fAd K ("_law_of", none)) fd__law_of := ⟨He.glo_ok X G (c.facts (f := .glo "_law_of") (by simp [fa])), F__law_of, FunD.bindsN (ps := ["pot", "some"]) F__law_of fun _ _ _ _ _ _ us hl => match us, hl with | [_, _], _ => rfl⟩
  have D__law_cells : DefF K mg (K42.stAt 34) "_law_cells" ["script", "most"] (He.fAd K ("_law_cells", none)) fd__law_cells := ⟨He.glo_ok X G (c.facts (f := .glo "_law_cells") (by simp [fa])), F__law_cells, FunD.bindsN (ps := ["script", "most"]) F__law_cells fun _ _ _ _ _ _ us hl => match us, hl with | [_, _], _ => rfl⟩
  have D__law_drawn : DefF K mg (K42.stAt 35) "_law_drawn" ["pot"] (He.fAd K ("_law_drawn", none)) fd__law_drawn := ⟨He.glo_ok X G (c.facts (f := .glo "_law_drawn") (by simp [fa])), F__law_drawn, FunD.bindsN (ps := ["pot"]) F__law_drawn fun _ _ _ _ _ _ us hl => match us, hl with | [_], _ => rfl⟩
  have D__law_most : DefF K mg (K42.stAt 36) "_law_most" ["jobs"] (He.fAd K ("_law_most", none)) fd__law_most := ⟨He.glo_ok X G (c.facts (f := .glo "_law_most") (by simp [fa])), F__law_most, FunD.bindsN (ps := ["jobs"]) F__law_most fun _ _ _ _ _ _ us hl => match us, hl with | [_], _ => rfl⟩
  have D__law_are_in_time : DefF K mg (K42.stAt 37) "_law_are_in_time" ["jobs", "some"] (He.fAd K ("_law_are_in_time", none)) fd__law_are_in_time := ⟨He.glo_ok X G (c.facts (f := .glo "_law_are_in_time") (by simp [fa])), F__law_are_in_time, FunD.bindsN (ps := ["jobs", "some"]) F__law_are_in_time fun _ _ _ _ _ _ us hl => match us, hl with | [_, _], _ => rfl⟩
  have D__law_as_tasks : DefF K mg (K42.stAt 38) "_law_as_tasks" ["jobs", "some"] (He.fAd K ("_law_as_tasks", none)) fd__law_as_tasks := ⟨He.glo_ok X G (c.facts (f := .glo "_law_as_tasks") (by simp [fa])), F__law_as_tasks, FunD.bindsN (ps := ["jobs", "some"]) F__law_as_tasks fun _ _ _ _ _ _ us hl => match us, hl with | [_, _], _ => rfl⟩
  have D__law_is_more_right : DefF K mg (K42.stAt 39) "_law_is_more_right" ["pot", "jobs", "told"] (He.fAd K ("_law_is_more_right", none)) fd__law_is_more_right := ⟨He.glo_ok X G (c.facts (f := .glo "_law_is_more_right") (by simp [fa])), F__law_is_more_right, FunD.bindsN (ps := ["pot", "jobs", "told"]) F__law_is_more_right fun _ _ _ _ _ _ us hl => match us, hl with | [_, _, _], _ => rfl⟩
  have D__law_are_others_right : DefF K mg (K42.stAt 40) "_law_are_others_right" ["pot", "jobs", "told"] (He.fAd K ("_law_are_others_right", none)) fd__law_are_others_right := ⟨He.glo_ok X G (c.facts (f := .glo "_law_are_others_right") (by simp [fa])), F__law_are_others_right, FunD.bindsN (ps := ["pot", "jobs", "told"]) F__law_are_others_right fun _ _ _ _ _ _ us hl => match us, hl with | [_, _, _], _ => rfl⟩
  have D__law_right : DefF K mg (K42.stAt 41) "_law_right" ["pot"] (He.fAd K ("_law_right", none)) fd__law_right := ⟨He.glo_ok X G (c.facts (f := .glo "_law_right") (by simp [fa])), F__law_right, FunD.bindsN (ps := ["pot"]) F__law_right fun _ _ _ _ _ _ us hl => match us, hl with | [_], _ => rfl⟩
  have D_law : DefF K mg (K42.stAt 42) "law" ["script"] (He.fAd K ("law", none)) fd_law := ⟨He.glo_ok X G (c.facts (f := .glo "law") (by simp [fa])), F_law, FunD.bindsN (ps := ["script"]) F_law fun _ _ _ _ _ _ us hl => match us, hl with | [_], _ => rfl⟩
  have B : Bls mg := ⟨He.free_ok X G (c.facts (f := .free "len") (by simp [fa])), He.free_ok X G (c.facts (f := .free "int") (by simp [fa])), He.free_ok X G (c.facts (f := .free "abs") (by simp [fa])), He.free_ok X G (c.facts (f := .free "sum") (by simp [fa])), He.free_ok X G (c.facts (f := .free "max") (by simp [fa])), He.free_ok X G (c.facts (f := .free "min") (by simp [fa])), He.free_ok X G (c.facts (f := .free "all") (by simp [fa])), He.free_ok X G (c.facts (f := .free "any") (by simp [fa])), He.free_ok X G (c.facts (f := .free "sorted") (by simp [fa])), He.free_ok X G (c.facts (f := .free "list") (by simp [fa])), He.free_ok X G (c.facts (f := .free "tuple") (by simp [fa])), He.free_ok X G (c.facts (f := .free "set") (by simp [fa])), He.free_ok X G (c.facts (f := .free "range") (by simp [fa])), He.free_ok X G (c.facts (f := .free "enumerate") (by simp [fa])), He.free_ok X G (c.facts (f := .free "zip") (by simp [fa])), He.free_ok X G (c.facts (f := .free "repr") (by simp [fa])), He.free_ok X G (c.facts (f := .free "isinstance") (by simp [fa])), He.free_ok X G (c.facts (f := .free "bool") (by simp [fa])), He.free_ok X G (c.facts (f := .free "str") (by simp [fa]))⟩
  have c_MOST_JOBS := He.int_ok X G (c.facts (f := .int "MOST_JOBS" 12) (by simp [fa]))
  have c_MOST_LENGTH := He.int_ok X G (c.facts (f := .int "MOST_LENGTH" 1000) (by simp [fa]))
  have c_MOST_TIME := He.int_ok X G (c.facts (f := .int "MOST_TIME" 1000000) (by simp [fa]))
  have c_MOST_WORKS := He.int_ok X G (c.facts (f := .int "MOST_WORKS" 24) (by simp [fa]))
  have c_BROKEN := He.str_ok X G (c.facts (f := .str "BROKEN" "broken") (by simp [fa]))
  have c_LOT := He.str_ok X G (c.facts (f := .str "LOT" "lot") (by simp [fa]))
  refine ⟨fd_law, tf.map (He.cT K), TT K, sem_law, fun p hp => ?_, fun p hp => ?_, fun p hp => ?_, fun s u => ?_, fun H a ns hl hbits hH hS hn => ?_, fun base hb hg ht => ?_⟩
  · obtain ⟨q, hq, rfl⟩ := List.mem_map.mp hp
    exact cx.empty q hq
  · obtain ⟨q, hq, rfl⟩ := List.mem_map.mp hp
    exact cx.out q hq
  · obtain ⟨q, hq, rfl⟩ := List.mem_map.mp hp
    exact PySem.W.codeHd_of_K X (cx.hd q hq)
  · exact (FunD.bindsA (ps := ["script"]) F_law fun _ _ _ _ _ _ us hl => match us, hl with | [_], _ => rfl) s [u] rfl
  · obtain ⟨st', e⟩ := spec ns hl hbits
    refine ⟨[], [], [.d (.list (ns.map .int))], _, st', .cons (Rep.lst (fz_of hS hn) RepAll.ofInts) .nil, ⟨rfl, .nil, fun _ h => (by cases h), fun i c h => (by simp at h), fun p hp => ?_⟩, e, fun v H' ι' _ _ r => ?_⟩
    · obtain ⟨q, hq, rfl⟩ := List.mem_map.mp hp
      exact LamX.TabS.nil (hH _ (List.mem_map_of_mem hq))
    · cases r
      rfl
  have LF_told_in_time := lamF cx.more ht (x := "told_in_time") (by simp [tf]) F_told_in_time
  have LF_are_in_time := lamF cx.more ht (x := "are_in_time") (by simp [tf]) F_are_in_time
  have LF_told_broken := lamF cx.more ht (x := "told_broken") (by simp [tf]) F_told_broken
  have G_is_int' : FnG PP w K mg base (TT K) 2 (He.fAd K ("is_int", none)) fd_is_int ["value", "low", "high"] sem_is_int := G_is_int B D_is_int
  have G_are_ints' : FnG PP w K mg base (TT K) 3 (He.fAd K ("are_ints", none)) fd_are_ints ["value", "low", "high"] sem_are_ints := G_are_ints B D_are_ints D_is_int G_is_int'
  have G_are_dues' : FnG PP w K mg base (TT K) 4 (He.fAd K ("are_dues", none)) fd_are_dues ["value"] sem_are_dues := G_are_dues B c_MOST_JOBS c_MOST_LENGTH c_MOST_TIME D_are_dues D_are_ints G_are_ints'
  have G_look_at_dues' : FnG PP w K mg base (TT K) 5 (He.fAd K ("look_at_dues", none)) fd_look_at_dues ["jobs"] sem_look_at_dues := G_look_at_dues B D_look_at_dues D_are_dues G_are_dues'
  have G_told_in_time' : FnG PP w K mg base (TT K) 2 (He.fAd K ("told_in_time", none)) fd_told_in_time ["jobs"] sem_told_in_time := G_told_in_time B D_told_in_time LF_told_in_time
  have G_most_in_time' : FnG PP w K mg base (TT K) 6 (He.fAd K ("most_in_time", none)) fd_most_in_time ["jobs"] sem_most_in_time := G_most_in_time B D_most_in_time D_look_at_dues G_look_at_dues' D_told_in_time G_told_in_time'
  have G_are_in_time' : FnG PP w K mg base (TT K) 6 (He.fAd K ("are_in_time", none)) fd_are_in_time ["jobs", "some"] sem_are_in_time := G_are_in_time B D_are_in_time D_are_ints G_are_ints' D_look_at_dues G_look_at_dues' LF_are_in_time
  have G_is_most_in_time' : FnG PP w K mg base (TT K) 7 (He.fAd K ("is_most_in_time", none)) fd_is_most_in_time ["jobs", "value"] sem_is_most_in_time := G_is_most_in_time B D_is_most_in_time D_is_int G_is_int' D_told_in_time G_told_in_time' D_are_in_time G_are_in_time'
  have G_are_tasks' : FnG PP w K mg base (TT K) 4 (He.fAd K ("are_tasks", none)) fd_are_tasks ["value"] sem_are_tasks := G_are_tasks B c_MOST_LENGTH c_MOST_TIME c_MOST_WORKS D_are_tasks D_are_ints G_are_ints'
  have G_look_at_tasks' : FnG PP w K mg base (TT K) 5 (He.fAd K ("look_at_tasks", none)) fd_look_at_tasks ["tasks"] sem_look_at_tasks := G_look_at_tasks B D_look_at_tasks D_are_tasks G_are_tasks'
  have G_told_over' : FnG PP w K mg base (TT K) 2 (He.fAd K ("told_over", none)) fd_told_over ["tasks", "lot"] sem_told_over := G_told_over B D_told_over
  have G_told_lots' : FnG PP w K mg base (TT K) 2 (He.fAd K ("told_lots", none)) fd_told_lots ["tasks"] sem_told_lots := G_told_lots B D_told_lots
  have G_told_worst' : FnG PP w K mg base (TT K) 3 (He.fAd K ("told_worst", none)) fd_told_worst ["tasks"] sem_told_worst := G_told_worst B D_told_worst D_told_over G_told_over' D_told_lots G_told_lots'
  have G_too_long' : FnG PP w K mg base (TT K) 6 (He.fAd K ("too_long", none)) fd_too_long ["tasks"] sem_too_long := G_too_long B D_too_long D_look_at_tasks G_look_at_tasks' D_told_worst G_told_worst'
  have G_told_broken' : FnG PP w K mg base (TT K) 2 (He.fAd K ("told_broken", none)) fd_told_broken ["tasks"] sem_told_broken := G_told_broken B D_told_broken LF_told_broken
  have G_with_breaks' : FnG PP w K mg base (TT K) 6 (He.fAd K ("with_breaks", none)) fd_with_breaks ["tasks"] sem_with_breaks := G_with_breaks B c_BROKEN c_LOT D_with_breaks D_look_at_tasks G_look_at_tasks' D_told_worst G_told_worst' D_told_broken G_told_broken'
  have G_lateness_of' : FnG PP w K mg base (TT K) 6 (He.fAd K ("lateness_of", none)) fd_lateness_of ["tasks", "order"] sem_lateness_of := G_lateness_of B D_lateness_of D_are_ints G_are_ints' D_look_at_tasks G_look_at_tasks'
  have G__law_pot' : FnG PP w K mg base (TT K) 2 (He.fAd K ("_law_pot", none)) fd__law_pot ["script", "place"] sem__law_pot := G__law_pot B D__law_pot
  have G__law_take' : FnG PP w K mg base (TT K) 2 (He.fAd K ("_law_take", none)) fd__law_take ["pot", "upto"] sem__law_take := G__law_take B D__law_take
  have G__law_of' : FnG PP w K mg base (TT K) 3 (He.fAd K ("_law_of", none)) fd__law_of ["pot", "some"] sem__law_of := G__law_of B D__law_of D__law_take G__law_take'
  have G__law_cells' : FnG PP w K mg base (TT K) 2 (He.fAd K ("_law_cells", none)) fd__law_cells ["script", "most"] sem__law_cells := G__law_cells B D__law_cells
  have G__law_drawn' : FnG PP w K mg base (TT K) 4 (He.fAd K ("_law_drawn", none)) fd__law_drawn ["pot"] sem__law_drawn := G__law_drawn B D__law_drawn D__law_take G__law_take' D__law_of G__law_of'
  have G__law_most' : FnG PP w K mg base (TT K) 2 (He.fAd K ("_law_most", none)) fd__law_most ["jobs"] sem__law_most := G__law_most B D__law_most
  have G__law_are_in_time' : FnG PP w K mg base (TT K) 2 (He.fAd K ("_law_are_in_time", none)) fd__law_are_in_time ["jobs", "some"] sem__law_are_in_time := G__law_are_in_time B D__law_are_in_time
  have G__law_as_tasks' : FnG PP w K mg base (TT K) 2 (He.fAd K ("_law_as_tasks", none)) fd__law_as_tasks ["jobs", "some"] sem__law_as_tasks := G__law_as_tasks B D__law_as_tasks
  have G__law_is_more_right' : FnG PP w K mg base (TT K) 8 (He.fAd K ("_law_is_more_right", none)) fd__law_is_more_right ["pot", "jobs", "told"] sem__law_is_more_right := G__law_is_more_right B D__law_is_more_right D_are_in_time G_are_in_time' D_is_most_in_time G_is_most_in_time' D_too_long G_too_long' D_with_breaks G_with_breaks' D_lateness_of G_lateness_of' D__law_as_tasks G__law_as_tasks'
  have G__law_are_others_right' : FnG PP w K mg base (TT K) 8 (He.fAd K ("_law_are_others_right", none)) fd__law_are_others_right ["pot", "jobs", "told"] sem__law_are_others_right := G__law_are_others_right B D__law_are_others_right D_are_in_time G_are_in_time' D_is_most_in_time G_is_most_in_time' D__law_of G__law_of' D__law_are_in_time G__law_are_in_time'
  have G__law_right' : FnG PP w K mg base (TT K) 9 (He.fAd K ("_law_right", none)) fd__law_right ["pot"] sem__law_right := G__law_right B D__law_right D_most_in_time G_most_in_time' D_too_long G_too_long' D__law_take G__law_take' D__law_drawn G__law_drawn' D__law_most G__law_most' D__law_are_in_time G__law_are_in_time' D__law_as_tasks G__law_as_tasks' D__law_is_more_right G__law_is_more_right' D__law_are_others_right G__law_are_others_right'
  have G_law' : FnG PP w K mg base (TT K) 10 (He.fAd K ("law", none)) fd_law ["script"] sem_law := G_law B D_law D__law_pot G__law_pot' D__law_cells G__law_cells' D__law_right G__law_right'
  exact G_law'
end K42
open PySem PySem.W PySem.Calls PyProof.Rows
theorem PySem.Challenge.cw_leastendwithcuts_k42_whole_most_in_time_holds : PySem.Challenge.rw_leastendwithcuts_k42_whole_most_in_time.Holds := by
  w_on; o_law
  refine HandSHeadRun.head_any (r := OpenLaw.row PySem.Challenge.rw_leastendwithcuts_k42_whole_most_in_time) (q := view (OpenLaw.row PySem.Challenge.rw_leastendwithcuts_k42_whole_most_in_time).prog [42]) (H := Hd.hk) (ob := Hd.ob) (M := 4000) (loose := Hd.loose) (d := HandSHeadRun.topDef (OpenLaw.row PySem.Challenge.rw_leastendwithcuts_k42_whole_most_in_time).prog 42) (kwd := []) Hd.ob_eq
    (by kernel_rfl) (fun s => by kernel_rfl) Hd.run (by kernel_rfl) (by kernel_rfl) (by kernel_rfl) (by rfl) (by first | assumption | decide +kernel) (by decide +kernel) ⟨rfl, rfl, rfl, rfl, rfl, by decide +kernel⟩ ?hw ?hc
  case hw => w_witness2
  case hc =>
    refine QL.walk_G (l := PySem.Challenge.rw_leastendwithcuts_k42_whole_most_in_time) (n := 63) (k := 10) (x := "script") rfl (by decide) (by kernel_rfl) ⟨⟨rfl, by decide, by decide⟩, rfl⟩ ?F
    intro w mg fa h Y G hmg0
    obtain ⟨K, KX, c⟩ := Y
    have hmg : mg ("law" : PySem.Str) = some (.ref fa) := by
      have e : (HandSHeadRun.topDef (OpenLaw.row PySem.Challenge.rw_leastendwithcuts_k42_whole_most_in_time).prog 42).name = ("law" : PySem.Str) := by kernel_rfl
      rw [← e]
      exact hmg0
    exact ⟨K, KX, K42.facts KX G hmg c⟩

end
