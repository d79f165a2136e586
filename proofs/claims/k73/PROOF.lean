import PyProof.Rows.All
import Wide.All
import OpenK.AllK
import Wide.FinOn
import HandS.ForMost
import HandS.Exc
import HandS.TryOnly
import HandS.ExcOwn
import HandS.WordsExc
import HandS.TupAny
import HandS.TupMul
import HandS.Conv
import HandS.IsInst
import HandS.Zip
import HandS.Wide
import HandS.ExcCtx
import HandS.HotCalls
import HandS.ExcIs
import KE.GoesZip
import HandS.Deep
import HandS.Style
import HandS.NoneIn
import KE.KTupSum
import HandS.SortInts
import KE.GoesEnum
import KE.KDictDisplayH
import KE.DataMinMax
import KE.SortData
import KE.KDictCopyH
import PySem.Challenge.RW_revealscrolls_k73_errors_of_spans_and_co
set_option Elab.async false
set_option linter.all false
set_option maxRecDepth 100000
set_option maxHeartbeats 4000000
/-! Lin1: values as data, environments of slots (a slot holds data, or owns a list), results; what stands for what in the heap; the judgements. -/
namespace Lin
open PySem L2

abbrev D := PyData
/-- what a name alone may hold -/
inductive Cont where
  /-- a list; a dict whose keys are ints (false) or pairs of ints (true) -/
  | lst (ds : List D)
  | dct (b : Bool) (kvs : List (D × D))
instance : Coe (List D) Cont := ⟨.lst⟩
/-- a slot of a def's names: nothing, data that never changes, or a thing that this name alone holds (t: the parameter it came by) -/
inductive Slot where
  | free
  | val (d : D)
  | own (t : Option Nat) (c : Cont)
abbrev Ev := List Slot
/-- how a computation ends -/
inductive R (α : Type) where
  | ok (a : α)
  | exc (e : Nat)
  | stuck
def R.bind {α β : Type} (x : R α) (f : α → R β) : R β :=
  match x with
  | .ok a => f a
  | .exc e => .exc e
  | .stuck => .stuck
@[simp] theorem R.bind_ok {α β : Type} (a : α) (f : α → R β) : (R.ok a).bind f = f a := rfl
@[simp] theorem R.bind_exc {α β : Type} (e : Nat) (f : α → R β) : (R.exc e : R α).bind f = .exc e := rfl
@[simp] theorem R.bind_stuck {α β : Type} (f : α → R β) : (R.stuck : R α).bind f = .stuck := rfl
def R.ofOpt {α : Type} : Option α → R α
  | some a => .ok a
  | none => .stuck
@[simp] theorem R.ofOpt_some {α : Type} (a : α) : R.ofOpt (some a) = .ok a := rfl
@[simp] theorem R.ofOpt_none {α : Type} : R.ofOpt (none : Option α) = .stuck := rfl

/-! ### heaps -/
/-- something stands at b, and it is no tuple (tuples never change: anyone may know them) -/
def NT (F : Hp) (b : Addr) : Prop := F b ≠ none ∧ ∀ xs, F b ≠ some (.tup xs)
theorem NT.some {F : Hp} {b : Addr} {u : HO} (h : F b = some u) (hu : ∀ xs, u ≠ .tup xs) : NT F b := ⟨by rw [h]; simp, fun xs e => by rw [h] at e; cases e; exact hu xs rfl⟩
/-- F and H grow by new objects (and tuples) alone -/
structure Ext (F H F' H' : Hp) : Prop where
  ff : Same F F'
  fh : Same F' H'
  hh : Same H H'
  nw : ∀ b, NT F' b → NT F b ∨ H b = none
theorem Ext.refl {F H : Hp} (h : Same F H) : Ext F H F H := ⟨Same.refl _, h, Same.refl _, fun _ h => .inl h⟩
theorem same_new {H : Hp} {p : Addr} {o : HO} (h : H p = none) : Same H (upd H p o) := fun b u e => by
  rw [upd_ne (ne_of_none e h)]
  exact e
theorem Same.upd {F H : Hp} {p : Addr} {o : HO} (h : Same F H) (hp : F p = none) : Same F (upd H p o) := fun b u e => by
  rw [upd_ne (ne_of_none e hp)]
  exact h b u e
theorem same_upd2 {F H : Hp} {p : Addr} {o : HO} (h : Same F H) : Same (upd F p o) (upd H p o) := fun b u e => by
  by_cases hb : b = p
  · subst hb
    rw [upd_same] at e
    rw [upd_same]
    exact e
  · rw [upd_ne hb] at e
    rw [upd_ne hb]
    exact h b u e
theorem Ext.new {F H : Hp} {p : Addr} {o : HO} (h : Same F H) (hp : H p = none) : Ext F H (upd F p o) (upd H p o) := by
  have fp : F p = none := Same.free h hp
  refine ⟨same_new fp, same_upd2 h, same_new hp, fun b hb => ?_⟩
  by_cases e : b = p
  · subst e
    exact .inr hp
  · unfold NT at hb
    rw [upd_ne e] at hb
    exact .inl hb
/-- the new object is known to H alone -/
theorem Ext.newH {F H : Hp} {p : Addr} {o : HO} (h : Same F H) (hp : H p = none) : Ext F H F (upd H p o) :=
  ⟨Same.refl _, fun b u e => (same_new hp) b u (h b u e), same_new hp, fun b hb => .inl hb⟩
theorem Ext.trans {F H F1 H1 F2 H2 : Hp} (a : Ext F H F1 H1) (b : Ext F1 H1 F2 H2) : Ext F H F2 H2 := by
  refine ⟨Same.trans a.ff b.ff, b.fh, Same.trans a.hh b.hh, fun x hx => ?_⟩
  rcases b.nw x hx with h | h
  · exact a.nw x h
  · exact .inr (Same.free a.hh h)

theorem same_rd {H H' : Hp} {a : Addr} {u : HO} (e : Same H H') (h : Rd H a u) : Rd H' a u := by
  rcases h with h | ⟨o, h⟩
  · exact .inl (e _ _ h)
  · exact .inr ⟨o, e _ _ h⟩
theorem same_sqL {K : PySem.W.Frag} {H H' : Hp} {a : Addr} {xs : List V} (e : Same H H') (h : SqL K H a xs) : SqL K H' a xs := by
  rcases h with h | h
  · exact .inl (same_rd e h)
  · exact .inr h
theorem same_sqT {K : PySem.W.Frag} {H H' : Hp} {a : Addr} {xs : List V} (e : Same H H') (h : SqT K H a xs) : SqT K H' a xs := by
  rcases h with h | h
  · exact .inl (same_rd e h)
  · exact .inr h
/-- the defs that are used as values, by their numbers -/
def fnNames : List Str := ["after", "scrolled", "reveal", "least_scroll", "best_order", "fewest_until_seen", "same_effect", "starts_for", "effect", "is_sure", "needless", "shortest_row", "together", "order_effects", "making_sure", "seen_at", "item_range", "count_sure", "classes", "greatest_scroll", "fewest_for", "count_rows", "top", "all_effects"]
/-- classes whose instances are data: number, name, attributes -/
def objCls : Nat → Option (Str × List Str)
  | 0 => some ("Reveals", ["base", "steps", "pair"])
  | _ => none
/-- the instance's class and attributes -/
def ObjT (K : PySem.W.Frag) (n : Nat) (C : Addr) (fs : List (Str × V)) (vs : List V) : Prop := ∃ x as, objCls n = some (x, as) ∧ PySem.W.nsIn K mainGlobals x = some (some (.ref C)) ∧ vs.length = as.length ∧ (∀ (i : Nat) (f : Str), as[i]? = some f → fs.lookup f = vs[i]?) ∧ ∀ f, f ∉ as → fs.lookup f = none
mutual
/-- how a value stands for data: tuples are tracked objects; a dict is locked -/
inductive Dp (K : PySem.W.Frag) (H : Hp) : V → D → Prop
  | non : Dp K H .non .none
  | bl (b : Bool) : Dp K H (.bl b) (.bool b)
  | int (i : Int) : Dp K H (.int i) (.int i)
  | str (x : Str) : Dp K H (.str x) (.str x)
  | lst {a : Addr} {xs : List V} {ds : List D} : SqL K H a xs → DpAll K H xs ds → Dp K H (.ref a) (.list ds)
  | tup {a : Addr} {xs : List V} {ds : List D} : H a = some (.tup xs) → DpAll K H xs ds → Dp K H (.ref a) (.tuple ds)
  | dcK {a : Addr} {od : Obj} {vs : List (Key × V)} {kvs : List (D × D)} : H a = some (.frz od (.dK vs)) → DpK K H vs kvs → Dp K H (.ref a) (.dict kvs)
  | dcT {a : Addr} {od : Obj} {vs : List (List Key × V)} {kvs : List (D × D)} : H a = some (.frz od (.dT vs)) → DpT K H vs kvs → Dp K H (.ref a) (.dict kvs)
  /-- a thing that is known by its place alone -/
  | adr (a : Addr) : Dp K H (.ref a) (.dict [(.str "adr", .int (a : Nat))])
  /-- a def of the text -/
  | fn {a : Addr} {n : Nat} {x : Str} : fnNames[n]? = some x → PySem.W.nsIn K mainGlobals x = some (some (.ref a)) → Dp K H (.ref a) (.dict [(.str "fn", .int (n : Nat))])
  /-- an instance whose three attributes never change (names, class: by the number n) -/
  | obj {a dx C : Addr} {n : Nat} {fs : List (Str × V)} {vs : List V} {ds : List D} : H a = some (.ins C dx fs) → H dx = some (.own a) → ObjT K n C fs vs → DpAll K H vs ds → Dp K H (.ref a) (.dict [(.str "obj", .int (n : Nat)), (.str "at", .list ds)])
inductive DpAll (K : PySem.W.Frag) (H : Hp) : List V → List D → Prop
  | nil : DpAll K H [] []
  | cons {v : V} {vs : List V} {d : D} {ds : List D} : Dp K H v d → DpAll K H vs ds → DpAll K H (v :: vs) (d :: ds)
/-- a dict's table: keys are ints -/
inductive DpK (K : PySem.W.Frag) (H : Hp) : List (Key × V) → List (D × D) → Prop
  | nil : DpK K H [] []
  | cons {i : Int} {v : V} {d : D} {vs : List (Key × V)} {ds : List (D × D)} : Dp K H v d → DpK K H vs ds → DpK K H ((Sum.inl i, v) :: vs) ((.int i, d) :: ds)
/-- .. pairs of ints -/
inductive DpT (K : PySem.W.Frag) (H : Hp) : List (List Key × V) → List (D × D) → Prop
  | nil : DpT K H [] []
  | cons {i j : Int} {v : V} {d : D} {vs : List (List Key × V)} {ds : List (D × D)} : Dp K H v d → DpT K H vs ds → DpT K H (([Sum.inl i, Sum.inl j], v) :: vs) ((.tuple [.int i, .int j], d) :: ds)
end
mutual
theorem Dp.kit {K : PySem.W.Frag} {H : Hp} : ∀ (d : D) (v : V), d.canLay0 = true → Dp K H v d → L2.Dp K H v d
  | .none, _, _, h => by cases h; exact .non
  | .bool b, _, _, h => by cases h; exact .bl _
  | .int i, _, _, h => by cases h; exact .int _
  | .str x, _, _, h => by cases h; exact .str _
  | .list ds, _, c, h => by
    cases h with
    | lst hs ha => exact .lst hs (DpAll.kit ds _ (by simpa [PyData.canLay0] using c) ha)
  | .tuple ds, _, c, h => by
    cases h with
    | tup hs ha => exact .tup (SqT.of hs) (DpAll.kit ds _ (by simpa [PyData.canLay0] using c) ha)
  | .dict _, _, c, h => by simp [PyData.canLay0] at c
theorem DpAll.kit {K : PySem.W.Frag} {H : Hp} : ∀ (ds : List D) (vs : List V), PyData.canLayAll0 ds = true → DpAll K H vs ds → L2.DpAll K H vs ds
  | [], _, _, h => by cases h; exact .nil
  | d :: ds, _, c, h => by
    simp only [PyData.canLayAll0, Bool.and_eq_true] at c
    cases h with
    | cons h1 h2 => exact .cons (Dp.kit d _ c.1 h1) (DpAll.kit ds _ c.2 h2)
end
mutual
theorem dp_same {K : PySem.W.Frag} {H H' : Hp} (e : Same H H') : ∀ {d : D} {v : V}, Dp K H v d → Dp K H' v d
  | _, _, .non => .non
  | _, _, .bl _ => .bl _
  | _, _, .int _ => .int _
  | _, _, .str _ => .str _
  | _, _, .lst hs ha => .lst (same_sqL e hs) (dpAll_same e ha)
  | _, _, .tup hs ha => .tup (e _ _ hs) (dpAll_same e ha)
  | _, _, .dcK hs ha => .dcK (e _ _ hs) (dpK_same e ha)
  | _, _, .dcT hs ha => .dcT (e _ _ hs) (dpT_same e ha)
  | _, _, .adr a => .adr a
  | _, _, .fn h g => .fn h g
  | _, _, .obj h1 h2 h3 h4 => .obj (e _ _ h1) (e _ _ h2) h3 (dpAll_same e h4)
theorem dpAll_same {K : PySem.W.Frag} {H H' : Hp} (e : Same H H') : ∀ {ds : List D} {vs : List V}, DpAll K H vs ds → DpAll K H' vs ds
  | _, _, .nil => .nil
  | _, _, .cons h1 h2 => .cons (dp_same e h1) (dpAll_same e h2)
theorem dpK_same {K : PySem.W.Frag} {H H' : Hp} (e : Same H H') : ∀ {ds : List (D × D)} {vs : List (Key × V)}, DpK K H vs ds → DpK K H' vs ds
  | _, _, .nil => .nil
  | _, _, .cons h1 h2 => .cons (dp_same e h1) (dpK_same e h2)
theorem dpT_same {K : PySem.W.Frag} {H H' : Hp} (e : Same H H') : ∀ {ds : List (D × D)} {vs : List (List Key × V)}, DpT K H vs ds → DpT K H' vs ds
  | _, _, .nil => .nil
  | _, _, .cons h1 h2 => .cons (dp_same e h1) (dpT_same e h2)
end
/-- instances and the like: no dicts -/
def tagged : D → Bool
  | .dict ((.str _, _) :: _) => true
  | _ => false
@[simp] theorem tagged_nil : tagged (.dict []) = false := rfl
@[simp] theorem tagged_int {i : Int} {d : D} {r : List (D × D)} : tagged (.dict ((.int i, d) :: r)) = false := rfl
@[simp] theorem tagged_tup {i : List D} {d : D} {r : List (D × D)} : tagged (.dict ((.tuple i, d) :: r)) = false := rfl
@[simp] theorem tagged_str {x : Str} {d : D} {r : List (D × D)} : tagged (.dict ((.str x, d) :: r)) = true := rfl
theorem tagged_map {α : Type} {f : α → D} {g : α → D} (h : ∀ x y, f x ≠ .str y) (l : List α) : tagged (.dict (l.map fun x => (f x, g x))) = false := by
  cases l with
  | nil => rfl
  | cons a l =>
    show tagged (.dict ((f a, g a) :: l.map fun x => (f x, g x))) = false
    unfold tagged
    split
    · rename_i e
      injection e with e
      injection e with e _
      injection e with e _
      exact absurd e (h a _)
    · rfl
theorem DpK.up {K : PySem.W.Frag} {H H' : Hp} {ds : List (D × D)} {vs : List (Key × V)} (h : DpK K H vs ds) (e : Same H H') : DpK K H' vs ds := dpK_same e h
theorem DpT.up {K : PySem.W.Frag} {H H' : Hp} {ds : List (D × D)} {vs : List (List Key × V)} (h : DpT K H vs ds) (e : Same H H') : DpT K H' vs ds := dpT_same e h
theorem Dp.up {K : PySem.W.Frag} {H H' : Hp} {d : D} {v : V} (h : Dp K H v d) (e : Same H H') : Dp K H' v d := dp_same e h
theorem DpAll.up {K : PySem.W.Frag} {H H' : Hp} {ds : List D} {vs : List V} (h : DpAll K H vs ds) (e : Same H H') : DpAll K H' vs ds := dpAll_same e h
theorem DpAll.length {K : PySem.W.Frag} {H : Hp} : ∀ {ds : List D} {vs : List V}, DpAll K H vs ds → vs.length = ds.length
  | [], _, h => by cases h; rfl
  | _ :: ds, _, h => by
    cases h with
    | cons _ h2 => simp [DpAll.length h2]
theorem DpAll.append {K : PySem.W.Frag} {H : Hp} : ∀ {ds es : List D} {vs us : List V}, DpAll K H vs ds → DpAll K H us es → DpAll K H (vs ++ us) (ds ++ es)
  | [], _, _, _, h, g => by cases h; exact g
  | _ :: ds, _, _, _, h, g => by
    cases h with
    | cons h1 h2 => exact .cons h1 (DpAll.append h2 g)
theorem DpAll.get {K : PySem.W.Frag} {H : Hp} : ∀ {ds : List D} {vs : List V} {i : Nat} {d : D}, DpAll K H vs ds → ds[i]? = some d → ∃ v, vs[i]? = some v ∧ Dp K H v d
  | [], _, _, _, h, e => by simp at e
  | _ :: ds, _, 0, _, h, e => by
    cases h with
    | cons h1 h2 => simp at e; subst e; exact ⟨_, rfl, h1⟩
  | _ :: ds, _, i + 1, _, h, e => by
    cases h with
    | cons h1 h2 =>
      obtain ⟨v, e1, h3⟩ := DpAll.get (i := i) h2 (by simpa using e)
      exact ⟨v, by simpa using e1, h3⟩
theorem DpAll.take {K : PySem.W.Frag} {H : Hp} : ∀ {ds : List D} {vs : List V} (n : Nat), DpAll K H vs ds → DpAll K H (vs.take n) (ds.take n)
  | [], _, n, h => by cases h; simp; exact .nil
  | _ :: ds, _, 0, h => by simp; exact .nil
  | _ :: ds, _, n + 1, h => by
    cases h with
    | cons h1 h2 => exact .cons h1 (DpAll.take n h2)
theorem DpAll.drop {K : PySem.W.Frag} {H : Hp} : ∀ {ds : List D} {vs : List V} (n : Nat), DpAll K H vs ds → DpAll K H (vs.drop n) (ds.drop n)
  | [], _, n, h => by cases h; simp; exact .nil
  | _ :: ds, _, 0, h => h
  | _ :: ds, _, n + 1, h => by
    cases h with
    | cons h1 h2 => exact DpAll.drop n h2
theorem DpAll.set {K : PySem.W.Frag} {H : Hp} {v : V} {d : D} (hd : Dp K H v d) : ∀ {ds : List D} {vs : List V} (n : Nat), DpAll K H vs ds → DpAll K H (vs.set n v) (ds.set n d)
  | [], _, n, h => by cases h; exact .nil
  | _ :: ds, _, 0, h => by
    cases h with
    | cons h1 h2 => exact .cons hd h2
  | _ :: ds, _, n + 1, h => by
    cases h with
    | cons h1 h2 => exact .cons h1 (DpAll.set hd n h2)
theorem DpAll.of_ints {K : PySem.W.Frag} {H : Hp} : ∀ (ns : List Int), DpAll K H (ns.map V.int) (ns.map PyData.int)
  | [] => .nil
  | n :: ns => .cons (.int n) (DpAll.of_ints ns)
theorem DpAll.ints {K : PySem.W.Frag} {H : Hp} : ∀ {ns : List Int} {vs : List V}, DpAll K H vs (ns.map PyData.int) → vs = ns.map V.int
  | [], _, h => by cases h; rfl
  | n :: ns, _, h => by
    cases h with
    | cons h1 h2 => cases h1; rw [DpAll.ints h2]; rfl
theorem DpAll.bools {K : PySem.W.Frag} {H : Hp} : ∀ {ns : List Bool} {vs : List V}, DpAll K H vs (ns.map PyData.bool) → vs = ns.map V.bl
  | [], _, h => by cases h; rfl
  | n :: ns, _, h => by
    cases h with
    | cons h1 h2 => cases h1; rw [DpAll.bools h2]; rfl

/-- the object o is what a name owns -/
inductive ContIs (K : PySem.W.Frag) (F : Hp) : HO → Cont → Prop
  | lst {xs : List V} {ds : List D} : DpAll K F xs ds → ContIs K F (.lst xs) (.lst ds)
  | dK {vs : List (Key × V)} {kvs : List (D × D)} : DpK K F vs kvs → ContIs K F (.dK vs) (.dct false kvs)
  | dT {vs : List (List Key × V)} {kvs : List (D × D)} : DpT K F vs kvs → ContIs K F (.dT vs) (.dct true kvs)
theorem ContIs.up {K : PySem.W.Frag} {F F' : Hp} {o : HO} {c : Cont} (h : ContIs K F o c) (e : Same F F') : ContIs K F' o c := by
  cases h with
  | lst h => exact .lst (h.up e)
  | dK h => exact .dK (h.up e)
  | dT h => exact .dT (h.up e)
theorem ContIs.nt {K : PySem.W.Frag} {F : Hp} {o : HO} {c : Cont} (h : ContIs K F o c) : ∀ xs, o ≠ .tup xs := by
  cases h with
  | lst h => exact fun _ z => nomatch z
  | dK h => exact fun _ z => nomatch z
  | dT h => exact fun _ z => nomatch z
/-! ### an environment stands in a heap -/
/-- G: what others own (it stays), F: what never changes -/
structure Rp0 (G F H : Hp) : Prop where
  fh : Same F H
  gh : Same G H
  fg : ∀ b, NT F b → G b = none
structure Rp (K : PySem.W.Frag) (pa : List Addr) (G F H : Hp) (σ : St) (τ : Ev) : Prop where
  z : Rp0 G F H
  len : σ.length = τ.length
  val : ∀ (i : Nat) d, τ[i]? = some (.val d) → ∃ v, σ[i]? = some (some v) ∧ Dp K F v d
  own : ∀ (i : Nat) t ds, τ[i]? = some (.own t ds) → ∃ a, σ[i]? = some (some (.ref a)) ∧ (∃ xs, H a = some xs ∧ ContIs K F xs ds) ∧ F a = none ∧ G a = none ∧ ∀ k, t = some k → pa[k]? = some a
  one : ∀ (i j : Nat) t ds u es a, τ[i]? = some (.own t ds) → τ[j]? = some (.own u es) → σ[i]? = some (some (.ref a)) → σ[j]? = some (some (.ref a)) → i = j
theorem Rp.ownL {K : PySem.W.Frag} {pa : List Addr} {G F H : Hp} {σ : St} {τ : Ev} (r : Rp K pa G F H σ τ) (i : Nat) (t : Option Nat) (ds : List D) (h : τ[i]? = some (.own t (.lst ds))) :
    ∃ a, σ[i]? = some (some (.ref a)) ∧ (∃ xs, H a = some (.lst xs) ∧ DpAll K F xs ds) ∧ F a = none ∧ G a = none ∧ ∀ k, t = some k → pa[k]? = some a := by
  obtain ⟨a, h1, ⟨o, h2, h3⟩, h4⟩ := r.own i t _ h
  cases h3 with
  | lst h3 => exact ⟨a, h1, ⟨_, h2, h3⟩, h4⟩
/-- no slot owns the object at p -/
def NoOwn (σ : St) (τ : Ev) (p : Addr) : Prop := ∀ (i : Nat) t ds, τ[i]? = some (.own t ds) → σ[i]? ≠ some (some (.ref p))
section
variable {K : PySem.W.Frag} {pa : List Addr} {G F H F' H' : Hp} {σ : St} {τ : Ev}
theorem Rp0.ext (r : Rp0 G F H) (e : Ext F H F' H') : Rp0 G F' H' :=
  ⟨e.fh, Same.trans r.gh e.hh, fun b hb => by
    rcases e.nw b hb with h | h
    · exact r.fg b h
    · exact Same.free r.gh h⟩
theorem Ext.none_of (e : Ext F H F' H') {a : Addr} {o : HO} (h : F a = none) (h1 : H a = some o) (ho : ∀ xs, o ≠ .tup xs) : F' a = none := by
  cases q : F' a with
  | none => rfl
  | some u =>
    have hu : ∀ xs, u ≠ .tup xs := fun xs z => by
      subst z
      have e1 := e.fh _ _ q
      rw [e.hh _ _ h1] at e1
      cases e1
      exact ho xs rfl
    rcases e.nw a (NT.some q hu) with z | z
    · exact absurd h z.1
    · rw [h1] at z; cases z
theorem Rp.ext (r : Rp K pa G F H σ τ) (e : Ext F H F' H') : Rp K pa G F' H' σ τ := by
  refine ⟨r.z.ext e, r.len, fun i d h => ?_, fun i t ds h => ?_, r.one⟩
  · obtain ⟨v, h1, h2⟩ := r.val i d h
    exact ⟨v, h1, h2.up e.ff⟩
  · obtain ⟨a, h1, ⟨xs, h2, h3⟩, h4, h5, h6⟩ := r.own i t ds h
    exact ⟨a, h1, ⟨xs, e.hh _ _ h2, h3.up e.ff⟩, e.none_of h4 h2 h3.nt, h5, h6⟩
theorem Rp.noOwn_new (r : Rp K pa G F H σ τ) {p : Addr} (hp : H p = none) : NoOwn σ τ p := fun i t ds h e => by
  obtain ⟨a, h1, ⟨xs, h2, _⟩, _⟩ := r.own i t ds h
  rw [h1] at e
  cases e
  rw [hp] at h2
  cases h2
/-- data is stored -/
theorem Rp.setVal (r : Rp K pa G F H σ τ) {i : Nat} {v : V} {d : D} (h : Dp K F v d) : Rp K pa G F H (σ.set i (some v)) (τ.set i (.val d)) := by
  refine ⟨r.z, by simp [r.len], fun j d' hj => ?_, fun j t ds hj => ?_, fun j k t ds u es a h1 h2 h3 h4 => ?_⟩
  · by_cases hij : i = j
    · subst hij
      by_cases hl : i < τ.length
      · rw [List.getElem?_set_self hl] at hj
        cases hj
        exact ⟨v, List.getElem?_set_self (by rw [r.len]; exact hl), h⟩
      · rw [List.getElem?_eq_none (by simpa using hl)] at hj; cases hj
    · rw [List.getElem?_set_ne hij] at hj
      obtain ⟨v', h1, h2⟩ := r.val j d' hj
      exact ⟨v', by rw [List.getElem?_set_ne hij]; exact h1, h2⟩
  · by_cases hij : i = j
    · subst hij
      by_cases hl : i < τ.length
      · rw [List.getElem?_set_self hl] at hj; cases hj
      · rw [List.getElem?_eq_none (by simpa using hl)] at hj; cases hj
    · rw [List.getElem?_set_ne hij] at hj
      obtain ⟨a, h1, h2⟩ := r.own j t ds hj
      exact ⟨a, by rw [List.getElem?_set_ne hij]; exact h1, h2⟩
  · have n1 : i ≠ j := fun e => by
      subst e
      by_cases hl : i < τ.length
      · rw [List.getElem?_set_self hl] at h1; cases h1
      · rw [List.getElem?_eq_none (by simpa using hl)] at h1; cases h1
    have n2 : i ≠ k := fun e => by
      subst e
      by_cases hl : i < τ.length
      · rw [List.getElem?_set_self hl] at h2; cases h2
      · rw [List.getElem?_eq_none (by simpa using hl)] at h2; cases h2
    rw [List.getElem?_set_ne n1] at h1 h3
    rw [List.getElem?_set_ne n2] at h2 h4
    exact r.one j k t ds u es a h1 h2 h3 h4
/-- a thing is handed to a slot -/
theorem Rp.setOwnC (r : Rp K pa G F H σ τ) {i : Nat} {p : Addr} {ds : Cont} {xs : HO} (h : H p = some xs) (hd : ContIs K F xs ds) (hf : F p = none) (hg : G p = none) (hn : NoOwn σ τ p) :
    Rp K pa G F H (σ.set i (some (.ref p))) (τ.set i (.own none ds)) := by
  have out : ∀ {j : Nat} {t es}, (τ.set i (Slot.own none ds))[j]? = some (.own t es) → i ≠ j → τ[j]? = some (.own t es) := fun {j t es} hj hij => by
    rw [List.getElem?_set_ne hij] at hj
    exact hj
  refine ⟨r.z, by simp [r.len], fun j d' hj => ?_, fun j t es hj => ?_, fun j k t ds' u es a h1 h2 h3 h4 => ?_⟩
  · by_cases hij : i = j
    · subst hij
      by_cases hl : i < τ.length
      · rw [List.getElem?_set_self hl] at hj; cases hj
      · rw [List.getElem?_eq_none (by simpa using hl)] at hj; cases hj
    · rw [List.getElem?_set_ne hij] at hj
      obtain ⟨v', h1, h2⟩ := r.val j d' hj
      exact ⟨v', by rw [List.getElem?_set_ne hij]; exact h1, h2⟩
  · by_cases hij : i = j
    · subst hij
      by_cases hl : i < τ.length
      · rw [List.getElem?_set_self hl] at hj
        cases hj
        exact ⟨p, List.getElem?_set_self (by rw [r.len]; exact hl), ⟨xs, h, hd⟩, hf, hg, fun k e => by cases e⟩
      · rw [List.getElem?_eq_none (by simpa using hl)] at hj; cases hj
    · obtain ⟨a, h1, h2⟩ := r.own j t es (out hj hij)
      exact ⟨a, by rw [List.getElem?_set_ne hij]; exact h1, h2⟩
  · have lt : ∀ {j : Nat} {x : Slot}, (τ.set i (Slot.own none ds))[j]? = some x → j < σ.length := fun {j x} e => by
      have := (List.getElem?_eq_some_iff.mp e).1
      rw [List.length_set] at this
      rw [r.len]; exact this
    by_cases n1 : i = j
    · by_cases n2 : i = k
      · rw [← n1, ← n2]
      · subst n1
        rw [List.getElem?_set_self (lt h1)] at h3
        cases h3
        rw [List.getElem?_set_ne n2] at h4
        exact absurd h4 (hn k u es (out h2 n2))
    · by_cases n2 : i = k
      · subst n2
        rw [List.getElem?_set_self (lt h2)] at h4
        cases h4
        rw [List.getElem?_set_ne n1] at h3
        exact absurd h3 (hn j t ds' (out h1 n1))
      · rw [List.getElem?_set_ne n1] at h3
        rw [List.getElem?_set_ne n2] at h4
        exact r.one j k t ds' u es a (out h1 n1) (out h2 n2) h3 h4
theorem Rp.setOwn (r : Rp K pa G F H σ τ) {i : Nat} {p : Addr} {ds : List D} {xs : List V} (h : H p = some (.lst xs)) (hd : DpAll K F xs ds) (hf : F p = none) (hg : G p = none) (hn : NoOwn σ τ p) :
    Rp K pa G F H (σ.set i (some (.ref p))) (τ.set i (.own none (.lst ds))) := r.setOwnC h (.lst hd) hf hg hn
/-- the thing that slot i owns changes -/
theorem Rp.changeC (r : Rp K pa G F H σ τ) {i : Nat} {t : Option Nat} {ds es : Cont} {a : Addr} {xs : HO} (ht : τ[i]? = some (.own t ds)) (hs : σ[i]? = some (some (.ref a))) (hd : ContIs K F xs es) :
    Rp K pa G F (upd H a xs) σ (τ.set i (.own t es)) := by
  obtain ⟨a', h1, ⟨ys, h2, _⟩, h3, h4, h5⟩ := r.own i t ds ht
  rw [hs] at h1
  cases h1
  have hl : i < τ.length := (List.getElem?_eq_some_iff.mp ht).1
  have back : ∀ {j : Nat} {u fs}, (τ.set i (Slot.own t es))[j]? = some (.own u fs) → ∃ gs, τ[j]? = some (.own u gs) := fun {j u fs} hj => by
    by_cases hij : i = j
    · subst hij
      rw [List.getElem?_set_self hl] at hj
      cases hj
      exact ⟨_, ht⟩
    · rw [List.getElem?_set_ne hij] at hj
      exact ⟨_, hj⟩
  refine ⟨⟨Same.upd r.z.fh h3, Same.upd r.z.gh h4, r.z.fg⟩, by simp [r.len], fun j d' hj => ?_, fun j u fs hj => ?_, fun j k u fs u' fs' b e1 e2 e3 e4 => ?_⟩
  · by_cases hij : i = j
    · subst hij
      rw [List.getElem?_set_self hl] at hj; cases hj
    · rw [List.getElem?_set_ne hij] at hj
      exact r.val j d' hj
  · by_cases hij : i = j
    · subst hij
      rw [List.getElem?_set_self hl] at hj
      cases hj
      exact ⟨a, hs, ⟨xs, upd_same, hd⟩, h3, h4, h5⟩
    · rw [List.getElem?_set_ne hij] at hj
      obtain ⟨b, q1, ⟨ys', q2, q3⟩, q4⟩ := r.own j u fs hj
      have nb : b ≠ a := fun e => by
        subst e
        exact hij (r.one i j t ds u fs b ht hj hs q1)
      exact ⟨b, q1, ⟨ys', by rw [upd_ne nb]; exact q2, q3⟩, q4⟩
  · obtain ⟨gs, w1⟩ := back e1
    obtain ⟨gs', w2⟩ := back e2
    exact r.one j k u gs u' gs' b w1 w2 e3 e4
theorem Rp.change (r : Rp K pa G F H σ τ) {i : Nat} {t : Option Nat} {ds es : List D} {a : Addr} {xs : List V} (ht : τ[i]? = some (.own t (.lst ds))) (hs : σ[i]? = some (some (.ref a))) (hd : DpAll K F xs es) :
    Rp K pa G F (upd H a (.lst xs)) σ (τ.set i (.own t (.lst es))) := r.changeC ht hs (.lst hd)
/-- a slot is forgotten -/
theorem Rp.drop (r : Rp K pa G F H σ τ) (i : Nat) : Rp K pa G F H σ (τ.set i .free) := by
  have out : ∀ {j : Nat} {x : Slot}, (τ.set i Slot.free)[j]? = some x → x ≠ .free → τ[j]? = some x := fun {j x} hj hx => by
    by_cases hij : i = j
    · subst hij
      by_cases hl : i < τ.length
      · rw [List.getElem?_set_self hl] at hj
        cases hj
        exact absurd rfl hx
      · rw [List.getElem?_eq_none (by simpa using hl)] at hj; cases hj
    · rw [List.getElem?_set_ne hij] at hj
      exact hj
  exact ⟨r.z, by simp [r.len], fun j d hj => r.val j d (out hj (by intro h; cases h)), fun j t ds hj => r.own j t ds (out hj (by intro h; cases h)),
    fun j k t ds u es a h1 h2 => r.one j k t ds u es a (out h1 (by intro h; cases h)) (out h2 (by intro h; cases h))⟩
/-- what slot i owns is known from here on as data -/
theorem Rp.freeze (r : Rp K pa G F H σ τ) {i : Nat} {t : Option Nat} {ds : List D} (ht : τ[i]? = some (.own t (.lst ds))) : ∃ F', Same F F' ∧ Rp K pa G F' H σ (τ.set i (.val (.list ds))) := by
  obtain ⟨a, h1, ⟨xs, h2, h3⟩, h4, h5, h6⟩ := r.ownL i t ds ht
  have hl : i < τ.length := (List.getElem?_eq_some_iff.mp ht).1
  have ff : Same F (upd F a (.lst xs)) := same_new h4
  have out : ∀ {j : Nat} {u fs}, (τ.set i (Slot.val (.list ds)))[j]? = some (.own u fs) → τ[j]? = some (.own u fs) ∧ i ≠ j := fun {j u fs} hj => by
    by_cases hij : i = j
    · subst hij
      rw [List.getElem?_set_self hl] at hj; cases hj
    · rw [List.getElem?_set_ne hij] at hj
      exact ⟨hj, hij⟩
  refine ⟨upd F a (.lst xs), ff, ⟨fun b o e => ?_, r.z.gh, fun b hb => ?_⟩, by simp [r.len], fun j d hj => ?_, fun j u fs hj => ?_, fun j k u fs u' fs' b e1 e2 => ?_⟩
  · by_cases hb : b = a
    · subst hb
      rw [upd_same] at e
      cases e
      exact h2
    · rw [upd_ne hb] at e
      exact r.z.fh b o e
  · by_cases e : b = a
    · subst e
      exact h5
    · unfold NT at hb
      rw [upd_ne e] at hb
      exact r.z.fg b hb
  · by_cases hij : i = j
    · subst hij
      rw [List.getElem?_set_self hl] at hj
      cases hj
      exact ⟨.ref a, h1, .lst (SqL.of upd_same) (h3.up ff)⟩
    · rw [List.getElem?_set_ne hij] at hj
      obtain ⟨v, q1, q2⟩ := r.val j d hj
      exact ⟨v, q1, q2.up ff⟩
  · obtain ⟨w, hij⟩ := out hj
    obtain ⟨b, q1, ⟨ys, q2, q3⟩, q4, q5⟩ := r.own j u fs w
    have nb : b ≠ a := fun e => by
      subst e
      exact hij (r.one i j t ds u fs b ht w h1 q1)
    exact ⟨b, q1, ⟨ys, q2, q3.up ff⟩, by rw [upd_ne nb]; exact q4, q5⟩
  · exact r.one j k u fs u' fs' b (out e1).1 (out e2).1
/-- a list that nobody owns is known from here on as data -/
theorem Rp.settle (r : Rp K pa G F H σ τ) {p : Addr} {xs : List V} (h : H p = some (.lst xs)) (hf : F p = none) (hg : G p = none) (hn : NoOwn σ τ p) : Same F (upd F p (.lst xs)) ∧ Rp K pa G (upd F p (.lst xs)) H σ τ := by
  have ff : Same F (upd F p (.lst xs)) := same_new hf
  refine ⟨ff, ⟨fun b o e => ?_, r.z.gh, fun b hb => ?_⟩, r.len, fun j d hj => ?_, fun j u fs hj => ?_, r.one⟩
  · by_cases hb : b = p
    · subst hb
      rw [upd_same] at e
      cases e
      exact h
    · rw [upd_ne hb] at e
      exact r.z.fh b o e
  · by_cases e : b = p
    · subst e
      exact hg
    · unfold NT at hb
      rw [upd_ne e] at hb
      exact r.z.fg b hb
  · obtain ⟨v, q1, q2⟩ := r.val j d hj
    exact ⟨v, q1, q2.up ff⟩
  · obtain ⟨b, q1, ⟨ys, q2, q3⟩, q4, q5⟩ := r.own j u fs hj
    have nb : b ≠ p := fun e => by
      subst e
      exact hn j u fs hj q1
    exact ⟨b, q1, ⟨ys, q2, q3.up ff⟩, by rw [upd_ne nb]; exact q4, q5⟩
end
end Lin

/-! Lin2: the judgements: an expression computes a function of the environment. -/
namespace Lin
open PySem L2

/-- what is asked of a computation's end -/
def Gd (W : WX) (XM : Nat → Value) (G F : Hp) (n : Nat) {α : Type} (r : R (α × Ev)) (k : α → Ev → Prop) : Prop :=
  match r with
  | .ok p => k p.1 p.2
  | .exc e => ∀ (σ' : L2.St) (F' H' : Hp), σ'.length = n → Same F F' → Rp0 G F' H' → W (XM e) none σ' H'
  | .stuck => False
theorem Gd.mono {W : WX} {XM : Nat → Value} {G F F1 : Hp} {n : Nat} {α : Type} {r : R (α × Ev)} {k k' : α → Ev → Prop} (h : Gd W XM G F n r k) (s : Same F F1) (i : ∀ a τ, k a τ → k' a τ) : Gd W XM G F1 n r k' := by
  cases r with
  | ok p => exact i _ _ h
  | exc e => exact fun σ' F' H' l s' z => h σ' F' H' l (Same.trans s s') z
  | stuck => exact h

/-- how a value stands for what is computed -/
abbrev Rel (α β : Type) := Hp → Hp → Hp → L2.St → Ev → β → α → Prop
section
variable {α β γ δ : Type}
variable (K : PySem.W.Frag) (W : WX) (XM : Nat → Value) (pa : List Addr)
def At (rel : Rel α β) (G F : Hp) (σ : L2.St) (r : R (α × Ev)) (Q : β → Hp → Prop) : Prop :=
  Gd W XM G F σ.length r fun a τ' => ∀ (v : β) (F' H' : Hp), Same F F' → Rp K pa G F' H' σ τ' → rel G F' H' σ τ' v a → Q v H'
/-- the reading: from some environment that stands here -/
def tG (rel : Rel α β) (c : Ev → R (α × Ev)) : L2.St → Hp → (β → Hp → Prop) → Prop := fun σ H Q =>
  ∃ (G F : Hp) (τ : Ev), Rp K pa G F H σ τ ∧ At K W XM pa rel G F σ (c τ) Q
end
section
variable {α β γ δ : Type}
variable {K : PySem.W.Frag} {W : WX} {XM : Nat → Value} {pa : List Addr}
theorem At.mono {rel : Rel α β} {G F F1 : Hp} {σ : L2.St} {r : R (α × Ev)} {Q : β → Hp → Prop} (h : At K W XM pa rel G F σ r Q) (s : Same F F1) : At K W XM pa rel G F1 σ r Q :=
  Gd.mono h s fun a τ' k v F' H' s' => k v F' H' (Same.trans s s')
/-- the first part is read, the rest is still to be -/
theorem At.step {rel : Rel α β} {rel1 : Rel γ δ} {G F H : Hp} {σ : L2.St} {τ : Ev} {c : Ev → R (γ × Ev)} {k : γ × Ev → R (α × Ev)} {Q : β → Hp → Prop} {Q1 : δ → Hp → Prop} (r : Rp K pa G F H σ τ)
    (h : At K W XM pa rel G F σ ((c τ).bind k) Q)
    (g : ∀ (F' H' : Hp) (a : γ) (τ' : Ev) (v : δ), Same F F' → Rp K pa G F' H' σ τ' → rel1 G F' H' σ τ' v a → At K W XM pa rel G F' σ (k (a, τ')) Q → Q1 v H') : tG K W XM pa rel1 c σ H Q1 := by
  refine ⟨G, F, τ, r, ?_⟩
  unfold At at h ⊢
  cases e : c τ with
  | ok p =>
    rw [e] at h
    show ∀ (v : δ) (F' H' : Hp), Same F F' → Rp K pa G F' H' σ p.2 → rel1 G F' H' σ p.2 v p.1 → Q1 v H'
    intro v F' H' s r' d
    exact g F' H' p.1 p.2 v s r' d (At.mono (K := K) h s)
  | exc x =>
    rw [e] at h
    exact h
  | stuck =>
    rw [e] at h
    exact h.elim
theorem At.opt {rel : Rel α β} {G F : Hp} {σ : L2.St} {o : Option γ} {k : γ → R (α × Ev)} {Q : β → Hp → Prop} (h : At K W XM pa rel G F σ ((R.ofOpt o).bind k) Q) : ∃ z, o = some z ∧ At K W XM pa rel G F σ (k z) Q := by
  cases o with
  | none => exact h.elim
  | some z => exact ⟨z, rfl, h⟩
theorem At.ok {rel : Rel α β} {G F : Hp} {σ : L2.St} {a : α} {τ : Ev} {Q : β → Hp → Prop} (h : At K W XM pa rel G F σ (.ok (a, τ)) Q) : ∀ (v : β) (F' H' : Hp), Same F F' → Rp K pa G F' H' σ τ → rel G F' H' σ τ v a → Q v H' := h
end

abbrev CE := Ev → R (D × Ev)
abbrev CT := Ev → R (Bool × Ev)
abbrev CA := Ev → R (List D × Ev)
abbrev CO := Ev → R (List D × Ev)
abbrev CP := Ev → R (Option Int × Ev)
def relE (K : PySem.W.Frag) : Rel D V := fun _ F _ _ _ v d => Dp K F v d
def relB : Rel Bool Bool := fun _ _ _ _ _ v d => v = d
def relA (K : PySem.W.Frag) : Rel (List D) (List V) := fun _ F _ _ _ v d => DpAll K F v d
def relP : Rel (Option Int) (Option Int) := fun _ _ _ _ _ v d => v = d
/-- a list that nobody owns yet -/
structure Loose (K : PySem.W.Frag) (G F H : Hp) (σ : L2.St) (τ : Ev) (p : Addr) (ds : List D) : Prop where
  at_ : ∃ xs, H p = some (.lst xs) ∧ DpAll K F xs ds
  hf : F p = none
  hg : G p = none
  no : NoOwn σ τ p
def relO (K : PySem.W.Frag) : Rel (List D) V := fun G F H σ τ v ds => ∃ p, v = .ref p ∧ Loose K G F H σ τ p ds
/-- a thing that nobody owns yet -/
structure LooseC (K : PySem.W.Frag) (G F H : Hp) (σ : L2.St) (τ : Ev) (p : Addr) (c : Cont) : Prop where
  at_ : ∃ o, H p = some o ∧ ContIs K F o c
  hf : F p = none
  hg : G p = none
  no : NoOwn σ τ p
theorem Loose.c {K : PySem.W.Frag} {G F H : Hp} {σ : L2.St} {τ : Ev} {p : Addr} {ds : List D} (h : Loose K G F H σ τ p ds) : LooseC K G F H σ τ p (.lst ds) := by
  obtain ⟨xs, h1, h2⟩ := h.at_
  exact ⟨⟨_, h1, .lst h2⟩, h.hf, h.hg, h.no⟩
theorem LooseC.l {K : PySem.W.Frag} {G F H : Hp} {σ : L2.St} {τ : Ev} {p : Addr} {ds : List D} (h : LooseC K G F H σ τ p (.lst ds)) : Loose K G F H σ τ p ds := by
  obtain ⟨o, h1, h2⟩ := h.at_
  cases h2 with
  | lst h2 => exact ⟨⟨_, h1, h2⟩, h.hf, h.hg, h.no⟩
abbrev CD := Ev → R (Cont × Ev)
def relC (K : PySem.W.Frag) : Rel Cont V := fun G F H σ τ v c => ∃ p, v = .ref p ∧ LooseC K G F H σ τ p c
section
variable (X : Cx) (W : WX) (XM : Nat → Value) (pa : List Addr)
/-- an expression computes c; a test; arguments; an expression that makes a list; a part of a slice -/
abbrev SE (e : Expr) (c : CE) : Prop := PE X e (tG X.K W XM pa (relE X.K) c)
abbrev ST (e : Expr) (c : CT) : Prop := PT X e (tG X.K W XM pa relB c)
abbrev SW (e : Expr) (c : CT) : Prop := PW X e (tG X.K W XM pa relB c)
abbrev SA (es : List Expr) (c : CA) : Prop := PA X es (tG X.K W XM pa (relA X.K) c)
abbrev SO (e : Expr) (c : CO) : Prop := PE X e (tG X.K W XM pa (relO X.K) c)
abbrev SD (e : Expr) (c : CD) : Prop := PE X e (tG X.K W XM pa (relC X.K) c)
abbrev SP (e : Option Expr) (c : CP) : Prop := PO X e (tG X.K W XM pa relP c)
end
theorem _root_.L2.PE.imp {X : Cx} {e : Expr} {t t' : TE} (h : PE X e t) (i : ∀ σ H Q, t' σ H Q → t σ H Q) : PE X e t' := ⟨fun pins s σ H Q I q => h.run pins s σ H Q I (i σ H Q q)⟩
theorem _root_.L2.PT.imp {X : Cx} {e : Expr} {t t' : TT} (h : PT X e t) (i : ∀ σ H Q, t' σ H Q → t σ H Q) : PT X e t' := ⟨fun pins s σ H Q I q => h.run pins s σ H Q I (i σ H Q q)⟩
theorem _root_.L2.PW.imp {X : Cx} {e : Expr} {t t' : TT} (h : PW X e t) (i : ∀ σ H Q, t' σ H Q → t σ H Q) : PW X e t' := ⟨fun wh pins s σ H Q I q => h.run wh pins s σ H Q I (i σ H Q q)⟩
theorem _root_.L2.PA.imp {X : Cx} {es : List Expr} {t t' : TA} (h : PA X es t) (i : ∀ σ H Q, t' σ H Q → t σ H Q) : PA X es t' := ⟨fun pos pins s σ H Q I q => h.run pos pins s σ H Q I (i σ H Q q)⟩
theorem _root_.L2.PO.imp {X : Cx} {e : Option Expr} {t t' : TO} (h : PO X e t) (i : ∀ σ H Q, t' σ H Q → t σ H Q) : PO X e t' := ⟨fun pins s σ H Q I q => h.run pins s σ H Q I (i σ H Q q)⟩
theorem _root_.L2.PS.imp {X : Cx} {st : Stmt} {t t' : TS} (h : PS X st t) (i : ∀ D σ H, t' D σ H → t D σ H) : PS X st t' := ⟨fun pins s σ H D I q => h.run pins s σ H D I (i D σ H q)⟩
theorem _root_.L2.PSs.imp {X : Cx} {st : List Stmt} {t t' : TS} (h : PSs X st t) (i : ∀ D σ H, t' D σ H → t D σ H) : PSs X st t' := ⟨fun pins s σ H D I q => h.run pins s σ H D I (i D σ H q)⟩

/-! ### operations on values: what they need of the heap -/
/-- an operation of two values computes f -/
def OpS (K : PySem.W.Frag) (r : R2) (f : D → D → Option D) : Prop := ∀ (F H : Hp) (x y : V) (d e z : D) (Q : VK), Same F H → Dp K F x d → Dp K F y e → f d e = some z → (∀ v F' H', Ext F H F' H' → Dp K F' v z → Q v H') → r x y H Q
def UnS (K : PySem.W.Frag) (r : V → Hp → VK → Prop) (f : D → Option D) : Prop := ∀ (F H : Hp) (x : V) (d z : D) (Q : VK), Same F H → Dp K F x d → f d = some z → (∀ v F' H', Ext F H F' H' → Dp K F' v z → Q v H') → r x H Q
def CallS (K : PySem.W.Frag) (r : List V → Hp → VK → Prop) (f : List D → Option D) : Prop := ∀ (F H : Hp) (xs : List V) (ds : List D) (z : D) (Q : VK), Same F H → DpAll K F xs ds → f ds = some z → (∀ v F' H', Ext F H F' H' → Dp K F' v z → Q v H') → r xs H Q
/-- a call that makes a new list -/
def CallO (K : PySem.W.Frag) (r : List V → Hp → VK → Prop) (f : List D → Option (List D)) : Prop := ∀ (F H : Hp) (xs : List V) (ds : List D) (z : List D) (Q : VK), Same F H → DpAll K F xs ds → f ds = some z →
  (∀ p ys F' H', Ext F H F' H' → H p = none → F' p = none → H' p = some (.lst ys) → DpAll K F' ys z → Q (.ref p) H') → r xs H Q
theorem OpS.or1 {K : PySem.W.Frag} {r r' : R2} {f : D → D → Option D} (h : OpS K r f) : OpS K (fun x y H Q => r x y H Q ∨ r' x y H Q) f := fun F H x y d e z Q a b c g k => .inl (h F H x y d e z Q a b c g k)
/-- by cases: each pair of data goes one of the two ways -/
theorem OpS.cases {K : PySem.W.Frag} {r r' : R2} {f g g' : D → D → Option D} (h : OpS K r g) (h' : OpS K r' g') (e : ∀ a b z, f a b = some z → g a b = some z ∨ g' a b = some z) : OpS K (fun x y H Q => r x y H Q ∨ r' x y H Q) f :=
  fun F H x y d e1 z Q a b c q k => (e _ _ _ q).elim (fun w => .inl (h F H x y d e1 z Q a b c w k)) fun w => .inr (h' F H x y d e1 z Q a b c w k)

/-! ### expressions -/
section
variable {X : Cx} {W : WX} {XM : Nat → Value} {pa : List Addr}
variable {a b e : Expr} {ca cb ce : CE} {pos : Pos}
@[simp] def varC (i : Nat) : CE := fun τ => match τ[i]? with
  | some (.val d) => .ok (d, τ)
  | _ => .stuck
theorem se_var (i : Nat) {x : Str} (h : PE X (.Name x pos) (tVar i)) : SE X W XM pa (.Name x pos) (varC i) := h.imp fun σ H Q q => by
  obtain ⟨G, F, τ, r, q⟩ := q
  unfold varC at q
  cases e1 : τ[i]? with
  | none => rw [e1] at q; exact q.elim
  | some s =>
    cases s with
    | free => rw [e1] at q; exact q.elim
    | own t ds => rw [e1] at q; exact q.elim
    | val d =>
      rw [e1] at q
      obtain ⟨v, h1, h2⟩ := r.val i d e1
      exact ⟨v, h1, q v F H (Same.refl _) r h2⟩
@[simp] def litC (d : D) : CE := fun τ => .ok (d, τ)
theorem se_lit {v : V} {d : D} (h : PE X e (tC v)) (hd : ∀ F, Dp X.K F v d) : SE X W XM pa e (litC d) := h.imp fun σ H Q q => by
  obtain ⟨G, F, τ, r, q⟩ := q
  exact q v F H (Same.refl _) r (hd F)
theorem se_int {i : Int} {j} : SE X W XM pa (.Constant (.int i) j pos) (litC (.int i)) := se_lit pe_int fun _ => .int i
theorem se_bl {i : Bool} {j} : SE X W XM pa (.Constant (.bool i) j pos) (litC (.bool i)) := se_lit pe_bl fun _ => .bl i
theorem se_non {j} : SE X W XM pa (.Constant .none j pos) (litC .none) := se_lit pe_non fun _ => .non
theorem se_str {i : Str} {j} : SE X W XM pa (.Constant (.str i) j pos) (litC (.str i)) := se_lit pe_str fun _ => .str i
/-- a constant of the module, an int -/
theorem se_glob {x : Str} {i : Int} {u : Value} (hg : Gl X x) (hm : X.mg x = some u) (r : RelV (.int i) u) (hd : (x == ("__debug__" : Str)) = false := by decide) : SE X W XM pa (.Name x pos) (litC (.int i)) := se_lit (pe_glob hg hm r hd) fun _ => .int i

@[simp] def op2C (f : D → D → Option D) (a b : CE) : CE := fun τ => (a τ).bind fun p => (b p.2).bind fun q => (R.ofOpt (f p.1 q.1)).bind fun z => .ok (z, q.2)
theorem tOp_of {r : R2} {f : D → D → Option D} (hs : OpS X.K r f) {σ : L2.St} {H : Hp} {Q : VK} (q : tG X.K W XM pa (relE X.K) (op2C f ca cb) σ H Q) : tOp r (tG X.K W XM pa (relE X.K) ca) (tG X.K W XM pa (relE X.K) cb) σ H Q := by
  obtain ⟨G, F, τ, r0, q⟩ := q
  refine At.step r0 q fun F1 H1 d1 τ1 x s1 r1 h1 q1 => At.step r1 q1 fun F2 H2 d2 τ2 y s2 r2 h2 q2 => ?_
  obtain ⟨z, e, q3⟩ := At.opt q2
  exact hs F2 H2 x y d1 d2 z Q r2.z.fh (Dp.up h1 s2) h2 e fun v F3 H3 ex hz => q3 v F3 H3 ex.ff (r2.ext ex) hz
theorem se_op {op : Operator} {r : R2} {f : D → D → Option D} (ho : OpR X (binaryOp op) r) (hs : OpS X.K r f) (ha : SE X W XM pa a ca) (hb : SE X W XM pa b cb) : SE X W XM pa (.BinOp a op b pos) (op2C f ca cb) :=
  (pe_op ho ha hb).imp fun _ _ _ q => tOp_of hs q
theorem se_cmp {op : CmpOp} {r : R2} {f : D → D → Option D} (ho : OpR X (compareOp op) r) (hs : OpS X.K r f) (ha : SE X W XM pa a ca) (hb : SE X W XM pa b cb) (hm : behindInMarks op b = false) : SE X W XM pa (.Compare a [op] [b] pos) (op2C f ca cb) :=
  (pe_cmpR ho ha hb hm).imp fun _ _ _ q => tOp_of hs q
theorem se_ix {r : R2} {f : D → D → Option D} (ho : IxR X r) (hs : OpS X.K r f) (ha : SE X W XM pa a ca) (hb : SE X W XM pa b cb) (hp : PlainIx b) : SE X W XM pa (.Subscript a b pos) (op2C f ca cb) :=
  (pe_ix ho ha hb hp).imp fun _ _ _ q => tOp_of hs q
@[simp] def op1C (f : D → Option D) (a : CE) : CE := fun τ => (a τ).bind fun p => (R.ofOpt (f p.1)).bind fun z => .ok (z, p.2)
theorem se_un {op : UnaryOp} {r : V → Hp → VK → Prop} {f : D → Option D} (ho : UnR X (unaryOp op) r) (hs : UnS X.K r f) (ha : SE X W XM pa a ca) : SE X W XM pa (.UnaryOp op a pos) (op1C f ca) :=
  (pe_un ho ha).imp fun σ H Q q => by
    obtain ⟨G, F, τ, r0, q⟩ := q
    refine At.step r0 q fun F1 H1 d1 τ1 x s1 r1 h1 q1 => ?_
    obtain ⟨z, e, q3⟩ := At.opt q1
    exact hs F1 H1 x d1 z Q r1.z.fh h1 e fun v F3 H3 ex hz => q3 v F3 H3 ex.ff (r1.ext ex) hz

/-! tests -/
@[simp] def bvC (c : CE) : CT := fun τ => (c τ).bind fun p => match p.1 with
  | .bool b => .ok (b, p.2)
  | _ => .stuck
theorem tB_of {σ : L2.St} {H : Hp} {Q : Bool → Hp → Prop} (q : tG X.K W XM pa relB (bvC ce) σ H Q) : tG X.K W XM pa (relE X.K) ce σ H fun x H' => ∃ k, x = .bl k ∧ Q k H' := by
  obtain ⟨G, F, τ, r0, q⟩ := q
  refine At.step r0 q fun F1 H1 d1 τ1 x s1 r1 h1 q1 => ?_
  cases d1 with
  | bool b =>
    cases h1
    exact ⟨b, rfl, q1 b F1 H1 (Same.refl _) r1 rfl⟩
  | none => exact q1.elim
  | int _ => exact q1.elim
  | str _ => exact q1.elim
  | list _ => exact q1.elim
  | tuple _ => exact q1.elim
  | dict _ => exact q1.elim
theorem st_cmp {op : CmpOp} {r : R2} {f : D → D → Option D} (ho : OpR X (compareOp op) r) (hs : OpS X.K r f) (ha : SE X W XM pa a ca) (hb : SE X W XM pa b cb) (hm : behindInMarks op b = false) : ST X W XM pa (.Compare a [op] [b] pos) (bvC (op2C f ca cb)) :=
  (pt_cmpR ho ha hb hm).imp fun σ H Q q => tOp_of hs (tB_of (X := X) q)
theorem st_val (h : SE X W XM pa e ce) (he : ∀ whole, isTrue e X.env whole = (do let v ← whole; standAt e.pos; holding [v] (truthy v)) := by intro _; rfl) : ST X W XM pa e (bvC ce) :=
  (pt_val h he).imp fun σ H Q q => tB_of (X := X) q
@[simp] def notT (c : CT) : CT := fun τ => (c τ).bind fun p => .ok (!p.1, p.2)
theorem st_not {c : CT} (h : ST X W XM pa a c) : ST X W XM pa (.UnaryOp .Not a pos) (notT c) := (pt_not h).imp fun σ H Q q => by
  obtain ⟨G, F, τ, r0, q⟩ := q
  exact At.step r0 q fun F1 H1 d1 τ1 x s1 r1 h1 q1 => by
    cases h1
    exact q1 _ F1 H1 (Same.refl _) r1 rfl
@[simp] def andT (a b : CT) : CT := fun τ => (a τ).bind fun p => if p.1 = true then b p.2 else .ok (false, p.2)
@[simp] def orT (a b : CT) : CT := fun τ => (a τ).bind fun p => if p.1 = true then .ok (true, p.2) else b p.2
variable {rest : List Expr} {tA tB' : CT}
theorem sw_one {op} (h : ST X W XM pa a tA) (ho : op = .And ∨ op = .Or) : SW X W XM pa (.BoolOp op [a] pos) tA := by
  rcases ho with rfl | rfl
  · exact pw_and1 h
  · exact pw_or1 h
theorem sw_and (ha : ST X W XM pa a tA) (hb : SW X W XM pa (.BoolOp .And (b :: rest) pos) tB') : SW X W XM pa (.BoolOp .And (a :: b :: rest) pos) (andT tA tB') := (pw_and ha hb).imp fun σ H Q q => by
  obtain ⟨G, F, τ, r0, q⟩ := q
  refine At.step r0 q fun F1 H1 d1 τ1 x s1 r1 h1 q1 => ?_
  cases h1
  cases d1 with
  | true =>
    show tG X.K W XM pa relB tB' σ H1 Q
    exact ⟨G, F1, τ1, r1, q1⟩
  | false => exact q1 _ F1 H1 (Same.refl _) r1 rfl
theorem sw_or (ha : ST X W XM pa a tA) (hb : SW X W XM pa (.BoolOp .Or (b :: rest) pos) tB') : SW X W XM pa (.BoolOp .Or (a :: b :: rest) pos) (orT tA tB') := (pw_or ha hb).imp fun σ H Q q => by
  obtain ⟨G, F, τ, r0, q⟩ := q
  refine At.step r0 q fun F1 H1 d1 τ1 x s1 r1 h1 q1 => ?_
  cases h1
  cases d1 with
  | false =>
    show tG X.K W XM pa relB tB' σ H1 Q
    exact ⟨G, F1, τ1, r1, q1⟩
  | true => exact q1 _ F1 H1 (Same.refl _) r1 rfl
theorem _root_.L2.PW.st {c : CT} (h : SW X W XM pa a c) : ST X W XM pa a c := PW.pt h
/-- and, or, not as values: all but the last True or False -/
@[simp] def andC (a b : CE) : CE := fun τ => (bvC a τ).bind fun p => if p.1 = true then b p.2 else .ok (.bool false, p.2)
@[simp] def orC (a b : CE) : CE := fun τ => (bvC a τ).bind fun p => if p.1 = true then .ok (.bool true, p.2) else b p.2
@[simp] def notC (a : CE) : CE := fun τ => (bvC a τ).bind fun p => .ok (.bool (!p.1), p.2)
theorem bvC_bind {α : Type} (c : CE) (τ : Ev) (k : Bool × Ev → R α) : (bvC c τ).bind k = (c τ).bind fun p => match p.1 with
    | .bool b => k (b, p.2)
    | _ => .stuck := by
  unfold bvC
  cases c τ with
  | ok p =>
    obtain ⟨d, τ'⟩ := p
    cases d <;> rfl
  | exc x => rfl
  | stuck => rfl
theorem se_one {op} (h : SE X W XM pa a ca) : SE X W XM pa (.BoolOp op [a] pos) ca := pe_one h
theorem se_and (ha : SE X W XM pa a ca) (hb : SE X W XM pa (.BoolOp .And (b :: rest) pos) cb) : SE X W XM pa (.BoolOp .And (a :: b :: rest) pos) (andC ca cb) := (pe_and ha hb).imp fun σ H Q q => by
  obtain ⟨G, F, τ, r0, q⟩ := q
  unfold andC at q
  rw [bvC_bind] at q
  refine At.step r0 q fun F1 H1 d1 τ1 x s1 r1 h1 q1 => ?_
  cases d1 with
  | bool c =>
    cases h1
    refine ⟨c, rfl, ?_⟩
    cases c with
    | true =>
      show tG X.K W XM pa (relE X.K) cb σ H1 Q
      exact ⟨G, F1, τ1, r1, q1⟩
    | false => exact q1 _ F1 H1 (Same.refl _) r1 (.bl _)
  | none => exact q1.elim
  | int _ => exact q1.elim
  | str _ => exact q1.elim
  | list _ => exact q1.elim
  | tuple _ => exact q1.elim
  | dict _ => exact q1.elim
theorem se_or (ha : SE X W XM pa a ca) (hb : SE X W XM pa (.BoolOp .Or (b :: rest) pos) cb) : SE X W XM pa (.BoolOp .Or (a :: b :: rest) pos) (orC ca cb) := (pe_or ha hb).imp fun σ H Q q => by
  obtain ⟨G, F, τ, r0, q⟩ := q
  unfold orC at q
  rw [bvC_bind] at q
  refine At.step r0 q fun F1 H1 d1 τ1 x s1 r1 h1 q1 => ?_
  cases d1 with
  | bool c =>
    cases h1
    refine ⟨c, rfl, ?_⟩
    cases c with
    | false =>
      show tG X.K W XM pa (relE X.K) cb σ H1 Q
      exact ⟨G, F1, τ1, r1, q1⟩
    | true => exact q1 _ F1 H1 (Same.refl _) r1 (.bl _)
  | none => exact q1.elim
  | int _ => exact q1.elim
  | str _ => exact q1.elim
  | list _ => exact q1.elim
  | tuple _ => exact q1.elim
  | dict _ => exact q1.elim
theorem se_not (ha : SE X W XM pa a ca) : SE X W XM pa (.UnaryOp .Not a pos) (notC ca) := (pe_not ha).imp fun σ H Q q => by
  obtain ⟨G, F, τ, r0, q⟩ := q
  unfold notC at q
  rw [bvC_bind] at q
  refine At.step r0 q fun F1 H1 d1 τ1 x s1 r1 h1 q1 => ?_
  cases d1 with
  | bool c =>
    cases h1
    exact ⟨c, rfl, q1 _ F1 H1 (Same.refl _) r1 (.bl _)⟩
  | none => exact q1.elim
  | int _ => exact q1.elim
  | str _ => exact q1.elim
  | list _ => exact q1.elim
  | tuple _ => exact q1.elim
  | dict _ => exact q1.elim
/-- a if t else b -/
@[simp] def ifC (t : CT) (a b : CE) : CE := fun τ => (t τ).bind fun p => if p.1 = true then a p.2 else b p.2
theorem se_if {c : Expr} (hc : ST X W XM pa c tA) (ha : SE X W XM pa a ca) (hb : SE X W XM pa b cb) : SE X W XM pa (.IfExp c a b pos) (ifC tA ca cb) := (pe_ifExp hc ha hb).imp fun σ H Q q => by
  obtain ⟨G, F, τ, r0, q⟩ := q
  refine At.step r0 q fun F1 H1 d1 τ1 x s1 r1 h1 q1 => ?_
  cases h1
  cases d1 with
  | true =>
    show tG X.K W XM pa (relE X.K) ca σ H1 Q
    exact ⟨G, F1, τ1, r1, q1⟩
  | false =>
    show tG X.K W XM pa (relE X.K) cb σ H1 Q
    exact ⟨G, F1, τ1, r1, q1⟩
/-- a chain of two comparisons -/
@[simp] def chainC (f g : D → D → Option D) (a b c : CE) : CE := fun τ => (a τ).bind fun p => (b p.2).bind fun q => (R.ofOpt (f p.1 q.1)).bind fun z => match z with
  | .bool k => if k = true then (c q.2).bind fun r => (R.ofOpt (g q.1 r.1)).bind fun w => .ok (w, r.2) else .ok (.bool false, q.2)
  | _ => .stuck
theorem tChain_of {cc : CE} {r r' : R2} {f g : D → D → Option D} (hs : OpS X.K r f) (hs' : OpS X.K r' g) {σ : L2.St} {H : Hp} {Q : VK} (q : tG X.K W XM pa (relE X.K) (chainC f g ca cb cc) σ H Q) :
    tChain r r' (tG X.K W XM pa (relE X.K) ca) (tG X.K W XM pa (relE X.K) cb) (tG X.K W XM pa (relE X.K) cc) σ H Q := by
  obtain ⟨G, F, τ, r0, q⟩ := q
  refine At.step r0 q fun F1 H1 d1 τ1 x s1 r1 h1 q1 => At.step r1 q1 fun F2 H2 d2 τ2 y s2 r2 h2 q2 => ?_
  obtain ⟨z, e, q3⟩ := At.opt q2
  refine hs F2 H2 x y d1 d2 z _ r2.z.fh (Dp.up h1 s2) h2 e fun v F3 H3 ex hz => ?_
  have q4 := At.mono q3 ex.ff
  cases z with
  | bool k =>
    cases hz
    refine ⟨k, rfl, ?_⟩
    cases k with
    | true =>
      refine (At.step (r2.ext ex) q4 fun F4 H4 d4 τ4 w s4 r4 h4 q5 => ?_ : tG X.K W XM pa (relE X.K) cc σ H3 _)
      obtain ⟨z2, e2, q6⟩ := At.opt q5
      exact hs' F4 H4 y w d2 d4 z2 Q r4.z.fh ((Dp.up h2 ex.ff).up s4) h4 e2 fun v F5 H5 ex5 hz5 => q6 v F5 H5 ex5.ff (r4.ext ex5) hz5
    | false => exact q4 _ F3 H3 (Same.refl _) (r2.ext ex) (.bl _)
  | none => exact q4.elim
  | int _ => exact q4.elim
  | str _ => exact q4.elim
  | list _ => exact q4.elim
  | tuple _ => exact q4.elim
  | dict _ => exact q4.elim
theorem se_chain {c : Expr} {cc : CE} {op op' : CmpOp} {r r' : R2} {f g : D → D → Option D} (ho : OpR X (compareOp op) r) (hs : OpS X.K r f) (ho' : OpR X (compareOp op') r') (hs' : OpS X.K r' g) (ha : SE X W XM pa a ca) (hb : SE X W XM pa b cb) (hc : SE X W XM pa c cc)
    (hm : lastMarks [op, op'] [b, c] = false := by with_unfolding_all rfl) : SE X W XM pa (.Compare a [op, op'] [b, c] pos) (chainC f g ca cb cc) := (pe_chain ho ho' ha hb hc hm).imp fun _ _ _ q => tChain_of hs hs' q
theorem st_chain {c : Expr} {cc : CE} {op op' : CmpOp} {r r' : R2} {f g : D → D → Option D} (ho : OpR X (compareOp op) r) (hs : OpS X.K r f) (ho' : OpR X (compareOp op') r') (hs' : OpS X.K r' g) (ha : SE X W XM pa a ca) (hb : SE X W XM pa b cb) (hc : SE X W XM pa c cc)
    (hm : lastMarks [op, op'] [b, c] = false := by with_unfolding_all rfl) : ST X W XM pa (.Compare a [op, op'] [b, c] pos) (bvC (chainC f g ca cb cc)) := (pt_chain ho ho' ha hb hc hm).imp fun σ H Q q => tChain_of (X := X) hs hs' (tB_of (X := X) q)
/-! arguments, tuples, lists -/
@[simp] def nilA : CA := fun τ => .ok ([], τ)
@[simp] def consA (a : CE) (r : CA) : CA := fun τ => (a τ).bind fun p => (r p.2).bind fun q => .ok (p.1 :: q.1, q.2)
variable {es : List Expr} {cr : CA}
theorem sa_nil : SA X W XM pa [] nilA := pa_nil.imp fun σ H Q q => by
  obtain ⟨G, F, τ, r, q⟩ := q
  exact q [] F H (Same.refl _) r .nil
theorem sa_cons (ha : SE X W XM pa a ca) (hr : SA X W XM pa es cr) (hs : starEach (a :: es) X.env = (false, eval a X.env) :: starEach es X.env := by rfl) : SA X W XM pa (a :: es) (consA ca cr) := (pa_cons ha hr hs).imp fun σ H Q q => by
  obtain ⟨G, F, τ, r0, q⟩ := q
  refine At.step r0 q fun F1 H1 d1 τ1 x s1 r1 h1 q1 => At.step r1 q1 fun F2 H2 d2 τ2 y s2 r2 h2 q2 => ?_
  exact q2 (x :: y) F2 H2 (Same.refl _) r2 (.cons (Dp.up h1 s2) h2)
/-- lists and tuples have a length below the line -/
def sized (n : Nat) : Bool := decide (n ≤ 1000000)
theorem sized_line {n : Nat} (h : sized n = true) : n ≤ sizeLine := Nat.le_trans (of_decide_eq_true h) (by decide)
@[simp] def tupC (c : CA) : CE := fun τ => (c τ).bind fun p => if sized p.1.length = true then .ok (.tuple p.1, p.2) else .stuck
theorem se_tup {x1} (h : SA X W XM pa es cr) : SE X W XM pa (.Tuple es x1 pos) (tupC cr) := (pe_tup h).imp fun σ H Q q => by
  obtain ⟨G, F, τ, r0, q⟩ := q
  refine At.step r0 q fun F1 H1 d1 τ1 x s1 r1 h1 q1 => ?_
  by_cases hz : sized d1.length = true
  · simp only [hz, if_true] at q1
    refine ⟨sized_line (by rw [DpAll.length h1]; exact hz), fun p hp => ?_⟩
    have ex := Ext.new (o := .tup x) r1.z.fh hp
    exact q1 _ _ _ ex.ff (r1.ext ex) (.tup upd_same (DpAll.up h1 ex.ff))
  · simp only [hz] at q1
    exact q1.elim
@[simp] def lstO (c : CA) : CO := fun τ => (c τ).bind fun p => if sized p.1.length = true then .ok (p.1, p.2) else .stuck
/-- a new list at p is loose -/
theorem Rp.loose {K : PySem.W.Frag} {G F H : Hp} {σ : L2.St} {τ : Ev} {p : Addr} {xs : List V} {ds : List D} (r : Rp K pa G F H σ τ) (hp : H p = none) (hd : DpAll K F xs ds) :
    Rp K pa G F (upd H p (.lst xs)) σ τ ∧ Loose K G F (upd H p (.lst xs)) σ τ p ds :=
  ⟨r.ext (Ext.newH r.z.fh hp), ⟨xs, upd_same, hd⟩, Same.free r.z.fh hp, Same.free r.z.gh hp, r.noOwn_new hp⟩
theorem so_lst (h : SA X W XM pa es cr) : SO X W XM pa (.List es pos) (lstO cr) := (pe_lst h).imp fun σ H Q q => by
  obtain ⟨G, F, τ, r0, q⟩ := q
  refine At.step r0 q fun F1 H1 d1 τ1 x s1 r1 h1 q1 => ?_
  by_cases hz : sized d1.length = true
  · simp only [hz, if_true] at q1
    refine ⟨sized_line (by rw [DpAll.length h1]; exact hz), fun p hp => ?_⟩
    obtain ⟨r2, l2⟩ := r1.loose hp h1
    exact q1 _ _ _ (Same.refl _) r2 ⟨p, rfl, l2⟩
  · simp only [hz] at q1
    exact q1.elim
/-- a new list that is only looked at from here on -/
@[simp] def frzC (c : CO) : CE := fun τ => (c τ).bind fun p => .ok (.list p.1, p.2)
theorem so_frz {c : CO} (h : SO X W XM pa e c) : SE X W XM pa e (frzC c) := PE.imp h fun σ H Q q => by
  obtain ⟨G, F, τ, r0, q⟩ := q
  refine At.step r0 q fun F1 H1 d1 τ1 x s1 r1 h1 q1 => ?_
  obtain ⟨p, rfl, ⟨xs, hx, hd⟩, hf, hg, no⟩ := h1
  obtain ⟨ff, r2⟩ := r1.settle hx hf hg no
  exact q1 _ _ _ ff r2 (.lst (SqL.of upd_same) (DpAll.up hd ff))

/-! a built-in's call -/
@[simp] def callC (f : List D → Option D) (c : CA) : CE := fun τ => (c τ).bind fun p => (R.ofOpt (f p.1)).bind fun z => .ok (z, p.2)
@[simp] def callO (f : List D → Option (List D)) (c : CA) : CO := fun τ => (c τ).bind fun p => (R.ofOpt (f p.1)).bind fun z => .ok (z, p.2)
theorem tCB_of {r : List V → Hp → VK → Prop} {f : List D → Option D} (hs : CallS X.K r f) {σ : L2.St} {H : Hp} {Q : VK} (q : tG X.K W XM pa (relE X.K) (callC f cr) σ H Q) : tCB r (tG X.K W XM pa (relA X.K) cr) σ H Q := by
  obtain ⟨G, F, τ, r0, q⟩ := q
  refine At.step r0 q fun F1 H1 d1 τ1 x s1 r1 h1 q1 => ?_
  obtain ⟨z, e, q3⟩ := At.opt q1
  exact hs F1 H1 x d1 z Q r1.z.fh h1 e fun v F3 H3 ex hz => q3 v F3 H3 ex.ff (r1.ext ex) hz
theorem tCO_of {r : List V → Hp → VK → Prop} {f : List D → Option (List D)} (hs : CallO X.K r f) {σ : L2.St} {H : Hp} {Q : VK} (q : tG X.K W XM pa (relO X.K) (callO f cr) σ H Q) : tCB r (tG X.K W XM pa (relA X.K) cr) σ H Q := by
  obtain ⟨G, F, τ, r0, q⟩ := q
  refine At.step r0 q fun F1 H1 d1 τ1 x s1 r1 h1 q1 => ?_
  obtain ⟨z, e, q3⟩ := At.opt q1
  refine hs F1 H1 x d1 z Q r1.z.fh h1 e fun p ys F3 H3 ex hp fp hl hd => q3 _ F3 H3 ex.ff (r1.ext ex) ⟨p, rfl, ⟨ys, hl, hd⟩, fp, Same.free r1.z.gh hp, r1.noOwn_new hp⟩
variable {x : Str} {p : Pos}
theorem se_callB {id : String} {r : List V → Hp → VK → Prop} {f : List D → Option D} (hc : CallR X (.builtin id) r) (hs : CallS X.K r f) (hg : Gl X x) (hm : X.mg x = none) (hv : bootBuiltins x = some (.builtin id)) (ha : SA X W XM pa (e :: es) cr)
    (hn : x ≠ "__name__" := by decide) (hdb : (x == ("__debug__" : Str)) = false := by decide) (he : starEach (e :: es) X.env = (false, eval e X.env) :: starEach es X.env := by rfl) (hpl : (backTo pos (starEach es X.env)).any (·.1) = false := by rfl) :
    SE X W XM pa (.Call (.Name x p) (e :: es) [] pos) (callC f cr) := (pe_callB hc hg hm hv ha hn hdb he hpl).imp fun _ _ _ q => tCB_of hs q
theorem so_callB {id : String} {r : List V → Hp → VK → Prop} {f : List D → Option (List D)} (hc : CallR X (.builtin id) r) (hs : CallO X.K r f) (hg : Gl X x) (hm : X.mg x = none) (hv : bootBuiltins x = some (.builtin id)) (ha : SA X W XM pa (e :: es) cr)
    (hn : x ≠ "__name__" := by decide) (hdb : (x == ("__debug__" : Str)) = false := by decide) (he : starEach (e :: es) X.env = (false, eval e X.env) :: starEach es X.env := by rfl) (hpl : (backTo pos (starEach es X.env)).any (·.1) = false := by rfl) :
    SO X W XM pa (.Call (.Name x p) (e :: es) [] pos) (callO f cr) := (pe_callB hc hg hm hv ha hn hdb he hpl).imp fun _ _ _ q => tCO_of hs q
theorem se_callTy {T : String} {r : List V → Hp → VK → Prop} {f : List D → Option D} (hc : CallR X (.type T) r) (hs : CallS X.K r f) (hg : Gl X x) (hm : X.mg x = none) (hv : bootBuiltins x = some (.type T)) (ha : SA X W XM pa (e :: es) cr)
    (hn : x ≠ "__name__" := by decide) (hdb : (x == ("__debug__" : Str)) = false := by decide) (he : starEach (e :: es) X.env = (false, eval e X.env) :: starEach es X.env := by rfl) (hpl : (backTo pos (starEach es X.env)).any (·.1) = false := by rfl) :
    SE X W XM pa (.Call (.Name x p) (e :: es) [] pos) (callC f cr) := (pe_callTy hc hg hm hv ha hn hdb he hpl).imp fun _ _ _ q => tCB_of hs q
theorem so_callTy {T : String} {r : List V → Hp → VK → Prop} {f : List D → Option (List D)} (hc : CallR X (.type T) r) (hs : CallO X.K r f) (hg : Gl X x) (hm : X.mg x = none) (hv : bootBuiltins x = some (.type T)) (ha : SA X W XM pa (e :: es) cr)
    (hn : x ≠ "__name__" := by decide) (hdb : (x == ("__debug__" : Str)) = false := by decide) (he : starEach (e :: es) X.env = (false, eval e X.env) :: starEach es X.env := by rfl) (hpl : (backTo pos (starEach es X.env)).any (·.1) = false := by rfl) :
    SO X W XM pa (.Call (.Name x p) (e :: es) [] pos) (callO f cr) := (pe_callTy hc hg hm hv ha hn hdb he hpl).imp fun _ _ _ q => tCO_of hs q
/-- isinstance(e, T), T a built-in class -/
@[simp] def isT (T : String) : D → Bool
  | .none => T == "NoneType"
  | .bool _ => T == "bool" || T == "int"
  | .int _ => T == "int"
  | .str _ => T == "str"
  | .list _ => T == "list"
  | .tuple _ => T == "tuple"
  | .dict _ => false
/-! slices -/
def SlS (K : PySem.W.Frag) (r : V → Option Int → Option Int → Hp → VK → Prop) (f : D → Option Int → Option Int → Option D) : Prop := ∀ (F H : Hp) (x : V) (d z : D) (lo hi : Option Int) (Q : VK), Same F H → Dp K F x d → f d lo hi = some z →
  (∀ v F' H', Ext F H F' H' → Dp K F' v z → Q v H') → r x lo hi H Q
def SlO (K : PySem.W.Frag) (r : V → Option Int → Option Int → Hp → VK → Prop) (f : D → Option Int → Option Int → Option (List D)) : Prop := ∀ (F H : Hp) (x : V) (d : D) (z : List D) (lo hi : Option Int) (Q : VK), Same F H → Dp K F x d → f d lo hi = some z →
  (∀ p ys F' H', Ext F H F' H' → H p = none → F' p = none → H' p = some (.lst ys) → DpAll K F' ys z → Q (.ref p) H') → r x lo hi H Q
@[simp] def noP : CP := fun τ => .ok (none, τ)
@[simp] def partP (c : CE) : CP := fun τ => (c τ).bind fun p => match p.1 with
  | .int i => .ok (some i, p.2)
  | _ => .stuck
theorem sp_none : SP X W XM pa none noP := po_none.imp fun σ H Q q => by
  obtain ⟨G, F, τ, r, q⟩ := q
  exact q _ F H (Same.refl _) r rfl
theorem sp_some (h : SE X W XM pa e ce) : SP X W XM pa (some e) (partP ce) := (po_some h).imp fun σ H Q q => by
  obtain ⟨G, F, τ, r0, q⟩ := q
  refine At.step r0 q fun F1 H1 d1 τ1 x s1 r1 h1 q1 => ?_
  cases d1 with
  | int i =>
    cases h1
    exact ⟨i, rfl, q1 _ F1 H1 (Same.refl _) r1 rfl⟩
  | none => exact q1.elim
  | bool _ => exact q1.elim
  | str _ => exact q1.elim
  | list _ => exact q1.elim
  | tuple _ => exact q1.elim
  | dict _ => exact q1.elim
@[simp] def sliceC {α : Type} (f : D → Option Int → Option Int → Option α) (a : CE) (l u : CP) : Ev → R (α × Ev) := fun τ => (a τ).bind fun p => (l p.2).bind fun q => (u q.2).bind fun t => (R.ofOpt (f p.1 q.1 t.1)).bind fun z => .ok (z, t.2)
variable {lo hi : Option Expr} {cl cu : CP} {p2 : Pos}
theorem se_slice {r : V → Option Int → Option Int → Hp → VK → Prop} {f : D → Option Int → Option Int → Option D} (hr : SlR X r) (hs : SlS X.K r f) (ha : SE X W XM pa a ca) (hl : SP X W XM pa lo cl) (hu : SP X W XM pa hi cu) :
    SE X W XM pa (.Subscript a (.Slice lo hi none p2) pos) (sliceC f ca cl cu) := (pe_slice hr ha hl hu).imp fun σ H Q q => by
  obtain ⟨G, F, τ, r0, q⟩ := q
  refine At.step r0 q fun F1 H1 d1 τ1 x s1 r1 h1 q1 => At.step r1 q1 fun F2 H2 d2 τ2 y s2 r2 h2 q2 => At.step r2 q2 fun F3 H3 d3 τ3 w s3 r3 h3 q3 => ?_
  obtain ⟨z, e, q4⟩ := At.opt q3
  cases h2
  cases h3
  exact hs F3 H3 x d1 z d2 d3 Q r3.z.fh ((Dp.up h1 s2).up s3) e fun v F4 H4 ex hz => q4 v F4 H4 ex.ff (r3.ext ex) hz
theorem so_slice {r : V → Option Int → Option Int → Hp → VK → Prop} {f : D → Option Int → Option Int → Option (List D)} (hr : SlR X r) (hs : SlO X.K r f) (ha : SE X W XM pa a ca) (hl : SP X W XM pa lo cl) (hu : SP X W XM pa hi cu) :
    SO X W XM pa (.Subscript a (.Slice lo hi none p2) pos) (sliceC f ca cl cu) := (pe_slice hr ha hl hu).imp fun σ H Q q => by
  obtain ⟨G, F, τ, r0, q⟩ := q
  refine At.step r0 q fun F1 H1 d1 τ1 x s1 r1 h1 q1 => At.step r1 q1 fun F2 H2 d2 τ2 y s2 r2 h2 q2 => At.step r2 q2 fun F3 H3 d3 τ3 w s3 r3 h3 q3 => ?_
  obtain ⟨z, e, q4⟩ := At.opt q3
  cases h2
  cases h3
  exact hs F3 H3 x d1 z d2 d3 Q r3.z.fh ((Dp.up h1 s2).up s3) e fun p ys F4 H4 ex hp fp hl hd => q4 _ F4 H4 ex.ff (r3.ext ex) ⟨p, rfl, ⟨ys, hl, hd⟩, fp, Same.free r3.z.gh hp, r3.noOwn_new hp⟩
end
end Lin

/-! Lin3: statements, targets, what is walked, loops, comprehensions. -/
namespace Lin
open PySem L2

inductive Flow where
  | next | brk | cont
  | ret (d : D)
  | retO (ds : List D)
  | retC (c : Cont)
abbrev CS := Ev → R (Flow × Ev)
section
variable (K : PySem.W.Frag) (W : WX) (XM : Nat → Value) (pa : List Addr)
def EndS (E : Ends) (G F : Hp) (n : Nat) (τ' : Ev) : Flow → Prop
  | .next => ∀ (σ' : L2.St) (F' H' : Hp), σ'.length = n → Same F F' → Rp K pa G F' H' σ' τ' → E.nx σ' H'
  | .brk => ∀ (σ' : L2.St) (F' H' : Hp), σ'.length = n → Same F F' → Rp K pa G F' H' σ' τ' → E.bk σ' H'
  | .cont => ∀ (σ' : L2.St) (F' H' : Hp), σ'.length = n → Same F F' → Rp K pa G F' H' σ' τ' → E.ct σ' H'
  | .ret d => ∀ (v : V) (σ' : L2.St) (F' H' : Hp), σ'.length = n → Same F F' → Rp K pa G F' H' σ' τ' → Dp K F' v d → E.rt v H'
  | .retO ds => ∀ (p : Addr) (σ' : L2.St) (F' H' : Hp), σ'.length = n → Same F F' → Rp K pa G F' H' σ' τ' → Loose K G F' H' σ' τ' p ds → E.rt (.ref p) H'
  | .retC c => ∀ (p : Addr) (σ' : L2.St) (F' H' : Hp), σ'.length = n → Same F F' → Rp K pa G F' H' σ' τ' → LooseC K G F' H' σ' τ' p c → E.rt (.ref p) H'
def AtS (E : Ends) (G F : Hp) (n : Nat) (r : R (Flow × Ev)) : Prop := Gd W XM G F n r fun fl τ' => EndS K pa E G F n τ' fl
def tS (c : CS) : TS := fun E σ H => ∃ (G F : Hp) (τ : Ev), Rp K pa G F H σ τ ∧ AtS K W XM pa E G F σ.length (c τ)
end
section
variable {K : PySem.W.Frag} {W : WX} {XM : Nat → Value} {pa : List Addr}
theorem EndS.mono {E : Ends} {G F F1 : Hp} {n : Nat} {τ : Ev} {fl : Flow} (h : EndS K pa E G F n τ fl) (s : Same F F1) : EndS K pa E G F1 n τ fl := by
  cases fl with
  | next => exact fun σ' F' H' l s' => h σ' F' H' l (Same.trans s s')
  | brk => exact fun σ' F' H' l s' => h σ' F' H' l (Same.trans s s')
  | cont => exact fun σ' F' H' l s' => h σ' F' H' l (Same.trans s s')
  | ret d => exact fun v σ' F' H' l s' => h v σ' F' H' l (Same.trans s s')
  | retO ds => exact fun v σ' F' H' l s' => h v σ' F' H' l (Same.trans s s')
  | retC c => exact fun v σ' F' H' l s' => h v σ' F' H' l (Same.trans s s')
theorem AtS.mono {E : Ends} {G F F1 : Hp} {n : Nat} {r : R (Flow × Ev)} (h : AtS K W XM pa E G F n r) (s : Same F F1) : AtS K W XM pa E G F1 n r := Gd.mono h s fun _ _ k => EndS.mono k s
/-- an expression is read, then the rest of the statement -/
theorem AtS.step {γ δ : Type} {rel1 : Rel γ δ} {E : Ends} {G F H : Hp} {σ : L2.St} {τ : Ev} {c : Ev → R (γ × Ev)} {k : γ × Ev → R (Flow × Ev)} {Q1 : δ → Hp → Prop} (r : Rp K pa G F H σ τ)
    (h : AtS K W XM pa E G F σ.length ((c τ).bind k))
    (g : ∀ (F' H' : Hp) (a : γ) (τ' : Ev) (v : δ), Same F F' → Rp K pa G F' H' σ τ' → rel1 G F' H' σ τ' v a → AtS K W XM pa E G F' σ.length (k (a, τ')) → Q1 v H') : tG K W XM pa rel1 c σ H Q1 := by
  refine ⟨G, F, τ, r, ?_⟩
  unfold AtS at h
  unfold At
  cases e : c τ with
  | ok p =>
    rw [e] at h
    show ∀ (v : δ) (F' H' : Hp), Same F F' → Rp K pa G F' H' σ p.2 → rel1 G F' H' σ p.2 v p.1 → Q1 v H'
    intro v F' H' s r' d
    exact g F' H' p.1 p.2 v s r' d (AtS.mono (K := K) (W := W) (XM := XM) h s)
  | exc x =>
    rw [e] at h
    exact h
  | stuck =>
    rw [e] at h
    exact h.elim
theorem AtS.opt {γ : Type} {E : Ends} {G F : Hp} {n : Nat} {o : Option γ} {k : γ → R (Flow × Ev)} (h : AtS K W XM pa E G F n ((R.ofOpt o).bind k)) : ∃ z, o = some z ∧ AtS K W XM pa E G F n (k z) := by
  cases o with
  | none => exact h.elim
  | some z => exact ⟨z, rfl, h⟩
theorem tS.mk {E : Ends} {G F H : Hp} {σ : L2.St} {τ : Ev} {c : CS} (r : Rp K pa G F H σ τ) (h : AtS K W XM pa E G F σ.length (c τ)) : tS K W XM pa c E σ H := ⟨G, F, τ, r, h⟩
end
section
variable (X : Cx) (W : WX) (XM : Nat → Value) (pa : List Addr)
abbrev SS (st : Stmt) (c : CS) : Prop := PS X st (tS X.K W XM pa c)
abbrev SSs (st : List Stmt) (c : CS) : Prop := PSs X st (tS X.K W XM pa c)
end
section
variable {X : Cx} {W : WX} {XM : Nat → Value} {pa : List Addr}
variable {st : Stmt} {rest : List Stmt} {c cb : CS} {e : Expr} {ce : CE} {co : CO} {pos : Pos}
@[simp] def nextS : CS := fun τ => .ok (.next, τ)
@[simp] def seqS (a b : CS) : CS := fun τ => (a τ).bind fun p => match p.1 with
  | .next => b p.2
  | f => .ok (f, p.2)
theorem ss_nil : SSs X W XM pa [] nextS := pss_nil.imp fun E σ H q => by
  obtain ⟨G, F, τ, r, q⟩ := q
  exact q σ F H rfl (Same.refl _) r
theorem ss_one (h : SS X W XM pa st c) : SSs X W XM pa [st] c := pss_one h
theorem ss_cons (h : SS X W XM pa st c) (h2 : SSs X W XM pa rest cb) : SSs X W XM pa (st :: rest) (seqS c cb) := (pss_cons h h2).imp fun E σ H q => by
  obtain ⟨G, F, τ, r, q⟩ := q
  refine ⟨G, F, τ, r, ?_⟩
  unfold AtS seqS at q
  unfold AtS
  cases e1 : c τ with
  | exc x => rw [e1] at q; exact q
  | stuck => rw [e1] at q; exact q.elim
  | ok p =>
    obtain ⟨fl, τ1⟩ := p
    rw [e1] at q
    cases fl with
    | next =>
      show ∀ (σ' : L2.St) (F' H' : Hp), σ'.length = σ.length → Same F F' → Rp X.K pa G F' H' σ' τ1 → tS X.K W XM pa cb E σ' H'
      intro σ' F' H' l s r'
      have q' : AtS X.K W XM pa E G F σ.length (cb τ1) := q
      exact tS.mk r' (by rw [l]; exact AtS.mono q' s)
    | brk => exact q
    | cont => exact q
    | ret d => exact q
    | retO ds => exact q
    | retC c => exact q
@[simp] def ifS (t : CT) (a b : CS) : CS := fun τ => (t τ).bind fun p => if p.1 = true then a p.2 else b p.2
theorem ss_if {t : Expr} {ct : CT} {as bs : List Stmt} (ht : ST X W XM pa t ct) (ha : SSs X W XM pa as c) (hb : SSs X W XM pa bs cb) : SS X W XM pa (.If t as bs pos) (ifS ct c cb) := (ps_if ht ha hb).imp fun E σ H q => by
  obtain ⟨G, F, τ, r0, q⟩ := q
  refine AtS.step r0 q fun F1 H1 d1 τ1 x s1 r1 h1 q1 => ?_
  cases h1
  cases d1 with
  | true => exact tS.mk (K := X.K) r1 q1
  | false => exact tS.mk (K := X.K) r1 q1
@[simp] def brkS : CS := fun τ => .ok (.brk, τ)
@[simp] def contS : CS := fun τ => .ok (.cont, τ)
theorem ss_pass : SS X W XM pa (.Pass pos) nextS := ps_pass.imp fun E σ H q => by
  obtain ⟨G, F, τ, r, q⟩ := q
  exact q σ F H rfl (Same.refl _) r
theorem ss_brk : SS X W XM pa (.Break pos) brkS := ps_break.imp fun E σ H q => by
  obtain ⟨G, F, τ, r, q⟩ := q
  exact q σ F H rfl (Same.refl _) r
theorem ss_cont : SS X W XM pa (.Continue pos) contS := ps_continue.imp fun E σ H q => by
  obtain ⟨G, F, τ, r, q⟩ := q
  exact q σ F H rfl (Same.refl _) r
@[simp] def exprS (c : CE) : CS := fun τ => (c τ).bind fun p => .ok (.next, p.2)
theorem ss_expr (he : SE X W XM pa e ce) (hs : swapsWith e none pos.line X.env = pure false := by rfl) : SS X W XM pa (.Expr e pos) (exprS ce) := (ps_expr he hs).imp fun E σ H q => by
  obtain ⟨G, F, τ, r0, q⟩ := q
  exact AtS.step r0 q fun F1 H1 d1 τ1 x s1 r1 h1 q1 => q1 σ F1 H1 rfl (Same.refl _) r1
@[simp] def retS (c : CE) : CS := fun τ => (c τ).bind fun p => .ok (.ret p.1, p.2)
theorem ss_ret (he : SE X W XM pa e ce) : SS X W XM pa (.Return (some e) pos) (retS ce) := (ps_ret he).imp fun E σ H q => by
  obtain ⟨G, F, τ, r0, q⟩ := q
  exact AtS.step r0 q fun F1 H1 d1 τ1 x s1 r1 h1 q1 => q1 x σ F1 H1 rfl (Same.refl _) r1 h1
@[simp] def retOS (c : CO) : CS := fun τ => (c τ).bind fun p => .ok (.retO p.1, p.2)
theorem ss_retO (he : SO X W XM pa e co) : SS X W XM pa (.Return (some e) pos) (retOS co) := (ps_ret he).imp fun E σ H q => by
  obtain ⟨G, F, τ, r0, q⟩ := q
  refine AtS.step r0 q fun F1 H1 d1 τ1 x s1 r1 h1 q1 => ?_
  obtain ⟨p, rfl, l⟩ := h1
  exact q1 p σ F1 H1 rfl (Same.refl _) r1 l
@[simp] def retCS (c : CD) : CS := fun τ => (c τ).bind fun p => .ok (.retC p.1, p.2)
theorem ss_retC {cd : CD} (he : SD X W XM pa e cd) : SS X W XM pa (.Return (some e) pos) (retCS cd) := (ps_ret he).imp fun E σ H q => by
  obtain ⟨G, F, τ, r0, q⟩ := q
  refine AtS.step r0 q fun F1 H1 d1 τ1 x s1 r1 h1 q1 => ?_
  obtain ⟨p, rfl, l⟩ := h1
  exact q1 p σ F1 H1 rfl (Same.refl _) r1 l
@[simp] def retNS : CS := fun τ => .ok (.ret .none, τ)
theorem ss_retN : SS X W XM pa (.Return none pos) retNS := ps_retN.imp fun E σ H q => by
  obtain ⟨G, F, τ, r, q⟩ := q
  exact q .non σ F H rfl (Same.refl _) r .non
/-- the list of a slot is handed back -/
@[simp] def mvO (i : Nat) : CO := fun τ => match τ[i]? with
  | some (.own _ (.lst ds)) => .ok (ds, τ.set i .free)
  | _ => .stuck
theorem so_move (i : Nat) {x : Str} (h : PE X (.Name x pos) (tVar i)) : SO X W XM pa (.Name x pos) (mvO i) := h.imp fun σ H Q q => by
  obtain ⟨G, F, τ, r, q⟩ := q
  unfold mvO at q
  cases e1 : τ[i]? with
  | none => rw [e1] at q; exact q.elim
  | some s =>
    cases s with
    | free => rw [e1] at q; exact q.elim
    | val d => rw [e1] at q; exact q.elim
    | own t c =>
      cases c with
     | dct _ _ => rw [e1] at q; exact q.elim
     | lst ds =>
      rw [e1] at q
      obtain ⟨a, h1, h2, h3, h4, h5⟩ := r.ownL i t ds e1
      refine ⟨.ref a, h1, q _ F H (Same.refl _) (r.drop i) ⟨a, rfl, h2, h3, h4, fun j u es hj e2 => ?_⟩⟩
      by_cases hij : i = j
      · subst hij
        rw [List.getElem?_set_self (List.getElem?_eq_some_iff.mp e1).1] at hj
        cases hj
      · rw [List.getElem?_set_ne hij] at hj
        exact hij (r.one i j t ds u es a e1 hj h1 e2)
/-- .. whatever it is -/
@[simp] def mvC (i : Nat) : CD := fun τ => match τ[i]? with
  | some (.own _ c) => .ok (c, τ.set i .free)
  | _ => .stuck
theorem sd_move (i : Nat) {x : Str} (h : PE X (.Name x pos) (tVar i)) : SD X W XM pa (.Name x pos) (mvC i) := h.imp fun σ H Q q => by
  obtain ⟨G, F, τ, r, q⟩ := q
  unfold mvC at q
  cases e1 : τ[i]? with
  | none => rw [e1] at q; exact q.elim
  | some s =>
    cases s with
    | free => rw [e1] at q; exact q.elim
    | val d => rw [e1] at q; exact q.elim
    | own t c =>
      rw [e1] at q
      obtain ⟨a, h1, h2, h3, h4, h5⟩ := r.own i t c e1
      refine ⟨.ref a, h1, q _ F H (Same.refl _) (r.drop i) ⟨a, rfl, h2, h3, h4, fun j u es hj e2 => ?_⟩⟩
      by_cases hij : i = j
      · subst hij
        rw [List.getElem?_set_self (List.getElem?_eq_some_iff.mp e1).1] at hj
        cases hj
      · rw [List.getElem?_set_ne hij] at hj
        exact hij (r.one i j t c u es a e1 hj h1 e2)
/-- from here on slot i is only looked at -/
@[simp] def preS (i : Nat) (c : CS) : CS := fun τ => match τ[i]? with
  | some (.own _ (.lst ds)) => c (τ.set i (.val (.list ds)))
  | _ => .stuck
theorem tS_pre {i : Nat} {E : Ends} {σ : L2.St} {H : Hp} (q : tS X.K W XM pa (preS i c) E σ H) : tS X.K W XM pa c E σ H := by
  obtain ⟨G, F, τ, r, q⟩ := q
  unfold preS at q
  cases e1 : τ[i]? with
  | none => rw [e1] at q; exact q.elim
  | some s =>
    cases s with
    | free => rw [e1] at q; exact q.elim
    | val d => rw [e1] at q; exact q.elim
    | own t c =>
      cases c with
     | dct _ _ => rw [e1] at q; exact q.elim
     | lst ds =>
      rw [e1] at q
      obtain ⟨F', s', r'⟩ := r.freeze e1
      exact tS.mk r' (AtS.mono q s')
theorem ss_pre (i : Nat) (h : SS X W XM pa st c) : SS X W XM pa st (preS i c) := PS.imp h fun _ _ _ q => tS_pre q

/-! ### names are set -/
@[simp] def setS (i : Nat) (c : CE) : CS := fun τ => (c τ).bind fun p => .ok (.next, p.2.set i (.val p.1))
@[simp] def setOS (i : Nat) (c : CO) : CS := fun τ => (c τ).bind fun p => .ok (.next, p.2.set i (.own none p.1))
theorem tSet_of {i : Nat} {E : Ends} {σ : L2.St} {H : Hp} (q : tS X.K W XM pa (setS i ce) E σ H) : tAsg (tG X.K W XM pa (relE X.K) ce) (gName i) E σ H := by
  obtain ⟨G, F, τ, r0, q⟩ := q
  exact AtS.step r0 q fun F1 H1 d1 τ1 x s1 r1 h1 q1 => q1 _ F1 H1 (by simp) (Same.refl _) (r1.setVal h1)
theorem tSetO_of {i : Nat} {E : Ends} {σ : L2.St} {H : Hp} (q : tS X.K W XM pa (setOS i co) E σ H) : tAsg (tG X.K W XM pa (relO X.K) co) (gName i) E σ H := by
  obtain ⟨G, F, τ, r0, q⟩ := q
  refine AtS.step r0 q fun F1 H1 d1 τ1 x s1 r1 h1 q1 => ?_
  obtain ⟨p, rfl, ⟨xs, hx, hd⟩, hf, hg, no⟩ := h1
  exact q1 _ F1 H1 (by simp) (Same.refl _) (r1.setOwn hx hd hf hg no)
@[simp] def setCS (i : Nat) (c : CD) : CS := fun τ => (c τ).bind fun p => .ok (.next, p.2.set i (.own none p.1))
theorem tSetC_of {i : Nat} {cd : CD} {E : Ends} {σ : L2.St} {H : Hp} (q : tS X.K W XM pa (setCS i cd) E σ H) : tAsg (tG X.K W XM pa (relC X.K) cd) (gName i) E σ H := by
  obtain ⟨G, F, τ, r0, q⟩ := q
  refine AtS.step r0 q fun F1 H1 d1 τ1 x s1 r1 h1 q1 => ?_
  obtain ⟨p, rfl, ⟨xs, hx, hd⟩, hf, hg, no⟩ := h1
  exact q1 _ F1 H1 (by simp) (Same.refl _) (r1.setOwnC hx hd hf hg no)
variable {x : Str} {p' : Pos}
theorem ss_setC (i : Nat) {cd : CD} (he : SD X W XM pa e cd) (hN : X.N.Nodup) (hi : X.N[i]? = some x := by rfl) (hx : Loc X.env.scope x := by first | exact .inl rfl | exact .inr rfl) (hs : swapsWith e (some (.Name x p')) pos.line X.env = pure false := by rfl)
    (hf : X.fn x = true ∨ X.env.scope.names.lookup x = some .local := by first | exact .inl rfl | exact .inr rfl) : SS X W XM pa (.Assign [.Name x p'] e pos) (setCS i cd) := (ps_set hN hi hx he hs hf).imp fun _ _ _ q => tSetC_of q
theorem ss_set (i : Nat) (he : SE X W XM pa e ce) (hN : X.N.Nodup) (hi : X.N[i]? = some x := by rfl) (hx : Loc X.env.scope x := by first | exact .inl rfl | exact .inr rfl) (hs : swapsWith e (some (.Name x p')) pos.line X.env = pure false := by rfl)
    (hf : X.fn x = true ∨ X.env.scope.names.lookup x = some .local := by first | exact .inl rfl | exact .inr rfl) : SS X W XM pa (.Assign [.Name x p'] e pos) (setS i ce) := (ps_set hN hi hx he hs hf).imp fun _ _ _ q => tSet_of q
theorem ss_setO (i : Nat) (he : SO X W XM pa e co) (hN : X.N.Nodup) (hi : X.N[i]? = some x := by rfl) (hx : Loc X.env.scope x := by first | exact .inl rfl | exact .inr rfl) (hs : swapsWith e (some (.Name x p')) pos.line X.env = pure false := by rfl)
    (hf : X.fn x = true ∨ X.env.scope.names.lookup x = some .local := by first | exact .inl rfl | exact .inr rfl) : SS X W XM pa (.Assign [.Name x p'] e pos) (setOS i co) := (ps_set hN hi hx he hs hf).imp fun _ _ _ q => tSetO_of q

/-! ### targets -/
section
variable (K : PySem.W.Frag) (pa : List Addr)
def tTg (vs : List Nat) (cg : D → Ev → Option Ev) : TG := fun v σ H Q => ∃ (G F : Hp) (τ : Ev) (d : D), Rp K pa G F H σ τ ∧ Dp K F v d ∧ ∃ τ', cg d τ = some τ' ∧
  ∀ σ' : L2.St, σ'.length = σ.length → (∀ j, j ∉ vs → σ'[j]? = σ[j]?) → Rp K pa G F H σ' τ' → Q σ' H
def tTgs (vs : List Nat) (cg : List D → Ev → Option Ev) : TGs := fun us σ H Q => ∃ (G F : Hp) (τ : Ev) (ds : List D), Rp K pa G F H σ τ ∧ DpAll K F us ds ∧ ∃ τ', cg ds τ = some τ' ∧
  ∀ σ' : L2.St, σ'.length = σ.length → (∀ j, j ∉ vs → σ'[j]? = σ[j]?) → Rp K pa G F H σ' τ' → Q σ' H
end
section
variable (X : Cx) (pa : List Addr)
abbrev SG (tg : Expr) (vs : List Nat) (cg : D → Ev → Option Ev) : Prop := PG X tg (tTg X.K pa vs cg)
abbrev SGs (tg : List Expr) (vs : List Nat) (cg : List D → Ev → Option Ev) : Prop := PGs X tg (tTgs X.K pa vs cg)
end
theorem _root_.L2.PG.imp {X : Cx} {e : Expr} {t t' : TG} (h : PG X e t) (i : ∀ v σ H Q, t' v σ H Q → t v σ H Q) : PG X e t' := ⟨fun pins s σ H v u Q I r q => h.run pins s σ H v u Q I r (i v σ H Q q)⟩
theorem _root_.L2.PGs.imp {X : Cx} {e : List Expr} {t t' : TGs} (h : PGs X e t) (i : ∀ v σ H Q, t' v σ H Q → t v σ H Q) : PGs X e t' := ⟨fun pins s σ H v u Q I r q => h.run pins s σ H v u Q I r (i v σ H Q q)⟩
@[simp] def setG (i : Nat) : D → Ev → Option Ev := fun d τ => some (τ.set i (.val d))
theorem sg_name (i : Nat) (hN : X.N.Nodup) (hi : X.N[i]? = some x := by rfl) (hx : Loc X.env.scope x := by first | exact .inl rfl | exact .inr rfl) (hf : X.fn x = true ∨ X.env.scope.names.lookup x = some .local := by first | exact .inl rfl | exact .inr rfl) : SG X pa (.Name x pos) [i] (setG i) :=
  (pg_name hN hi hx hf).imp fun v σ H Q q => by
    obtain ⟨G, F, τ, d, r, h, τ', e, q⟩ := q
    cases e
    exact q _ (by simp) (fun j hj => List.getElem?_set_ne (by simp at hj; exact fun e => hj e.symm)) (r.setVal h)
def nilG : List D → Ev → Option Ev := fun ds τ => match ds with
  | [] => some τ
  | _ => none
@[simp] theorem nilG_nil (τ : Ev) : nilG [] τ = some τ := rfl
def consG (f : D → Ev → Option Ev) (g : List D → Ev → Option Ev) : List D → Ev → Option Ev := fun ds τ => match ds with
  | [] => none
  | d :: r => (f d τ).bind fun τ' => g r τ'
@[simp] theorem consG_cons (f : D → Ev → Option Ev) (g : List D → Ev → Option Ev) (d : D) (r : List D) (τ : Ev) : consG f g (d :: r) τ = (f d τ).bind fun τ' => g r τ' := rfl
theorem sgs_nil : SGs X pa [] [] nilG := pgs_nil.imp fun us σ H Q q => by
  obtain ⟨G, F, τ, ds, r, h, τ', e, q⟩ := q
  cases ds with
  | nil => cases h; cases e; exact ⟨rfl, q σ rfl (fun _ _ => rfl) r⟩
  | cons d ds => cases e
theorem sgs_cons {es : List Expr} {f : D → Ev → Option Ev} {g : List D → Ev → Option Ev} {vs us : List Nat} (h1 : SG X pa e vs f) (h2 : SGs X pa es us g)
    (hs : (assignEach (e :: es) X.env).map (·.2) = assign e X.env :: (assignEach es X.env).map (·.2) := by rfl) : SGs X pa (e :: es) (vs ++ us) (consG f g) := (pgs_cons h1 h2 hs).imp fun ws σ H Q q => by
  obtain ⟨G, F, τ, ds, r, h, τ', e, q⟩ := q
  cases ds with
  | nil => cases e
  | cons d ds =>
    cases h with
    | @cons v ws _ _ h1 h2 =>
      cases ef : f d τ with
      | none => rw [show consG f g (d :: ds) τ = (f d τ).bind fun τ' => g ds τ' from rfl, ef] at e; cases e
      | some τ1 =>
        rw [show consG f g (d :: ds) τ = (f d τ).bind fun τ' => g ds τ' from rfl, ef] at e
        refine ⟨v, ws, rfl, G, F, τ, d, r, h1, τ1, ef, fun σ1 l1 o1 r1 => ⟨G, F, τ1, ds, r1, h2, τ', e, fun σ2 l2 o2 r2 => q σ2 (l2.trans l1) (fun j hj => ?_) r2⟩⟩
        rw [List.mem_append, not_or] at hj
        rw [o2 j hj.2, o1 j hj.1]
def lstOf : D → Option (List D)
  | .list ds => some ds
  | _ => none
def tupOf : D → Option (List D)
  | .tuple ds => some ds
  | _ => none
@[simp] theorem lstOf_list (ds : List D) : lstOf (.list ds) = some ds := rfl
@[simp] theorem tupOf_tuple (ds : List D) : tupOf (.tuple ds) = some ds := rfl
@[simp] def tupG (g : List D → Ev → Option Ev) : D → Ev → Option Ev := fun d τ => (tupOf d).bind fun ds => g ds τ
theorem sg_tup {es : List Expr} {k : Nat} {vs : List Nat} {g : List D → Ev → Option Ev} {n : Nat} (hc : X.calm = true) (h : SGs X pa es vs g) (hl : ∀ ds τ τ', g ds τ = some τ' → ds.length = n)
    (hn : (assignEach es X.env).length = n := by rfl) (hst : (assignEach es X.env).findIdx? (·.1) = none := by rfl) : SG X pa (.Tuple es k pos) vs (tupG g) := (pg_tup hc h hn hst).imp fun v σ H Q q => by
  obtain ⟨G, F, τ, d, r, h, τ', e, q⟩ := q
  cases h with
  | @tup a xs ds hs ha =>
    exact ⟨a, xs, rfl, same_sqT r.z.fh (SqT.of hs), (DpAll.length ha).trans (hl _ _ _ e), G, F, τ, ds, r, ha, τ', e, q⟩
  | non => cases e
  | bl _ => cases e
  | int _ => cases e
  | str _ => cases e
  | dcK _ _ => cases e
  | dcT _ _ => cases e
  | adr _ => cases e
  | obj _ _ _ _ => cases e
  | fn _ _ => cases e
  | lst _ _ => cases e
theorem nilG_len {ds : List D} {τ τ' : Ev} (h : nilG ds τ = some τ') : ds.length = 0 := by
  cases ds with
  | nil => rfl
  | cons _ _ => cases h
theorem consG_len {f : D → Ev → Option Ev} {g : List D → Ev → Option Ev} {n : Nat} (hg : ∀ ds τ τ', g ds τ = some τ' → ds.length = n) {ds : List D} {τ τ' : Ev} (h : consG f g ds τ = some τ') : ds.length = n + 1 := by
  cases ds with
  | nil => cases h
  | cons d ds =>
    cases ef : f d τ with
    | none => rw [show consG f g (d :: ds) τ = (f d τ).bind fun τ' => g ds τ' from rfl, ef] at h; cases h
    | some τ1 =>
      rw [show consG f g (d :: ds) τ = (f d τ).bind fun τ' => g ds τ' from rfl, ef] at h
      rw [List.length_cons, hg _ _ _ h]
/-- target = e, any target -/
@[simp] def asgS (c : CE) (g : D → Ev → Option Ev) : CS := fun τ => (c τ).bind fun p => (R.ofOpt (g p.1 p.2)).bind fun τ' => .ok (.next, τ')
theorem ss_asg {tg : Expr} {vs : List Nat} {g : D → Ev → Option Ev} (he : SE X W XM pa e ce) (hg : SG X pa tg vs g) (hs : swapsWithSole [tg] e pos.line X.env = pure false := by rfl) (hw : swappedStores [tg] e X.env = pure none := by rfl)
    (h1 : (assignEach [tg] X.env).map (·.2) = [assign tg X.env] := by rfl) : SS X W XM pa (.Assign [tg] e pos) (asgS ce g) := (ps_asg he hg hs hw h1).imp fun E σ H q => by
  obtain ⟨G, F, τ, r0, q⟩ := q
  refine AtS.step r0 q fun F1 H1 d1 τ1 x s1 r1 h1 q1 => ?_
  obtain ⟨τ2, e2, q2⟩ := AtS.opt q1
  exact ⟨G, F1, τ1, d1, r1, h1, τ2, e2, fun σ' l o r' => q2 σ' F1 H1 l (Same.refl _) r'⟩

/-! ### what is walked -/
structure Walk (K : PySem.W.Frag) (F : Hp) (J : It) (ds : List D) : Prop where
  go : ∀ (F' H' : Hp) (i : Nat) (d : D), Same F F' → Same F' H' → ds[i]? = some d → J.go i H' ∧ ∀ x H2, J.yld i H' x H2 → ∃ F2, Ext F' H' F2 H2 ∧ Dp K F2 x d
  stop : ∀ (F' H' : Hp) (i : Nat), Same F F' → Same F' H' → ds.length ≤ i → J.stop i H'
def relI (K : PySem.W.Frag) : Rel (List D) It := fun _ F _ _ _ J ds => Walk K F J ds
section
variable (X : Cx) (W : WX) (XM : Nat → Value) (pa : List Addr)
abbrev SI (tg iter : Expr) (c : CA) : Prop := PI X tg iter (tG X.K W XM pa (relI X.K) c)
end
theorem _root_.L2.PI.imp {X : Cx} {tg iter : Expr} {t t' : TI} (h : PI X tg iter t) (i : ∀ σ H Q, t' σ H Q → t σ H Q) : PI X tg iter t' := ⟨fun pins s σ H R I q => h.run pins s σ H R I (i σ H R q)⟩
@[simp] def lstI (c : CE) : CA := fun τ => (c τ).bind fun p => (R.ofOpt (lstOf p.1)).bind fun ds => .ok (ds, p.2)
@[simp] def tupI (c : CE) : CA := fun τ => (c τ).bind fun p => (R.ofOpt (tupOf p.1)).bind fun ds => .ok (ds, p.2)
theorem walk_list {K : PySem.W.Frag} {F : Hp} {a : Addr} {xs : List V} {ds : List D} (h : SqL K F a xs) (hd : DpAll K F xs ds) : Walk K F (Itl K a) ds where
  go := fun F' H' i d s s' e => by
    obtain ⟨v, e1, hv⟩ := hd.get e
    have hH := same_sqL (Same.trans s s') h
    refine ⟨⟨xs, v, hH, e1⟩, fun x H2 y => ?_⟩
    obtain ⟨rfl, y⟩ := y
    have e2 := y xs hH
    rw [e1] at e2
    cases e2
    exact ⟨F', Ext.refl s', hv.up s⟩
  stop := fun F' H' i s s' e => ⟨xs, same_sqL (Same.trans s s') h, by rw [hd.length]; exact e⟩
theorem walk_tup {K : PySem.W.Frag} {F : Hp} {a : Addr} {xs : List V} {ds : List D} (h : SqT K F a xs) (hd : DpAll K F xs ds) : Walk K F (Itt K a) ds where
  go := fun F' H' i d s s' e => by
    obtain ⟨v, e1, hv⟩ := hd.get e
    have hH := same_sqT (Same.trans s s') h
    refine ⟨⟨xs, v, hH, e1⟩, fun x H2 y => ?_⟩
    obtain ⟨rfl, y⟩ := y
    have e2 := y xs hH
    rw [e1] at e2
    cases e2
    exact ⟨F', Ext.refl s', hv.up s⟩
  stop := fun F' H' i s s' e => ⟨xs, same_sqT (Same.trans s s') h, by rw [hd.length]; exact e⟩
variable {tg iter : Expr}
theorem si_list (h : SE X W XM pa iter ce) : SI X W XM pa tg iter (lstI ce) := (pi_list h).imp fun σ H Q q => by
  obtain ⟨G, F, τ, r0, q⟩ := q
  refine At.step r0 q fun F1 H1 d1 τ1 x s1 r1 h1 q1 => ?_
  cases h1 with
  | @lst a xs ds hs ha => exact ⟨a, rfl, ⟨xs, same_sqL r1.z.fh hs⟩, q1 _ F1 H1 (Same.refl _) r1 (walk_list hs ha)⟩
  | tup _ _ => exact q1.elim
  | non => exact q1.elim
  | bl _ => exact q1.elim
  | int _ => exact q1.elim
  | str _ => exact q1.elim
  | dcK _ _ => exact q1.elim
  | dcT _ _ => exact q1.elim
  | adr _ => exact q1.elim
  | obj _ _ _ _ => exact q1.elim
  | fn _ _ => exact q1.elim
theorem si_tup (h : SE X W XM pa iter ce) : SI X W XM pa tg iter (tupI ce) := (pi_tup h).imp fun σ H Q q => by
  obtain ⟨G, F, τ, r0, q⟩ := q
  refine At.step r0 q fun F1 H1 d1 τ1 x s1 r1 h1 q1 => ?_
  cases h1 with
  | @tup a xs ds hs ha => exact ⟨a, rfl, ⟨xs, same_sqT r1.z.fh (SqT.of hs)⟩, q1 _ F1 H1 (Same.refl _) r1 (walk_tup (SqT.of hs) ha)⟩
  | lst _ _ => exact q1.elim
  | non => exact q1.elim
  | bl _ => exact q1.elim
  | int _ => exact q1.elim
  | str _ => exact q1.elim
  | dcK _ _ => exact q1.elim
  | dcT _ _ => exact q1.elim
  | adr _ => exact q1.elim
  | obj _ _ _ _ => exact q1.elim
  | fn _ _ => exact q1.elim
/-- lo, .., hi - 1 -/
def rngD (lo hi : Int) : List D := (List.range (hi - lo).toNat).map fun k => .int (lo + (k : Nat))
theorem rngD_get {lo hi : Int} {i : Nat} {d : D} (h : (rngD lo hi)[i]? = some d) : i < (hi - lo).toNat ∧ d = .int (lo + (i : Nat)) := by
  unfold rngD at h
  rw [List.getElem?_map] at h
  cases e : (List.range (hi - lo).toNat)[i]? with
  | none => rw [e] at h; cases h
  | some k =>
    rw [e] at h
    obtain ⟨l, e'⟩ := List.getElem?_eq_some_iff.mp e
    rw [List.getElem_range] at e'
    subst e'
    rw [List.length_range] at l
    exact ⟨l, (Option.some.inj h).symm⟩
@[simp] theorem rngD_length (lo hi : Int) : (rngD lo hi).length = (hi - lo).toNat := by simp [rngD]
theorem walk_range {K : PySem.W.Frag} {F : Hp} (lo hi : Int) : Walk K F (Itr lo (hi - lo).toNat) (rngD lo hi) where
  go := fun F' H' i d s s' e => by
    obtain ⟨l, rfl⟩ := rngD_get e
    refine ⟨l, fun x H2 y => ?_⟩
    obtain ⟨rfl, rfl⟩ := y
    exact ⟨F', Ext.refl s', .int _⟩
  stop := fun F' H' i s s' e => by
    rw [rngD_length] at e
    exact e
def small (i : Int) : Bool := decide (-1000000 ≤ i ∧ i ≤ 1000000)
def get1 : List D → Option Int
  | [.int j] => if small j = true then some j else none
  | _ => none
def get2 : List D → Option (Int × Int)
  | [.int i, .int j] => if small i = true ∧ small j = true then some (i, j) else none
  | _ => none
@[simp] theorem get1_int (j : Int) : get1 [.int j] = if small j = true then some j else none := rfl
@[simp] theorem get2_int (i j : Int) : get2 [.int i, .int j] = if small i = true ∧ small j = true then some (i, j) else none := rfl
theorem get1_some {ds : List D} {j : Int} (h : get1 ds = some j) : ds = [.int j] ∧ small j = true := by
  unfold get1 at h
  split at h
  · split at h
    · rename_i hz
      cases h
      exact ⟨rfl, hz⟩
    · cases h
  · cases h
theorem get2_some {ds : List D} {i j : Int} (h : get2 ds = some (i, j)) : ds = [.int i, .int j] ∧ small i = true ∧ small j = true := by
  unfold get2 at h
  split at h
  · split at h
    · rename_i hz
      cases h
      exact ⟨rfl, hz⟩
    · cases h
  · cases h
@[simp] def rng1I (c : CA) : CA := fun τ => (c τ).bind fun p => (R.ofOpt (get1 p.1)).bind fun j => .ok (rngD 0 j, p.2)
@[simp] def rng2I (c : CA) : CA := fun τ => (c τ).bind fun p => (R.ofOpt (get2 p.1)).bind fun q => .ok (rngD q.1 q.2, p.2)
theorem small_iff {i : Int} : small i = true ↔ -1000000 ≤ i ∧ i ≤ 1000000 := by simp [small]
variable {p pa0 : Pos} {a b : Expr} {cr : CA}
theorem si_range1 (hg : Gl X "range") (hm : X.mg "range" = none) (ha : SA X W XM pa [a] cr) (hs : starEach [a] X.env = [(false, eval a X.env)] := by rfl) : SI X W XM pa tg (.Call (.Name "range" p) [a] [] pos) (rng1I cr) := (pi_range1 hg hm ha hs).imp fun σ H Q q => by
  obtain ⟨G, F, τ, r0, q⟩ := q
  refine At.step r0 q fun F1 H1 d1 τ1 x s1 r1 h1 q1 => ?_
  obtain ⟨j, e1, q1⟩ := At.opt q1
  obtain ⟨rfl, hz⟩ := get1_some e1
  cases h1 with
  | cons h1 h2 =>
    cases h2
    cases h1
    obtain ⟨z1, z2⟩ := small_iff.mp hz
    refine ⟨j, rfl, by omega, by omega, ?_⟩
    have e : j.toNat = (j - 0).toNat := by omega
    rw [e]
    exact q1 _ F1 H1 (Same.refl _) r1 (walk_range 0 j)
theorem si_range2 (hg : Gl X "range") (hm : X.mg "range" = none) (ha : SA X W XM pa [a, b] cr) (hs : starEach [a, b] X.env = [(false, eval a X.env), (false, eval b X.env)] := by rfl) (hs2 : starEach [b] X.env = [(false, eval b X.env)] := by rfl) :
    SI X W XM pa tg (.Call (.Name "range" p) [a, b] [] pos) (rng2I cr) := (pi_range2 hg hm ha hs hs2).imp fun σ H Q q => by
  obtain ⟨G, F, τ, r0, q⟩ := q
  refine At.step r0 q fun F1 H1 d1 τ1 x s1 r1 h1 q1 => ?_
  obtain ⟨⟨i, j⟩, e1, q1⟩ := At.opt q1
  obtain ⟨rfl, zi, zj⟩ := get2_some e1
  cases h1 with
  | cons h1 h2 =>
    cases h2 with
    | cons h2 h3 =>
      cases h3
      cases h1
      cases h2
      obtain ⟨z1, z2⟩ := small_iff.mp zi
      obtain ⟨z3, z4⟩ := small_iff.mp zj
      exact ⟨i, j, rfl, ⟨by omega, by omega, by omega, by omega⟩, q1 _ F1 H1 (Same.refl _) r1 (walk_range i j)⟩

/-! ### for -/
def loopS (b : D → CS) : List D → CS
  | [], τ => .ok (.next, τ)
  | d :: ds, τ => (b d τ).bind fun p => match p.1 with
    | .next => loopS b ds p.2
    | .cont => loopS b ds p.2
    | .brk => .ok (.next, p.2)
    | f => .ok (f, p.2)
@[simp] def bodyS (g : D → Ev → Option Ev) (c : CS) : D → CS := fun d τ => (R.ofOpt (g d τ)).bind c
@[simp] def forS (ci : CA) (g : D → Ev → Option Ev) (c : CS) : CS := fun τ => (ci τ).bind fun p => loopS (bodyS g c) p.1 p.2
theorem ss_for {body : List Stmt} {ci : CA} {g : D → Ev → Option Ev} {vs : List Nat} (hp : PassesOwn (model X.prog X.w) X.A X.env X.xe) (hc : X.calm = true) (hi : SI X W XM pa tg iter ci) (hg : SG X pa tg vs g) (hb : SSs X W XM pa body c)
    (hs : ∀ x, foldedSetIterable iter X.env x = pure x := by intro _; rfl) : SS X W XM pa (.For tg iter body [] pos) (forS ci g c) := (ps_for hp hc hi hg hb hs).imp fun E σ H q => by
  obtain ⟨G, F, τ, r0, q⟩ := q
  refine AtS.step r0 q fun F1 H1 ds τ1 J s1 r1 wk q1 => ?_
  refine ⟨fun i m σ' H' => m = ds.length - i ∧ i ≤ ds.length ∧ σ'.length = σ.length ∧ ∃ (F' : Hp) (τ' : Ev), Same F1 F' ∧ Rp X.K pa G F' H' σ' τ' ∧ AtS X.K W XM pa E G F' σ.length (loopS (bodyS g c) (ds.drop i) τ'), ⟨_, rfl, Nat.zero_le _, rfl, F1, τ1, Same.refl _, r1, q1⟩, ?_⟩
  rintro i m σ' H' ⟨rfl, hi, hl, F', τ', s', r', q'⟩
  by_cases hlt : i < ds.length
  · right
    obtain ⟨d, hd⟩ : ∃ d, ds[i]? = some d := ⟨ds[i], List.getElem?_eq_getElem hlt⟩
    have ed : ds.drop i = d :: ds.drop (i + 1) := by
      rw [List.drop_eq_getElem_cons hlt]
      rw [List.getElem?_eq_getElem hlt] at hd
      rw [Option.some.inj hd]
    obtain ⟨go, yl⟩ := wk.go F' H' i d s' r'.z.fh hd
    rw [ed] at q'
    refine ⟨go, fun σ2 H2 => ∃ m', m' < ds.length - i ∧ (m' = ds.length - (i + 1) ∧ i + 1 ≤ ds.length ∧ σ2.length = σ.length ∧ ∃ (F2 : Hp) (τ2 : Ev), Same F1 F2 ∧ Rp X.K pa G F2 H2 σ2 τ2 ∧ AtS X.K W XM pa E G F2 σ.length (loopS (bodyS g c) (ds.drop (i + 1)) τ2)), fun σ2 H2 h => h, fun x H2 y => ?_⟩
    obtain ⟨F2, ex, hx⟩ := yl x H2 y
    have r2 := r'.ext ex
    have q2 := AtS.mono q' ex.ff
    unfold loopS bodyS at q2
    have q3 : AtS X.K W XM pa E G F2 σ.length ((R.ofOpt (g d τ')).bind fun τ2 => (c τ2).bind fun p => match p.1 with
      | .next => loopS (bodyS g c) (ds.drop (i + 1)) p.2
      | .cont => loopS (bodyS g c) (ds.drop (i + 1)) p.2
      | .brk => .ok (.next, p.2)
      | f => .ok (f, p.2)) := by
      cases e1 : g d τ' with
      | none => rw [e1] at q2; exact q2.elim
      | some τ2 => rw [e1] at q2; exact q2
    obtain ⟨τ2, e2, q4⟩ := AtS.opt q3
    refine ⟨G, F2, τ', d, r2, hx, τ2, e2, fun σ3 l3 o3 r3 => ?_⟩
    refine tS.mk (K := X.K) r3 ?_
    have hl3 : σ3.length = σ.length := l3.trans hl
    rw [hl3]
    revert q4
    unfold AtS
    cases e5 : c τ2 with
    | exc x => exact fun q4 => q4
    | stuck => exact fun q4 => q4.elim
    | ok p =>
      obtain ⟨fl, τ5⟩ := p
      cases fl with
      | next => exact fun q4 σ5 F5 H5 l5 s5 r5 => ⟨ds.length - (i + 1), by omega, rfl, hlt, l5, F5, τ5, Same.trans (Same.trans s' ex.ff) s5, r5, AtS.mono (K := X.K) q4 s5⟩
      | cont => exact fun q4 σ5 F5 H5 l5 s5 r5 => ⟨ds.length - (i + 1), by omega, rfl, hlt, l5, F5, τ5, Same.trans (Same.trans s' ex.ff) s5, r5, AtS.mono (K := X.K) q4 s5⟩
      | brk => exact fun q4 => q4
      | ret d => exact fun q4 => q4
      | retO d => exact fun q4 => q4
      | retC d => exact fun q4 => q4
  · left
    have e : i = ds.length := by omega
    refine ⟨wk.stop F' H' i s' r'.z.fh (by omega), ?_⟩
    rw [e, List.drop_length] at q'
    exact q' σ' F' H' hl (Same.refl _) r'

/-! ### list comprehensions -/
@[simp] def wipeE (τ : Ev) : List Nat → Ev
  | [] => τ
  | v :: vs => (wipeE τ vs).set v .free
theorem Rp.wiped {K : PySem.W.Frag} {G F H : Hp} {σ : L2.St} {τ : Ev} (r : Rp K pa G F H σ τ) : ∀ vs : List Nat, Rp K pa G F H σ (wipeE τ vs)
  | [] => r
  | v :: vs => (Rp.wiped r vs).drop v
theorem wipeE_length (τ : Ev) : ∀ vs : List Nat, (wipeE τ vs).length = τ.length
  | [] => rfl
  | v :: vs => by unfold wipeE; rw [List.length_set, wipeE_length τ vs]
theorem wipeE_in {τ : Ev} {i : Nat} {s : Slot} : ∀ {vs : List Nat}, (wipeE τ vs)[i]? = some s → i ∈ vs → s = .free
  | [], _, h => by cases h
  | v :: vs, e, h => by
    unfold wipeE at e
    by_cases hv : v = i
    · subst hv
      by_cases hl : v < (wipeE τ vs).length
      · rw [List.getElem?_set_self hl] at e
        cases e
        rfl
      · rw [List.getElem?_eq_none (by simpa using hl)] at e; cases e
    · rw [List.getElem?_set_ne hv] at e
      exact wipeE_in e ((List.mem_cons.mp h).resolve_left (fun z => hv z.symm))
/-- the same slots but for those that are wiped anyway -/
theorem Rp.slots {K : PySem.W.Frag} {G F H : Hp} {σ σ' : L2.St} {τ : Ev} (r : Rp K pa G F H σ τ) (hl : σ'.length = σ.length) (h : ∀ (i : Nat) s, τ[i]? = some s → (s = .free ∨ σ'[i]? = σ[i]?)) : Rp K pa G F H σ' τ := by
  have ow : ∀ {i : Nat} {t ds}, τ[i]? = some (Slot.own t ds) → σ'[i]? = σ[i]? := fun {i t ds} e => (h i _ e).resolve_left (fun z => nomatch z)
  refine ⟨r.z, hl.trans r.len, fun i d e => ?_, fun i t ds e => ?_, fun i j t ds u es a e1 e2 e3 e4 => ?_⟩
  · rw [(h i _ e).resolve_left (fun z => nomatch z)]
    exact r.val i d e
  · rw [ow e]
    exact r.own i t ds e
  · rw [ow e1] at e3
    rw [ow e2] at e4
    exact r.one i j t ds u es a e1 e2 e3 e4
theorem wipe_get (σ : L2.St) (i : Nat) : ∀ vs : List Nat, (wipe σ vs)[i]? = if i ∈ vs then (if i < σ.length then some none else none) else σ[i]?
  | [] => by simp [wipe]
  | v :: vs => by
    have ih := wipe_get σ i vs
    unfold wipe
    by_cases hv : v = i
    · subst hv
      by_cases hl : v < σ.length
      · rw [List.getElem?_set_self (by rw [wipe_length]; exact hl)]
        simp [hl]
      · rw [List.getElem?_eq_none (by rw [List.length_set, wipe_length]; omega)]
        simp [hl]
    · rw [List.getElem?_set_ne hv, ih]
      have hv' : ¬ i = v := fun q => hv q.symm
      by_cases hi : i ∈ vs
      · simp [hi]
      · simp [hi, hv']
theorem wipe_eq {σ σ' : L2.St} {vs : List Nat} (hl : σ'.length = σ.length) (h : ∀ j, j ∉ vs → σ'[j]? = σ[j]?) : wipe σ' vs = wipe σ vs := by
  apply List.ext_getElem?
  intro i
  rw [wipe_get, wipe_get, hl]
  by_cases hi : i ∈ vs
  · rw [if_pos hi, if_pos hi]
  · rw [if_neg hi, if_neg hi, h i hi]
theorem wipe_wipe (σ : L2.St) (vs : List Nat) : wipe (wipe σ vs) vs = wipe σ vs := wipe_eq (wipe_length σ vs) fun j hj => by rw [wipe_get, if_neg hj]
theorem Rp.wipeSt {K : PySem.W.Frag} {G F H : Hp} {σ : L2.St} {τ : Ev} (r : Rp K pa G F H σ τ) (vs : List Nat) : Rp K pa G F H (wipe σ vs) (wipeE τ vs) := (r.wiped vs).slots (wipe_length σ vs) fun i s e => by
  by_cases hi : i ∈ vs
  · exact .inl (wipeE_in e hi)
  · exact .inr (by rw [wipe_get, if_neg hi])
theorem Rp.unwipeSt {K : PySem.W.Frag} {G F H : Hp} {σ σ' : L2.St} {τ : Ev} {vs : List Nat} (r : Rp K pa G F H σ' τ) (e : wipe σ' vs = wipe σ vs) (hl : σ'.length = σ.length) : Rp K pa G F H σ (wipeE τ vs) := (r.wiped vs).slots hl.symm fun i s h => by
  by_cases hi : i ∈ vs
  · exact .inl (wipeE_in h hi)
  · right
    have q := congrArg (fun l : L2.St => l[i]?) e
    simp only [wipe_get, if_neg hi] at q
    exact q.symm
/-- others own one object more -/
theorem Rp.lend {K : PySem.W.Frag} {G F H : Hp} {σ : L2.St} {τ : Ev} {p : Addr} {o : HO} (r : Rp K pa G F H σ τ) (hp : H p = some o) (hf : F p = none) (hn : NoOwn σ τ p) : Rp K pa (upd G p o) F H σ τ := by
  refine ⟨⟨r.z.fh, fun b u e => ?_, fun b hb => ?_⟩, r.len, r.val, fun i t ds h => ?_, r.one⟩
  · by_cases q : b = p
    · subst q
      rw [upd_same] at e
      cases e
      exact hp
    · rw [upd_ne q] at e
      exact r.z.gh b u e
  · have q : b ≠ p := fun q => by
      subst q
      exact hb.1 hf
    rw [upd_ne q]
    exact r.z.fg b hb
  · obtain ⟨a, h1, h2, h3, h4, h5⟩ := r.own i t ds h
    have q : a ≠ p := fun q => by
      subst q
      exact hn i t ds h h1
    exact ⟨a, h1, h2, h3, by rw [upd_ne q]; exact h4, h5⟩
/-- .. and has it back -/
theorem Rp.back {K : PySem.W.Frag} {G F H : Hp} {σ : L2.St} {τ : Ev} {p : Addr} {o : HO} (r : Rp K pa (upd G p o) F H σ τ) (hg : G p = none) (ho : ∀ xs, o ≠ .tup xs := by intro _ h; cases h) : Rp K pa G F H σ τ ∧ H p = some o ∧ F p = none ∧ NoOwn σ τ p := by
  have gle : ∀ b, upd G p o b = none → G b = none := fun b e => by
    by_cases q : b = p
    · subst q
      exact hg
    · rw [upd_ne q] at e
      exact e
  refine ⟨⟨⟨r.z.fh, fun b u e => r.z.gh b u ?_, fun b hb => gle b (r.z.fg b hb)⟩, r.len, r.val, fun i t ds h => ?_, r.one⟩, r.z.gh _ _ upd_same, ?_, fun i t ds h e => ?_⟩
  · have q : b ≠ p := fun q => by
      subst q
      rw [hg] at e
      cases e
    rw [upd_ne q]
    exact e
  · obtain ⟨a, h1, h2, h3, h4, h5⟩ := r.own i t ds h
    exact ⟨a, h1, h2, h3, gle a h4, h5⟩
  · cases q : F p with
    | none => rfl
    | some u =>
      have := r.z.fg p (NT.some q fun xs z => by
        subst z
        have e1 := r.z.fh _ _ q
        rw [r.z.gh _ _ upd_same] at e1
        cases e1
        exact ho xs rfl)
      rw [upd_same] at this
      cases this
  · obtain ⟨a, h1, h2, h3, h4, h5⟩ := r.own i t ds h
    rw [e] at h1
    cases h1
    rw [upd_same] at h4
    cases h4
/-- the lent object changes -/
theorem Rp.lent {K : PySem.W.Frag} {G F H : Hp} {σ : L2.St} {τ : Ev} {p : Addr} {o o' : HO} (r : Rp K pa (upd G p o) F H σ τ) (ho : ∀ xs, o ≠ .tup xs := by intro _ h; cases h) : Rp K pa (upd G p o') F (upd H p o') σ τ := by
  have fp : F p = none := by
    cases q : F p with
    | none => rfl
    | some u =>
      have := r.z.fg p (NT.some q fun xs z => by
        subst z
        have e1 := r.z.fh _ _ q
        rw [r.z.gh _ _ upd_same] at e1
        cases e1
        exact ho xs rfl)
      rw [upd_same] at this
      cases this
  have gl : ∀ b, upd G p o b = none → b ≠ p ∧ upd G p o' b = none := fun b e => by
    by_cases q : b = p
    · subst q
      rw [upd_same] at e
      cases e
    · rw [upd_ne q] at e ⊢
      exact ⟨q, e⟩
  refine ⟨⟨Same.upd r.z.fh fp, fun b u e => ?_, fun b hb => (gl b (r.z.fg b hb)).2⟩, r.len, r.val, fun i t ds h => ?_, r.one⟩
  · by_cases q : b = p
    · subst q
      rw [upd_same] at e ⊢
      exact e
    · rw [upd_ne q] at e ⊢
      exact r.z.gh b u (by rw [upd_ne q]; exact e)
  · obtain ⟨a, h1, ⟨xs, h2, h6⟩, h3, h4, h5⟩ := r.own i t ds h
    obtain ⟨q, h7⟩ := gl a h4
    exact ⟨a, h1, ⟨xs, by rw [upd_ne q]; exact h2, h6⟩, h3, h7, h5⟩
@[simp] def yesT : CT := fun τ => .ok (true, τ)
def lcLoop (vs : List Nat) (g : D → Ev → Option Ev) (ct : CT) (ce : CE) : List D → List D → CO
  | [], acc, τ => .ok (acc, τ)
  | d :: ds, acc, τ => (R.ofOpt (g d τ)).bind fun τ1 => (ct τ1).bind fun p => if p.1 = true then (ce p.2).bind fun q => if sized (acc.length + 1) = true then lcLoop vs g ct ce ds (acc ++ [q.1]) (wipeE q.2 vs) else .stuck
      else lcLoop vs g ct ce ds acc (wipeE p.2 vs)
@[simp] def R.noexc {α : Type} : R α → R α
  | .exc _ => .stuck
  | r => r
@[simp] def lcO (vs : List Nat) (ci : CA) (g : D → Ev → Option Ev) (ct : CT) (ce : CE) : CO := fun τ => (ci τ).bind fun p => (R.noexc (lcLoop vs g ct ce p.1 [] (wipeE p.2 vs))).bind fun q => .ok (q.1, wipeE q.2 vs)
abbrev W0 : WX := fun _ _ _ _ => False
/-- the first part is read, the rest is still to be -/
theorem Gd.step {K : PySem.W.Frag} {γ δ α : Type} {rel1 : Rel γ δ} {G F H : Hp} {σ : L2.St} {τ : Ev} {c : Ev → R (γ × Ev)} {k : γ × Ev → R (α × Ev)} {post : Hp → α → Ev → Prop} {Q1 : δ → Hp → Prop} (r : Rp K pa G F H σ τ) (n : Nat) (hn : σ.length = n)
    (h : Gd W XM G F n ((c τ).bind k) (post F)) (hm : ∀ F F1 a τ, Same F F1 → post F a τ → post F1 a τ)
    (g : ∀ (F' H' : Hp) (a : γ) (τ' : Ev) (v : δ), Same F F' → Rp K pa G F' H' σ τ' → rel1 G F' H' σ τ' v a → Gd W XM G F' n (k (a, τ')) (post F') → Q1 v H') : tG K W XM pa rel1 c σ H Q1 := by
  subst hn
  refine ⟨G, F, τ, r, ?_⟩
  unfold At
  cases e : c τ with
  | ok p =>
    rw [e] at h
    show ∀ (v : δ) (F' H' : Hp), Same F F' → Rp K pa G F' H' σ p.2 → rel1 G F' H' σ p.2 v p.1 → Q1 v H'
    intro v F' H' s r' d
    exact g F' H' p.1 p.2 v s r' d (Gd.mono h s fun a τ x => hm _ _ _ _ s x)
  | exc x =>
    rw [e] at h
    exact h
  | stuck =>
    rw [e] at h
    exact h.elim
theorem tLc_of {vs : List Nat} {ci : CA} {g : D → Ev → Option Ev} {ct : CT} {σ : L2.St} {H : Hp} {Q : VK} (q : tG X.K W XM pa (relO X.K) (lcO vs ci g ct ce) σ H Q) :
    tLc (tG X.K W XM pa (relI X.K) ci) (tTg X.K pa vs g) (tG X.K W0 XM pa relB ct) (tG X.K W0 XM pa (relE X.K) ce) vs σ H Q := by
  obtain ⟨G, F, τ, r0, q⟩ := q
  refine At.step r0 q fun F1 H1 ds τ1 J s1 r1 wk q1 => ?_
  intro L hL
  have fL : F1 L = none := Same.free r1.z.fh hL
  have gL : G L = none := Same.free r1.z.gh hL
  have wl : (wipe σ vs).length = σ.length := wipe_length σ vs
  -- what is wanted behind the last item
  let post : Hp → List D → Ev → Prop := fun F' es τ'' => ∀ (F2 H2 : Hp) (ys : List V), Same F' F2 → Rp X.K pa (upd G L (.lst ys)) F2 H2 (wipe σ vs) τ'' → DpAll X.K F2 ys es → Q (.ref L) H2
  have hm : ∀ F F1 a τ, Same F F1 → post F a τ → post F1 a τ := fun F F1 a τ s h F2 H2 ys s2 => h F2 H2 ys (Same.trans s s2)
  have gd : ∀ {G1 G2 F' : Hp} {r : R (List D × Ev)}, Gd W0 XM G1 F' σ.length r (post F') → (∀ e, r ≠ .exc e) → Gd W0 XM G2 F' σ.length r (post F') := fun {G1 G2 F' r} h hn => by
    cases r with
    | ok p => exact h
    | exc e => exact absurd rfl (hn e)
    | stuck => exact h
  -- behind i items: acc made so far, the rest still to come
  refine ⟨fun i m H' => m = ds.length - i ∧ i ≤ ds.length ∧ ∃ (F' : Hp) (τ' : Ev) (acc : List D) (xs : List V), Same F1 F' ∧ Rp X.K pa (upd G L (.lst xs)) F' H' (wipe σ vs) τ' ∧ DpAll X.K F' xs acc ∧
    Gd W0 XM (upd G L (.lst xs)) F' σ.length (R.noexc (lcLoop vs g ct ce (ds.drop i) acc τ')) (post F'), ?_, ?_⟩
  · refine ⟨ds.length, by simp, Nat.zero_le _, F1, wipeE τ1 vs, [], [], Same.refl _, ?_, .nil, ?_⟩
    · have r2 : Rp X.K pa G F1 (upd H1 L (.lst [])) σ τ1 := r1.ext (Ext.newH r1.z.fh hL)
      exact (r2.lend upd_same fL (r1.noOwn_new hL)).wipeSt vs
    · rw [List.drop_zero]
      revert q1
      show At X.K W XM pa (relO X.K) G F1 σ ((R.noexc (lcLoop vs g ct ce ds [] (wipeE τ1 vs))).bind fun q => .ok (q.1, wipeE q.2 vs)) Q → _
      cases lcLoop vs g ct ce ds [] (wipeE τ1 vs) with
      | exc x => exact fun z => z.elim
      | stuck => exact fun z => z.elim
      | ok pq =>
        intro q1 F2 H2 ys s2 r2 hd2
        have r3 : Rp X.K pa (upd G L (.lst ys)) F2 H2 σ (wipeE pq.2 vs) := r2.unwipeSt (wipe_wipe σ vs) wl
        obtain ⟨r4, h3, h4, h5⟩ := r3.back gL
        exact q1 _ F2 H2 s2 r4 ⟨L, rfl, ⟨ys, h3, hd2⟩, h4, gL, h5⟩
  · rintro i m H' ⟨rfl, hi, F', τ', acc, xs, s', r', hd', q'⟩
    by_cases hlt : i < ds.length
    · right
      obtain ⟨d, hd⟩ : ∃ d, ds[i]? = some d := ⟨ds[i], List.getElem?_eq_getElem hlt⟩
      have ed : ds.drop i = d :: ds.drop (i + 1) := by
        rw [List.drop_eq_getElem_cons hlt]
        rw [List.getElem?_eq_getElem hlt] at hd
        rw [Option.some.inj hd]
      obtain ⟨go, yl⟩ := wk.go F' H' i d s' r'.z.fh hd
      rw [ed] at q'
      refine ⟨go, fun H2 => ∃ (F2 : Hp) (τ2 : Ev) (acc2 : List D) (xs2 : List V), Same F1 F2 ∧ Rp X.K pa (upd G L (.lst xs2)) F2 H2 (wipe σ vs) τ2 ∧ DpAll X.K F2 xs2 acc2 ∧
        Gd W0 XM (upd G L (.lst xs2)) F2 σ.length (R.noexc (lcLoop vs g ct ce (ds.drop (i + 1)) acc2 τ2)) (post F2), fun H2 h => ⟨ds.length - (i + 1), by omega, rfl, hlt, h⟩, fun x H2 y => ?_⟩
      obtain ⟨F2, ex, hx⟩ := yl x H2 y
      have r2 := r'.ext ex
      have q2 : Gd W0 XM (upd G L (.lst xs)) F2 σ.length (R.noexc (lcLoop vs g ct ce (d :: ds.drop (i + 1)) acc τ')) (post F2) := Gd.mono q' ex.ff fun a τ z => hm _ _ _ _ ex.ff z
      -- the loop's turn, without the look at exceptions
      have q3 : Gd W0 XM (upd G L (.lst xs)) F2 σ.length ((R.ofOpt (g d τ')).bind fun τ1 => (ct τ1).bind fun p => if p.1 = true then (ce p.2).bind fun q => if sized (acc.length + 1) = true then R.noexc (lcLoop vs g ct ce (ds.drop (i + 1)) (acc ++ [q.1]) (wipeE q.2 vs)) else .stuck
          else R.noexc (lcLoop vs g ct ce (ds.drop (i + 1)) acc (wipeE p.2 vs))) (post F2) := by
        revert q2
        show Gd W0 XM (upd G L (.lst xs)) F2 σ.length (R.noexc ((R.ofOpt (g d τ')).bind fun τ1 => (ct τ1).bind fun p => if p.1 = true then (ce p.2).bind fun q => if sized (acc.length + 1) = true then lcLoop vs g ct ce (ds.drop (i + 1)) (acc ++ [q.1]) (wipeE q.2 vs) else .stuck
          else lcLoop vs g ct ce (ds.drop (i + 1)) acc (wipeE p.2 vs))) (post F2) → _
        cases g d τ' with
        | none => exact fun z => z.elim
        | some τ1 =>
          show Gd W0 XM (upd G L (.lst xs)) F2 σ.length (R.noexc ((ct τ1).bind fun p => if p.1 = true then (ce p.2).bind fun q => if sized (acc.length + 1) = true then lcLoop vs g ct ce (ds.drop (i + 1)) (acc ++ [q.1]) (wipeE q.2 vs) else .stuck
            else lcLoop vs g ct ce (ds.drop (i + 1)) acc (wipeE p.2 vs))) (post F2) → Gd W0 XM (upd G L (.lst xs)) F2 σ.length ((ct τ1).bind fun p => if p.1 = true then (ce p.2).bind fun q => if sized (acc.length + 1) = true then R.noexc (lcLoop vs g ct ce (ds.drop (i + 1)) (acc ++ [q.1]) (wipeE q.2 vs)) else .stuck
            else R.noexc (lcLoop vs g ct ce (ds.drop (i + 1)) acc (wipeE p.2 vs))) (post F2)
          cases ct τ1 with
          | exc x => exact fun z => z.elim
          | stuck => exact fun z => z.elim
          | ok p =>
            obtain ⟨b, τ3⟩ := p
            cases b with
            | false => exact fun z => z
            | true =>
              show Gd W0 XM (upd G L (.lst xs)) F2 σ.length (R.noexc ((ce τ3).bind fun q => if sized (acc.length + 1) = true then lcLoop vs g ct ce (ds.drop (i + 1)) (acc ++ [q.1]) (wipeE q.2 vs) else .stuck)) (post F2) →
                Gd W0 XM (upd G L (.lst xs)) F2 σ.length ((ce τ3).bind fun q => if sized (acc.length + 1) = true then R.noexc (lcLoop vs g ct ce (ds.drop (i + 1)) (acc ++ [q.1]) (wipeE q.2 vs)) else .stuck) (post F2)
              cases ce τ3 with
              | exc x => exact fun z => z.elim
              | stuck => exact fun z => z.elim
              | ok pq =>
                show Gd W0 XM (upd G L (.lst xs)) F2 σ.length (R.noexc (if sized (acc.length + 1) = true then lcLoop vs g ct ce (ds.drop (i + 1)) (acc ++ [pq.1]) (wipeE pq.2 vs) else .stuck)) (post F2) →
                  Gd W0 XM (upd G L (.lst xs)) F2 σ.length (if sized (acc.length + 1) = true then R.noexc (lcLoop vs g ct ce (ds.drop (i + 1)) (acc ++ [pq.1]) (wipeE pq.2 vs)) else .stuck) (post F2)
                split
                · exact fun z => z
                · exact fun z => z.elim
      have nex : ∀ r : R (List D × Ev), ∀ e, R.noexc r ≠ .exc e := fun r e => by cases r <;> intro z <;> cases z
      have q4 : ∃ τ2, g d τ' = some τ2 ∧ Gd W0 XM (upd G L (.lst xs)) F2 σ.length ((ct τ2).bind fun p => if p.1 = true then (ce p.2).bind fun q => if sized (acc.length + 1) = true then R.noexc (lcLoop vs g ct ce (ds.drop (i + 1)) (acc ++ [q.1]) (wipeE q.2 vs)) else .stuck
          else R.noexc (lcLoop vs g ct ce (ds.drop (i + 1)) acc (wipeE p.2 vs))) (post F2) := by
        cases e1 : g d τ' with
        | none => rw [e1] at q3; exact q3.elim
        | some τ2 => rw [e1] at q3; exact ⟨τ2, rfl, q3⟩
      obtain ⟨τ2, e2, q5⟩ := q4
      refine ⟨upd G L (.lst xs), F2, τ', d, r2, hx, τ2, e2, fun σ3 l3 o3 r3 => ?_⟩
      have w3 : wipe σ3 vs = wipe (wipe σ vs) vs := wipe_eq l3 o3
      refine ⟨w3.trans (wipe_wipe σ vs), ?_⟩
      have l4 : σ3.length = σ.length := l3.trans wl
      refine Gd.step r3 σ.length l4 q5 hm fun F4 H4 b τ4 b' s4 r4 hb q6 => ?_
      cases hb
      cases b with
      | false =>
        rw [if_neg Bool.false_ne_true]
        exact ⟨F4, wipeE τ4 vs, acc, xs, Same.trans (Same.trans s' ex.ff) s4, r4.unwipeSt w3 l3, (hd'.up ex.ff).up s4, q6⟩
      | true =>
        rw [if_pos rfl]
        have q7 : Gd W0 XM (upd G L (.lst xs)) F4 σ.length ((ce τ4).bind fun q => if sized (acc.length + 1) = true then R.noexc (lcLoop vs g ct ce (ds.drop (i + 1)) (acc ++ [q.1]) (wipeE q.2 vs)) else .stuck) (post F4) := q6
        refine Gd.step r4 σ.length l4 q7 hm fun F5 H5 z τ5 v s5 r5 hz q8 => ?_
        by_cases hsz : sized (acc.length + 1) = true
        · simp only [hsz, if_true] at q8
          have hd5 : DpAll X.K F5 xs acc := ((hd'.up ex.ff).up s4).up s5
          refine ⟨xs, r5.z.gh _ _ upd_same, ?_, F5, wipeE τ5 vs, acc ++ [z], xs ++ [v], Same.trans (Same.trans (Same.trans s' ex.ff) s4) s5, (r5.lent).unwipeSt w3 l3, hd5.append (.cons hz .nil), gd q8 (nex _)⟩
          have := sized_line hsz
          rw [hd5.length]
          omega
        · simp only [hsz] at q8
          exact q8.elim
    · left
      have e : i = ds.length := by omega
      refine ⟨wk.stop F' H' i s' r'.z.fh (by omega), ?_⟩
      rw [e, List.drop_length] at q'
      exact q' F' H' xs (Same.refl _) r' hd'
end
end Lin

/-! Lin4: the operations. -/
namespace Lin
open PySem L2
section
variable {X : Cx}
/-- lists that are read: + makes a new one -/
def rCatL (K : PySem.W.Frag) : R2 := fun x y H Q => ∃ a b xs ys, x = .ref a ∧ y = .ref b ∧ SqL K H a xs ∧ SqL K H b ys ∧ xs.length + ys.length ≤ sizeLine ∧ ∀ p, H p = none → Q (.ref p) (upd H p (.lst (xs ++ ys)))
theorem op_catL : OpR X (binaryOp .Add) (rCatL X.K) := by
  intro pins s σ H x y v u Q I rx ry h
  obtain ⟨l, b, xs, zs, rfl, rfl, hH, hB, hz, q⟩ := h
  cases rx
  cases ry
  obtain ⟨its, r, pl, hl⟩ := I.list hH
  obtain ⟨its2, r2, pl2, hl2⟩ := I.list hB
  have e1 := r.length
  have e2 := r2.length
  obtain ⟨⟨cls, dd, data, sl⟩, ho, hc, n, hd⟩ := pl.isList
  obtain ⟨⟨cls2, dd2, data2, sl2⟩, ho2, hc2, n2, hd2⟩ := pl2.isList
  simp only at hc hd hc2 hd2
  subst hc hd hc2 hd2
  have e : its.toArray ++ its2.toArray = (its ++ its2).toArray := by simp
  refine concat_meets ⟨_, ho, rfl⟩ ⟨_, ho2, rfl⟩ noFill_list_add seq_list_add PySem.F.slot_list_add PySem.F.entry_list_add (PySem.F.args_list_add_2 _ _) (PyProof.Rows.list_addW l b its.toArray its2.toArray n n2 dd dd2 sl sl2 (by simp; omega)) ⟨ho, ho2, ?_⟩
  rw [e]
  exact ⟨.ref _, _, I.lnew (t' := s.toks) (r.append r2) (by rw [List.length_append]; omega), rfl, q _ I.fresh⟩
/-- sum of a tuple of ints -/
def rSumT (K : PySem.W.Frag) : List V → Hp → VK → Prop := fun vs H Q => ∃ (a : Addr) (ns : List Int), vs = [V.ref a] ∧ SqT K H a (ns.map V.int) ∧ Q (.int ns.sum) H
theorem cr_sumT (hc : X.calm = true) : CallR X (.builtin "sum") (rSumT X.K) := by
  intro pins s σ H vs us Q I r h
  obtain ⟨a, ns, rfl, hs, q⟩ := h
  obtain ⟨its, rv, hl, _⟩ := I.tuple hs
  rw [Vals.ref1 r]
  have hi := rv.ints
  obtain ⟨xs, e⟩ := hi.allInts.items
  have hn : PySem.numsOf (intItems xs).toList = ns := by rw [← e]; exact hi.numsOf
  rw [PySem.nums_intItems] at hn
  rw [e] at hl
  refine PySem.W.ktm_sumG (I.ok.hd hc) hl fun h' tk t' hk => ?_
  rw [PySem.preSum_eq, List.take_of_length_le (by simp), hn]
  exact ⟨.int _, H, I.kept hk, ⟨_, rfl⟩, q⟩
end

/-! ### on data -/
def addD : D → D → Option D
  | .int a, .int b => some (.int (a + b))
  | .tuple xs, .tuple ys => if sized (xs.length + ys.length) = true then some (.tuple (xs ++ ys)) else none
  | .list xs, .list ys => if sized (xs.length + ys.length) = true then some (.list (xs ++ ys)) else none
  | _, _ => none
def subD : D → D → Option D
  | .int a, .int b => some (.int (a - b))
  | _, _ => none
def near64 (i : Int) : Bool := decide (-(2 ^ 64) < i ∧ i < 2 ^ 64)
def mulD : D → D → Option D
  | .int a, .int b => if near64 a = true ∨ near64 b = true then some (.int (a * b)) else none
  | .tuple xs, .int k => if xs ≠ [] ∧ 2 ≤ k ∧ k ≤ 1000 ∧ xs.length ≤ 1000 then some (.tuple (List.replicate k.toNat xs).flatten) else none
  | _, _ => none
def fdivD : D → D → Option D
  | .int a, .int b => if 0 < b ∧ (b < 1073741824 ∨ b < 1180591620717411303424) then some (.int (a / b)) else none
  | _, _ => none
def modD : D → D → Option D
  | .int a, .int b => if 0 < b then some (.int (a % b)) else none
  | _, _ => none
def powD : D → D → Option D
  | .int a, .int b => if 0 ≤ b ∧ b ≤ 1000000 ∧ a.natAbs < 2 ^ 64 then some (.int (a ^ b.toNat)) else none
  | _, _ => none
def cmpD (f : Int → Int → Bool) : D → D → Option D
  | .int a, .int b => some (.bool (f a b))
  | _, _ => none
abbrev ltD := cmpD fun a b => decide (a < b)
abbrev leD := cmpD fun a b => decide (a ≤ b)
abbrev gtD := cmpD fun a b => decide (b < a)
abbrev geD := cmpD fun a b => decide (b ≤ a)
@[simp] def eqD (a b : D) : Option D := if SeqAt.shaped a = true ∧ SeqAt.shaped b = true then some (.bool (PyData.eqv a b)) else none
@[simp] def neD (a b : D) : Option D := if SeqAt.shaped a = true ∧ SeqAt.shaped b = true then some (.bool (!PyData.eqv a b)) else none
def isNoneD : D → D → Option D
  | a, .none => some (.bool (match a with | .none => true | _ => false))
  | _, _ => none
def notNoneD : D → D → Option D
  | a, .none => some (.bool (match a with | .none => false | _ => true))
  | _, _ => none
/-- x in a list (any data), in a tuple (flat data) -/
def flatD : D → Bool
  | .none => true
  | .bool _ => true
  | .int _ => true
  | .str _ => true
  | _ => false
def inD : D → D → Option D
  | x, .list ds => if SeqAt.shaped x = true ∧ SeqAt.shaped (.list ds) = true then some (.bool (ds.any fun z => PyData.eqv z x)) else none
  | .int i, .tuple ds => if ds.all (fun d => match d with | .int _ => true | _ => false) = true then some (.bool (ds.any fun z => PyData.eqv z (.int i))) else none
  | _, _ => none
def notInD : D → D → Option D
  | x, .list ds => if SeqAt.shaped x = true ∧ SeqAt.shaped (.list ds) = true then some (.bool (!ds.any fun z => PyData.eqv z x)) else none
  | .int i, .tuple ds => if ds.all (fun d => match d with | .int _ => true | _ => false) = true then some (.bool (!ds.any fun z => PyData.eqv z (.int i))) else none
  | _, _ => none
def ixD : D → D → Option D
  | .list ds, .int i => atI ds i
  | .tuple ds, .int i => atI ds i
  | _, _ => none
def negD : D → Option D
  | .int a => some (.int (-a))
  | _ => none
/-- the part lo .. hi -/
def cutD (ds : List D) (lo hi : Option Int) : List D := (ds.drop (HT.sIx ds.length 0 lo)).take (HT.sIx ds.length ds.length hi - HT.sIx ds.length 0 lo)
def slTD : D → Option Int → Option Int → Option D
  | .tuple ds, lo, hi => some (.tuple (cutD ds lo hi))
  | _, _, _ => none
def slLD : D → Option Int → Option Int → Option (List D)
  | .list ds, lo, hi => some (cutD ds lo hi)
  | _, _, _ => none
def lenD : List D → Option D
  | [.list ds] => some (.int ds.length)
  | [.tuple ds] => some (.int ds.length)
  | _ => none
def intsOf : List D → Option (List Int)
  | [] => some []
  | .int i :: r => (intsOf r).map (i :: ·)
  | _ :: _ => none
def boolsOf : List D → Option (List Bool)
  | [] => some []
  | .bool i :: r => (boolsOf r).map (i :: ·)
  | _ :: _ => none
def sumD : List D → Option D
  | [.list ds] => (intsOf ds).map fun ns => .int ns.sum
  | [.tuple ds] => (intsOf ds).map fun ns => .int ns.sum
  | _ => none
def max1 : List Int → Int
  | [] => 0
  | [a] => a
  | a :: r => max a (max1 r)
def min1 : List Int → Int
  | [] => 0
  | [a] => a
  | a :: r => min a (min1 r)
def maxD : List D → Option D
  | [.int i, .int j] => some (.int (max i j))
  | [.int i, .int j, .int l] => some (.int (max i (max j l)))
  | [.list ds] => (intsOf ds).bind fun ns => if ns = [] then none else some (.int (max1 ns))
  | _ => none
def minD : List D → Option D
  | [.int i, .int j] => some (.int (min i j))
  | [.int i, .int j, .int l] => some (.int (min i (min j l)))
  | [.list ds] => (intsOf ds).bind fun ns => if ns = [] then none else some (.int (min1 ns))
  | _ => none
def allD : List D → Option D
  | [.list ds] => (boolsOf ds).map fun bs => .bool (bs.all id)
  | _ => none
def absD : List D → Option D
  | [.int i] => some (.int (if i < 0 then -i else i))
  | _ => none
def tupleD : List D → Option D
  | [.list ds] => some (.tuple ds)
  | [.tuple ds] => some (.tuple ds)
  | _ => none
def listD : List D → Option (List D)
  | [.list ds] => some ds
  | [.tuple ds] => some ds
  | _ => none

@[simp] theorem addD_int (a b : Int) : addD (.int a) (.int b) = some (.int (a + b)) := rfl
@[simp] theorem addD_tup (a b : List D) : addD (.tuple a) (.tuple b) = if sized (a.length + b.length) = true then some (.tuple (a ++ b)) else none := rfl
@[simp] theorem addD_lst (a b : List D) : addD (.list a) (.list b) = if sized (a.length + b.length) = true then some (.list (a ++ b)) else none := rfl
@[simp] theorem subD_int (a b : Int) : subD (.int a) (.int b) = some (.int (a - b)) := rfl
@[simp] theorem mulD_int (a b : Int) : mulD (.int a) (.int b) = if near64 a = true ∨ near64 b = true then some (.int (a * b)) else none := rfl
@[simp] theorem mulD_tup (a : List D) (k : Int) : mulD (.tuple a) (.int k) = if a ≠ [] ∧ 2 ≤ k ∧ k ≤ 1000 ∧ a.length ≤ 1000 then some (.tuple (List.replicate k.toNat a).flatten) else none := rfl
@[simp] theorem fdivD_int (a b : Int) : fdivD (.int a) (.int b) = if 0 < b ∧ (b < 1073741824 ∨ b < 1180591620717411303424) then some (.int (a / b)) else none := rfl
@[simp] theorem modD_int (a b : Int) : modD (.int a) (.int b) = if 0 < b then some (.int (a % b)) else none := rfl
@[simp] theorem powD_int (a b : Int) : powD (.int a) (.int b) = if 0 ≤ b ∧ b ≤ 1000000 ∧ a.natAbs < 2 ^ 64 then some (.int (a ^ b.toNat)) else none := rfl
@[simp] theorem cmpD_int (f : Int → Int → Bool) (a b : Int) : cmpD f (.int a) (.int b) = some (.bool (f a b)) := rfl
@[simp] theorem isNone_none : isNoneD .none .none = some (.bool true) := rfl
@[simp] theorem isNone_int (a : Int) : isNoneD (.int a) .none = some (.bool false) := rfl
@[simp] theorem isNone_bool (a : Bool) : isNoneD (.bool a) .none = some (.bool false) := rfl
@[simp] theorem isNone_tup (a : List D) : isNoneD (.tuple a) .none = some (.bool false) := rfl
@[simp] theorem isNone_lst (a : List D) : isNoneD (.list a) .none = some (.bool false) := rfl
@[simp] theorem notNone_none : notNoneD .none .none = some (.bool false) := rfl
@[simp] theorem notNone_int (a : Int) : notNoneD (.int a) .none = some (.bool true) := rfl
@[simp] theorem notNone_bool (a : Bool) : notNoneD (.bool a) .none = some (.bool true) := rfl
@[simp] theorem notNone_tup (a : List D) : notNoneD (.tuple a) .none = some (.bool true) := rfl
@[simp] theorem notNone_lst (a : List D) : notNoneD (.list a) .none = some (.bool true) := rfl
theorem inD_list (x : D) (ds : List D) : inD x (.list ds) = if SeqAt.shaped x = true ∧ SeqAt.shaped (.list ds) = true then some (.bool (ds.any fun z => PyData.eqv z x)) else none := by unfold inD; rfl
theorem notInD_list (x : D) (ds : List D) : notInD x (.list ds) = if SeqAt.shaped x = true ∧ SeqAt.shaped (.list ds) = true then some (.bool (!ds.any fun z => PyData.eqv z x)) else none := by unfold notInD; rfl
@[simp] theorem ixD_lst (a : List D) (i : Int) : ixD (.list a) (.int i) = atI a i := rfl
@[simp] theorem ixD_tup (a : List D) (i : Int) : ixD (.tuple a) (.int i) = atI a i := rfl
@[simp] theorem negD_int (a : Int) : negD (.int a) = some (.int (-a)) := rfl
@[simp] theorem lenD_lst (a : List D) : lenD [.list a] = some (.int a.length) := rfl
@[simp] theorem lenD_tup (a : List D) : lenD [.tuple a] = some (.int a.length) := rfl
@[simp] theorem sumD_lst (a : List D) : sumD [.list a] = (intsOf a).map fun ns => .int ns.sum := rfl
@[simp] theorem sumD_tup (a : List D) : sumD [.tuple a] = (intsOf a).map fun ns => .int ns.sum := rfl
@[simp] theorem maxD_int3 (a b c : Int) : maxD [.int a, .int b, .int c] = some (.int (max a (max b c))) := rfl
@[simp] theorem maxD_int (a b : Int) : maxD [.int a, .int b] = some (.int (max a b)) := rfl
@[simp] theorem minD_int3 (a b c : Int) : minD [.int a, .int b, .int c] = some (.int (min a (min b c))) := rfl
@[simp] theorem minD_int (a b : Int) : minD [.int a, .int b] = some (.int (min a b)) := rfl
@[simp] theorem maxD_lst (a : List D) : maxD [.list a] = (intsOf a).bind fun ns => if ns = [] then none else some (.int (max1 ns)) := rfl
@[simp] theorem minD_lst (a : List D) : minD [.list a] = (intsOf a).bind fun ns => if ns = [] then none else some (.int (min1 ns)) := rfl
@[simp] theorem allD_lst (a : List D) : allD [.list a] = (boolsOf a).map fun bs => .bool (bs.all id) := rfl
@[simp] theorem absD_int (a : Int) : absD [.int a] = some (.int (if a < 0 then -a else a)) := rfl
@[simp] theorem tupleD_lst (a : List D) : tupleD [.list a] = some (.tuple a) := rfl
@[simp] theorem tupleD_tup (a : List D) : tupleD [.tuple a] = some (.tuple a) := rfl
@[simp] theorem listD_lst (a : List D) : listD [.list a] = some a := rfl
@[simp] theorem listD_tup (a : List D) : listD [.tuple a] = some a := rfl
theorem intsOf_some : ∀ {ds : List D} {ns : List Int}, intsOf ds = some ns → ds = ns.map PyData.int
  | [], _, h => by cases h; rfl
  | .int i :: r, ns, h => by
    unfold intsOf at h
    cases e : intsOf r with
    | none => rw [e] at h; cases h
    | some ms => rw [e] at h; cases h; rw [intsOf_some e]; rfl
  | .none :: r, _, h => by cases h
  | .bool _ :: r, _, h => by cases h
  | .str _ :: r, _, h => by cases h
  | .list _ :: r, _, h => by cases h
  | .tuple _ :: r, _, h => by cases h
  | .dict _ :: r, _, h => by cases h
@[simp] theorem intsOf_map (ns : List Int) : intsOf (ns.map PyData.int) = some ns := by
  induction ns with
  | nil => rfl
  | cons n ns ih => simp [intsOf, ih]
theorem boolsOf_some : ∀ {ds : List D} {ns : List Bool}, boolsOf ds = some ns → ds = ns.map PyData.bool
  | [], _, h => by cases h; rfl
  | .bool i :: r, ns, h => by
    unfold boolsOf at h
    cases e : boolsOf r with
    | none => rw [e] at h; cases h
    | some ms => rw [e] at h; cases h; rw [boolsOf_some e]; rfl
  | .none :: r, _, h => by cases h
  | .int _ :: r, _, h => by cases h
  | .str _ :: r, _, h => by cases h
  | .list _ :: r, _, h => by cases h
  | .tuple _ :: r, _, h => by cases h
  | .dict _ :: r, _, h => by cases h
@[simp] theorem boolsOf_map (ns : List Bool) : boolsOf (ns.map PyData.bool) = some ns := by
  induction ns with
  | nil => rfl
  | cons n ns ih => simp [boolsOf, ih]
theorem py_max (i j : Int) : (if j > i then j else i) = max i j := by omega
theorem py_min (i j : Int) : (if j < i then j else i) = min i j := by omega
theorem max1_mem : ∀ {ns : List Int}, ns ≠ [] → max1 ns ∈ ns ∧ ∀ y ∈ ns, y ≤ max1 ns
  | [], h => absurd rfl h
  | [a], _ => by simp [max1]
  | a :: b :: r, _ => by
    obtain ⟨h1, h2⟩ := max1_mem (ns := b :: r) (by simp)
    show max a (max1 (b :: r)) ∈ a :: b :: r ∧ ∀ y ∈ a :: b :: r, y ≤ max a (max1 (b :: r))
    refine ⟨?_, fun y hy => ?_⟩
    · by_cases h : a ≤ max1 (b :: r)
      · rw [Int.max_eq_right h]; exact List.mem_cons_of_mem _ h1
      · rw [Int.max_eq_left (by omega)]; exact List.mem_cons_self
    · rcases List.mem_cons.mp hy with rfl | hy
      · exact Int.le_max_left _ _
      · exact Int.le_trans (h2 y hy) (Int.le_max_right _ _)
theorem min1_mem : ∀ {ns : List Int}, ns ≠ [] → min1 ns ∈ ns ∧ ∀ y ∈ ns, min1 ns ≤ y
  | [], h => absurd rfl h
  | [a], _ => by simp [min1]
  | a :: b :: r, _ => by
    obtain ⟨h1, h2⟩ := min1_mem (ns := b :: r) (by simp)
    show min a (min1 (b :: r)) ∈ a :: b :: r ∧ ∀ y ∈ a :: b :: r, min a (min1 (b :: r)) ≤ y
    refine ⟨?_, fun y hy => ?_⟩
    · by_cases h : a ≤ min1 (b :: r)
      · rw [Int.min_eq_left h]; exact List.mem_cons_self
      · rw [Int.min_eq_right (by omega)]; exact List.mem_cons_of_mem _ h1
    · rcases List.mem_cons.mp hy with rfl | hy
      · exact Int.min_le_left _ _
      · exact Int.le_trans (Int.min_le_right _ _) (h2 y hy)
theorem max1_uniq {ns : List Int} (h : ns ≠ []) {m : Int} (h1 : m ∈ ns) (h2 : ∀ y, y ∈ ns → y ≤ m) : m = max1 ns := by
  obtain ⟨a, b⟩ := max1_mem h
  exact Int.le_antisymm (b m h1) (h2 _ a)
theorem min1_uniq {ns : List Int} (h : ns ≠ []) {m : Int} (h1 : m ∈ ns) (h2 : ∀ y, y ∈ ns → m ≤ y) : m = min1 ns := by
  obtain ⟨a, b⟩ := min1_mem h
  exact Int.le_antisymm (h2 _ a) (b m h1)

/-! ### what the operations need -/
section
variable {K : PySem.W.Frag}
theorem os_int {C : Int → Int → Prop} {g : Int → Int → V} {f : D → D → Option D} (h : ∀ a b z, f a b = some z → ∃ i j, a = .int i ∧ b = .int j ∧ C i j ∧ ∀ F, Dp K F (g i j) z) : OpS K (rI C g) f := fun F H x y d e z Q s hx hy hz k => by
  obtain ⟨i, j, rfl, rfl, c, hd⟩ := h d e z hz
  cases hx
  cases hy
  exact ⟨i, j, rfl, rfl, c, k _ F H (Ext.refl s) (hd F)⟩
theorem os_int0 {g : Int → Int → V} {f : D → D → Option D} (h : ∀ a b z, f a b = some z → ∃ i j, a = .int i ∧ b = .int j ∧ ∀ F, Dp K F (g i j) z) : OpS K (rI0 g) f := fun F H x y d e z Q s hx hy hz k => by
  obtain ⟨i, j, rfl, rfl, hd⟩ := h d e z hz
  cases hx
  cases hy
  exact ⟨i, j, rfl, rfl, k _ F H (Ext.refl s) (hd F)⟩
def rAddAll (K : PySem.W.Frag) : R2 := fun x y H Q => (fun x y H Q => rI0 (fun i j => .int (i + j)) x y H Q ∨ rCatA K x y H Q) x y H Q ∨ rCatL K x y H Q
theorem op_addAll {X : Cx} : OpR X (binaryOp .Add) (rAddAll X.K) := (op_add.or op_catA).or op_catL
theorem os_add : OpS K (rAddAll K) addD := fun F H x y d e z Q s hx hy hz k => by
  unfold addD at hz
  split at hz
  · cases hx
    cases hy
    cases hz
    exact .inl (.inl ⟨_, _, rfl, rfl, k _ F H (Ext.refl s) (.int _)⟩)
  · split at hz
    · rename_i sz
      cases hz
      cases hx with
      | @tup a xs ds hs ha =>
        cases hy with
        | @tup b ys es ht hb =>
          refine .inl (.inr ⟨a, b, xs, ys, rfl, rfl, same_sqT s (SqT.of hs), same_sqT s (SqT.of ht), by rw [ha.length, hb.length]; exact sized_line sz, fun e => ?_, fun n e => ?_, fun n m p hp => ?_⟩)
          · subst e
            cases ha
            exact k _ F H (Ext.refl s) (.tup ht hb)
          · subst e
            cases hb
            rw [List.append_nil] at k
            exact k _ F H (Ext.refl s) (.tup hs ha)
          · have ex := Ext.new (o := .tup (xs ++ ys)) s hp
            exact k _ _ _ ex (.tup upd_same ((ha.up ex.ff).append (hb.up ex.ff)))
    · cases hz
  · split at hz
    · rename_i sz
      cases hz
      cases hx with
      | @lst a xs ds hs ha =>
        cases hy with
        | @lst b ys es ht hb =>
          refine .inr ⟨a, b, xs, ys, rfl, rfl, same_sqL s hs, same_sqL s ht, by rw [ha.length, hb.length]; exact sized_line sz, fun p hp => ?_⟩
          have ex := Ext.new (o := .lst (xs ++ ys)) s hp
          exact k _ _ _ ex (.lst (SqL.of upd_same) ((ha.up ex.ff).append (hb.up ex.ff)))
    · cases hz
  · cases hz
theorem os_sub : OpS K (rI0 fun i j => .int (i - j)) subD := os_int0 fun a b z h => by
  unfold subD at h
  split at h
  · cases h; exact ⟨_, _, rfl, rfl, fun F => .int _⟩
  · cases h
def rMulAll (K : PySem.W.Frag) : R2 := fun x y H Q => rI CMul (fun i j => .int (i * j)) x y H Q ∨ rRepT K x y H Q
theorem op_mulAll {X : Cx} : OpR X (binaryOp .Mult) (rMulAll X.K) := op_mul.or op_repT
theorem _root_.L2.DpAll.rep {K : PySem.W.Frag} {F : Hp} {xs : List V} {ds : List D} (h : DpAll K F xs ds) : ∀ n : Nat, DpAll K F (List.replicate n xs).flatten (List.replicate n ds).flatten
  | 0 => .nil
  | n + 1 => by
    rw [List.replicate_succ, List.replicate_succ, List.flatten_cons, List.flatten_cons]
    exact h.append (L2.DpAll.rep h n)
theorem os_mul : OpS K (rMulAll K) mulD := fun F H x y d e z Q s hx hy hz k => by
  unfold mulD at hz
  split at hz
  · split at hz
    · rename_i c
      cases hx
      cases hy
      cases hz
      exact .inl ⟨_, _, rfl, rfl, c.imp (fun h => of_decide_eq_true h) (fun h => of_decide_eq_true h), k _ F H (Ext.refl s) (.int _)⟩
    · cases hz
  · rename_i xs0 k0
    split at hz
    · rename_i c
      obtain ⟨c1, c2, c3, c4⟩ := c
      cases hz
      cases hy
      cases hx with
      | @tup a xs ds hs ha =>
        refine .inr ⟨a, k0, xs, rfl, rfl, same_sqT s (SqT.of hs), fun e => c1 ?_, c2, c3, by rw [ha.length]; exact c4, fun p hp => ?_⟩
        · subst e
          cases ha
          rfl
        · have ex := Ext.new (o := .tup (List.replicate k0.toNat xs).flatten) s hp
          exact k _ _ _ ex (.tup upd_same (DpAll.rep (ha.up ex.ff) _))
    · cases hz
  · cases hz
theorem os_fdiv : OpS K (rI CDivW fun i j => .int (i / j)) fdivD := os_int fun a b z h => by
  unfold fdivD at h
  split at h
  · split at h
    · rename_i c
      cases h; exact ⟨_, _, rfl, rfl, wide_div (b := 70) c.1 (by omega) (by decide) (by decide), fun F => .int _⟩
    · cases h
  · cases h
theorem os_mod : OpS K (rI (fun _ j => 0 < j) fun i j => .int (i % j)) modD := os_int fun a b z h => by
  unfold modD at h
  split at h
  · split at h
    · rename_i c
      cases h; exact ⟨_, _, rfl, rfl, c, fun F => .int _⟩
    · cases h
  · cases h
theorem os_pow : OpS K (rI CPow fun i j => .int (i ^ j.toNat)) powD := os_int fun a b z h => by
  unfold powD at h
  split at h
  · split at h
    · rename_i c
      cases h; exact ⟨_, _, rfl, rfl, c, fun F => .int _⟩
    · cases h
  · cases h
theorem os_cmp {f : Int → Int → Bool} : OpS K (rI0 fun i j => .bl (f i j)) (cmpD f) := os_int0 fun a b z h => by
  unfold cmpD at h
  split at h
  · cases h; exact ⟨_, _, rfl, rfl, fun F => .bl _⟩
  · cases h
theorem os_eq : OpS K (rEqD K) eqD := fun F H x y d e z Q s hx hy hz k => by
  unfold eqD at hz
  split at hz
  · rename_i c
    cases hz
    exact ⟨d, e, Dp.kit _ _ (Bool.and_eq_true_iff.mp c.1).1 (hx.up s), Dp.kit _ _ (Bool.and_eq_true_iff.mp c.2).1 (hy.up s), c.1, c.2, k _ F H (Ext.refl s) (.bl _)⟩
  · cases hz
theorem os_ne : OpS K (rNeD K) neD := fun F H x y d e z Q s hx hy hz k => by
  unfold neD at hz
  split at hz
  · rename_i c
    cases hz
    exact ⟨d, e, Dp.kit _ _ (Bool.and_eq_true_iff.mp c.1).1 (hx.up s), Dp.kit _ _ (Bool.and_eq_true_iff.mp c.2).1 (hy.up s), c.1, c.2, k _ F H (Ext.refl s) (.bl _)⟩
  · cases hz
theorem os_isN : OpS K (fun x y H Q => y = .non ∧ Q (.bl (decide (x = .non))) H) isNoneD := fun F H x y d e z Q s hx hy hz k => by
  unfold isNoneD at hz
  split at hz
  · cases hy
    cases hz
    refine ⟨rfl, k _ F H (Ext.refl s) ?_⟩
    cases hx <;> exact .bl _
  · cases hz
theorem os_notN : OpS K (fun x y H Q => y = .non ∧ Q (.bl (!decide (x = .non))) H) notNoneD := fun F H x y d e z Q s hx hy hz k => by
  unfold notNoneD at hz
  split at hz
  · cases hy
    cases hz
    refine ⟨rfl, k _ F H (Ext.refl s) ?_⟩
    cases hx <;> exact .bl _
  · cases hz
theorem flat_ints {F : Hp} : ∀ {ds : List D} {xs : List V}, DpAll K F xs ds → ds.all (fun d => match d with | .int _ => true | _ => false) = true → ∃ ns : List Int, ds = ns.map PyData.int ∧ xs = ns.map V.int
  | [], _, h, _ => by cases h; exact ⟨[], rfl, rfl⟩
  | d :: ds, _, h, c => by
    cases h with
    | cons h1 h2 =>
      rw [List.all_cons, Bool.and_eq_true] at c
      obtain ⟨ns, e1, e2⟩ := flat_ints h2 c.2
      cases d with
      | int i => cases h1; exact ⟨i :: ns, by rw [e1]; rfl, by rw [e2]; rfl⟩
      | none => cases c.1
      | bool _ => cases c.1
      | str _ => cases c.1
      | list _ => cases c.1
      | tuple _ => cases c.1
      | dict _ => cases c.1
theorem flatV_ints (ns : List Int) : (ns.map V.int).all flatV = true := by
  induction ns with
  | nil => rfl
  | cons n ns ih => rw [List.map_cons, List.all_cons, ih]; rfl
theorem inV_ints (i : Int) (ns : List Int) : inV (.int i) (ns.map V.int) = (ns.map PyData.int).any fun z => PyData.eqv z (.int i) := by
  unfold inV
  induction ns with
  | nil => rfl
  | cons n ns ih => simp only [List.map_cons, List.any_cons]; rw [ih]; simp [eqV, PyData.eqv]
def rInAll (K : PySem.W.Frag) : R2 := fun x y H Q => rInD K x y H Q ∨ rIn K false x y H Q
theorem op_inAll {X : Cx} (hu : X.A.units + 65 < cLine) : OpR X (compareOp .In) (rInAll X.K) := (op_inD hu).or op_in_seq
theorem os_in : OpS K (rInAll K) inD := fun F H x y d e z Q s hx hy hz k => by
  unfold inD at hz
  split at hz
  · split at hz
    · rename_i c
      cases hz
      exact .inl ⟨_, _, Dp.kit _ _ (Bool.and_eq_true_iff.mp c.1).1 (hx.up s), Dp.kit _ _ (Bool.and_eq_true_iff.mp c.2).1 (hy.up s), c.1, c.2, k _ F H (Ext.refl s) (.bl _)⟩
    · cases hz
  · split at hz
    · rename_i c
      cases hz
      cases hx
      cases hy with
      | @tup a xs ds hs ha =>
        obtain ⟨ns, rfl, rfl⟩ := flat_ints ha c
        refine .inr ⟨a, _, rfl, .inr (same_sqT s (SqT.of hs)), rfl, flatV_ints ns, ?_⟩
        rw [if_neg Bool.false_ne_true, inV_ints]
        exact k _ F H (Ext.refl s) (.bl _)
    · cases hz
  · cases hz
def rNotInAll (K : PySem.W.Frag) : R2 := fun x y H Q => rNotInD K x y H Q ∨ rIn K true x y H Q
theorem op_notInAll {X : Cx} (hu : X.A.units + 65 < cLine) : OpR X (compareOp .NotIn) (rNotInAll X.K) := (op_notInD hu).or op_notIn_seq
theorem os_notIn : OpS K (rNotInAll K) notInD := fun F H x y d e z Q s hx hy hz k => by
  unfold notInD at hz
  split at hz
  · split at hz
    · rename_i c
      cases hz
      exact .inl ⟨_, _, Dp.kit _ _ (Bool.and_eq_true_iff.mp c.1).1 (hx.up s), Dp.kit _ _ (Bool.and_eq_true_iff.mp c.2).1 (hy.up s), c.1, c.2, k _ F H (Ext.refl s) (.bl _)⟩
    · cases hz
  · split at hz
    · rename_i c
      cases hz
      cases hx
      cases hy with
      | @tup a xs ds hs ha =>
        obtain ⟨ns, rfl, rfl⟩ := flat_ints ha c
        refine .inr ⟨a, _, rfl, .inr (same_sqT s (SqT.of hs)), rfl, flatV_ints ns, ?_⟩
        rw [if_pos rfl, inV_ints]
        exact k _ F H (Ext.refl s) (.bl _)
    · cases hz
  · cases hz
theorem atI_dp {F : Hp} {xs : List V} {ds : List D} {i : Int} {d : D} (h : DpAll K F xs ds) (e : atI ds i = some d) : ∃ v, atI xs i = some v ∧ Dp K F v d := by
  unfold atI at e ⊢
  rw [h.length]
  cases q : ixN ds.length i with
  | none => rw [q] at e; cases e
  | some j =>
    rw [q] at e
    exact h.get e
def rIxAll (K : PySem.W.Frag) : R2 := fun x y H Q => rIxL K x y H Q ∨ rIxT K x y H Q
theorem ix_all {X : Cx} : IxR X (rIxAll X.K) := ix_list.or ix_tup
theorem os_ix : OpS K (rIxAll K) ixD := fun F H x y d e z Q s hx hy hz k => by
  unfold ixD at hz
  split at hz
  · cases hy
    cases hx with
    | @lst a xs ds hs ha =>
      obtain ⟨v, e1, hv⟩ := atI_dp ha hz
      exact .inl ⟨a, xs, _, v, rfl, rfl, same_sqL s hs, e1, k _ F H (Ext.refl s) hv⟩
  · cases hy
    cases hx with
    | @tup a xs ds hs ha =>
      obtain ⟨v, e1, hv⟩ := atI_dp ha hz
      exact .inr ⟨a, xs, _, v, rfl, rfl, same_sqT s (SqT.of hs), e1, k _ F H (Ext.refl s) hv⟩
  · cases hz
theorem us_neg : UnS K (rU fun i => .int (-i)) negD := fun F H x d z Q s hx hz k => by
  unfold negD at hz
  split at hz
  · cases hx
    cases hz
    exact ⟨_, rfl, k _ F H (Ext.refl s) (.int _)⟩
  · cases hz
theorem cut_dp {F : Hp} {xs : List V} {ds : List D} (h : DpAll K F xs ds) (lo hi : Option Int) : DpAll K F (cutV xs lo hi) (cutD ds lo hi) := by
  unfold cutV cutD
  rw [h.length]
  exact (h.drop _).take _
theorem ss_slT : SlS K (rSlA K) slTD := fun F H x d z lo hi Q s hx hz k => by
  unfold slTD at hz
  split at hz
  · rename_i _ _ _ ds
    cases hz
    cases hx with
    | @tup a xs ds hs ha =>
      refine ⟨a, xs, rfl, same_sqT s (SqT.of hs), fun w => ?_, fun w p hp => ?_⟩
      · have e : cutD ds lo hi = ds := by
          unfold cutD
          rw [ha.length] at w
          rw [w.1, w.2]
          simp
        rw [e] at k
        exact k _ F H (Ext.refl s) (.tup hs ha)
      · have ex := Ext.new (o := .tup (cutV xs lo hi)) s hp
        exact k _ _ _ ex (.tup upd_same (cut_dp (ha.up ex.ff) lo hi))
  · cases hz
theorem so_slL : SlO K (rSlL K) slLD := fun F H x d z lo hi Q s hx hz k => by
  unfold slLD at hz
  split at hz
  · cases hz
    cases hx with
    | @lst a xs ds hs ha =>
      refine ⟨a, xs, rfl, same_sqL s hs, fun p hp => ?_⟩
      exact k p _ F _ (Ext.newH s hp) hp (Same.free s hp) upd_same (cut_dp ha lo hi)
  · cases hz
theorem cs_len : CallS K (fun xs H Q => ∃ p ys, xs = [.ref p] ∧ (SqL K H p ys ∨ SqT K H p ys) ∧ Q (.int ys.length) H) lenD := fun F H xs ds z Q s hx hz k => by
  unfold lenD at hz
  split at hz
  · rename_i es
    cases hz
    cases hx with
    | cons h1 h2 =>
      cases h2
      cases h1 with
      | @lst a ys _ hs ha =>
        refine ⟨a, ys, rfl, .inl (same_sqL s hs), ?_⟩
        rw [ha.length]
        exact k _ F H (Ext.refl s) (.int _)
  · rename_i es
    cases hz
    cases hx with
    | cons h1 h2 =>
      cases h2
      cases h1 with
      | @tup a ys _ hs ha =>
        refine ⟨a, ys, rfl, .inr (same_sqT s (SqT.of hs)), ?_⟩
        rw [ha.length]
        exact k _ F H (Ext.refl s) (.int _)
  · cases hz
def rSumAll (K : PySem.W.Frag) : List V → Hp → VK → Prop := fun xs H Q => rSum K xs H Q ∨ rSumT K xs H Q
theorem cr_sumAll {X : Cx} (hc : X.calm = true) : CallR X (.builtin "sum") (rSumAll X.K) := (cr_sum hc).or (cr_sumT hc)
theorem cs_sum : CallS K (rSumAll K) sumD := fun F H xs ds z Q s hx hz k => by
  unfold sumD at hz
  split at hz
  · rename_i es
    cases hx with
    | cons h1 h2 =>
      cases h2
      cases h1 with
      | @lst a ys _ hs ha =>
        cases e : intsOf es with
        | none => rw [e] at hz; cases hz
        | some ns =>
          rw [e] at hz
          cases hz
          have e2 := intsOf_some e
          subst e2
          have e3 := ha.ints
          subst e3
          exact .inl ⟨a, ns, rfl, same_sqL s hs, k _ F H (Ext.refl s) (.int _)⟩
  · rename_i es
    cases hx with
    | cons h1 h2 =>
      cases h2
      cases h1 with
      | @tup a ys _ hs ha =>
        cases e : intsOf es with
        | none => rw [e] at hz; cases hz
        | some ns =>
          rw [e] at hz
          cases hz
          have e2 := intsOf_some e
          subst e2
          have e3 := ha.ints
          subst e3
          exact .inr ⟨a, ns, rfl, same_sqT s (SqT.of hs), k _ F H (Ext.refl s) (.int _)⟩
  · cases hz
theorem vals3 {x y z : V} {us : List Value} (r : Vals [x, y, z] us) : ∃ u v w, us = [u, v, w] ∧ RelV x u ∧ RelV y v ∧ RelV z w := by
  cases r with
  | cons r1 r2 =>
    obtain ⟨v, w, rfl, r3, r4⟩ := vals2 r2
    exact ⟨_, v, w, rfl, r1, r3, r4⟩
def rMax3 : List V → Hp → VK → Prop := fun xs H Q => ∃ i j l, xs = [.int i, .int j, .int l] ∧ Q (.int (max i (max j l))) H
theorem cr_max3 {X : Cx} (hc : X.calm = true) : CallR X (.builtin "max") rMax3 := by
  intro pins s σ H xs us Q I r h
  obtain ⟨i, j, l, rfl, q⟩ := h
  obtain ⟨u, v, w, rfl, ⟨t1, rfl⟩, ⟨t2, rfl⟩, ⟨t3, rfl⟩⟩ := vals3 r
  refine max_three_ints (I.ok.hd hc) fun h' tk k => ⟨_, H, I.kept k, ?_, q⟩
  by_cases h1 : j > i
  · rw [if_pos h1]
    by_cases h2 : l > j
    · rw [if_pos h2, show max i (max j l) = l by omega]; exact ⟨_, rfl⟩
    · rw [if_neg h2, show max i (max j l) = j by omega]; exact ⟨_, rfl⟩
  · rw [if_neg h1]
    by_cases h2 : l > i
    · rw [if_pos h2, show max i (max j l) = l by omega]; exact ⟨_, rfl⟩
    · rw [if_neg h2, show max i (max j l) = i by omega]; exact ⟨_, rfl⟩
def rMin3 : List V → Hp → VK → Prop := fun xs H Q => ∃ i j l, xs = [.int i, .int j, .int l] ∧ Q (.int (min i (min j l))) H
theorem cr_min3 {X : Cx} (hc : X.calm = true) : CallR X (.builtin "min") rMin3 := by
  intro pins s σ H xs us Q I r h
  obtain ⟨i, j, l, rfl, q⟩ := h
  obtain ⟨u, v, w, rfl, ⟨t1, rfl⟩, ⟨t2, rfl⟩, ⟨t3, rfl⟩⟩ := vals3 r
  refine min_three_ints (I.ok.hd hc) fun h' tk k => ⟨_, H, I.kept k, ?_, q⟩
  by_cases h1 : j < i
  · rw [if_pos h1]
    by_cases h2 : l < j
    · rw [if_pos h2, show min i (min j l) = l by omega]; exact ⟨_, rfl⟩
    · rw [if_neg h2, show min i (min j l) = j by omega]; exact ⟨_, rfl⟩
  · rw [if_neg h1]
    by_cases h2 : l < i
    · rw [if_pos h2, show min i (min j l) = l by omega]; exact ⟨_, rfl⟩
    · rw [if_neg h2, show min i (min j l) = i by omega]; exact ⟨_, rfl⟩
def rMaxAll (K : PySem.W.Frag) : List V → Hp → VK → Prop := fun xs H Q => (fun xs H Q => ∃ i j, xs = [.int i, .int j] ∧ Q (.int (if j > i then j else i)) H) xs H Q ∨ (fun xs H Q => rMax3 xs H Q ∨ rMax K xs H Q) xs H Q
theorem cr_maxAll {X : Cx} (hc : X.calm = true) : CallR X (.builtin "max") (rMaxAll X.K) := (call_max2 hc).or ((cr_max3 hc).or (cr_max hc))
theorem cs_max : CallS K (rMaxAll K) maxD := fun F H xs ds z Q s hx hz k => by
  unfold maxD at hz
  split at hz
  · cases hz
    cases hx with
    | cons h1 h2 =>
      cases h2 with
      | cons h2 h3 =>
        cases h3
        cases h1
        cases h2
        exact .inl ⟨_, _, rfl, by rw [py_max]; exact k _ F H (Ext.refl s) (.int _)⟩
  · cases hz
    cases hx with
    | cons h1 h2 =>
      cases h2 with
      | cons h2 h3 =>
        cases h3 with
        | cons h3 h4 =>
          cases h4
          cases h1
          cases h2
          cases h3
          exact .inr (.inl ⟨_, _, _, rfl, k _ F H (Ext.refl s) (.int _)⟩)
  · rename_i es
    cases hx with
    | cons h1 h2 =>
      cases h2
      cases h1 with
      | @lst a ys _ hs ha =>
        cases e : intsOf es with
        | none => rw [e] at hz; cases hz
        | some ns =>
          rw [e] at hz
          have e2 := intsOf_some e
          subst e2
          have e3 := ha.ints
          subst e3
          by_cases hn : ns = []
          · subst hn
            cases hz
          · simp only [Option.bind_some, if_neg hn, Option.some.injEq] at hz
            subst hz
            refine .inr (.inr ⟨a, ns, rfl, same_sqL s hs, List.length_pos_iff.mpr hn, fun m h1 h2 => ?_⟩)
            rw [max1_uniq hn h1 h2]
            exact k _ F H (Ext.refl s) (.int _)
  · cases hz
def rMinAll (K : PySem.W.Frag) : List V → Hp → VK → Prop := fun xs H Q => (fun xs H Q => ∃ i j, xs = [.int i, .int j] ∧ Q (.int (if j < i then j else i)) H) xs H Q ∨ (fun xs H Q => rMin3 xs H Q ∨ rMin K xs H Q) xs H Q
theorem cr_minAll {X : Cx} (hc : X.calm = true) : CallR X (.builtin "min") (rMinAll X.K) := (call_min2 hc).or ((cr_min3 hc).or (cr_min hc))
theorem cs_min : CallS K (rMinAll K) minD := fun F H xs ds z Q s hx hz k => by
  unfold minD at hz
  split at hz
  · cases hz
    cases hx with
    | cons h1 h2 =>
      cases h2 with
      | cons h2 h3 =>
        cases h3
        cases h1
        cases h2
        exact .inl ⟨_, _, rfl, by rw [py_min]; exact k _ F H (Ext.refl s) (.int _)⟩
  · cases hz
    cases hx with
    | cons h1 h2 =>
      cases h2 with
      | cons h2 h3 =>
        cases h3 with
        | cons h3 h4 =>
          cases h4
          cases h1
          cases h2
          cases h3
          exact .inr (.inl ⟨_, _, _, rfl, k _ F H (Ext.refl s) (.int _)⟩)
  · rename_i es
    cases hx with
    | cons h1 h2 =>
      cases h2
      cases h1 with
      | @lst a ys _ hs ha =>
        cases e : intsOf es with
        | none => rw [e] at hz; cases hz
        | some ns =>
          rw [e] at hz
          have e2 := intsOf_some e
          subst e2
          have e3 := ha.ints
          subst e3
          by_cases hn : ns = []
          · subst hn
            cases hz
          · simp only [Option.bind_some, if_neg hn, Option.some.injEq] at hz
            subst hz
            refine .inr (.inr ⟨a, ns, rfl, same_sqL s hs, List.length_pos_iff.mpr hn, fun m h1 h2 => ?_⟩)
            rw [min1_uniq hn h1 h2]
            exact k _ F H (Ext.refl s) (.int _)
  · cases hz
theorem cs_all : CallS K (rAll K) allD := fun F H xs ds z Q s hx hz k => by
  unfold allD at hz
  split at hz
  · rename_i es
    cases hx with
    | cons h1 h2 =>
      cases h2
      cases h1 with
      | @lst a ys _ hs ha =>
        cases e : boolsOf es with
        | none => rw [e] at hz; cases hz
        | some ns =>
          rw [e] at hz
          cases hz
          have e2 := boolsOf_some e
          subst e2
          have e3 := ha.bools
          subst e3
          exact ⟨a, ns, rfl, same_sqL s hs, k _ F H (Ext.refl s) (.bl _)⟩
  · cases hz
theorem cs_abs : CallS K (fun xs H Q => ∃ i, xs = [.int i] ∧ Q (.int (if i < 0 then -i else i)) H) absD := fun F H xs ds z Q s hx hz k => by
  unfold absD at hz
  split at hz
  · cases hz
    cases hx with
    | cons h1 h2 =>
      cases h2
      cases h1
      exact ⟨_, rfl, k _ F H (Ext.refl s) (.int _)⟩
  · cases hz
theorem cs_tuple : CallS K (fun xs H Q => ∃ p ys, xs = [.ref p] ∧ ((SqL K H p ys ∧ ∀ l, H l = none → Q (.ref l) (upd H l (.tup ys))) ∨ (SqT K H p ys ∧ Q (.ref p) H))) tupleD := fun F H xs ds z Q s hx hz k => by
  unfold tupleD at hz
  split at hz
  · rename_i es
    cases hz
    cases hx with
    | cons h1 h2 =>
      cases h2
      cases h1 with
      | @lst a ys _ hs ha =>
        refine ⟨a, ys, rfl, .inl ⟨same_sqL s hs, fun l hl => ?_⟩⟩
        have ex := Ext.new (o := .tup ys) s hl
        exact k _ _ _ ex (.tup upd_same (ha.up ex.ff))
  · rename_i es
    cases hz
    cases hx with
    | cons h1 h2 =>
      cases h2
      cases h1 with
      | @tup a ys _ hs ha => exact ⟨a, ys, rfl, .inr ⟨same_sqT s (SqT.of hs), k _ F H (Ext.refl s) (.tup hs ha)⟩⟩
  · cases hz
theorem co_list : CallO K (fun xs H Q => ∃ p ys, xs = [.ref p] ∧ (SqL K H p ys ∨ SqT K H p ys) ∧ ∀ l, H l = none → Q (.ref l) (upd H l (.lst ys))) listD := fun F H xs ds z Q s hx hz k => by
  unfold listD at hz
  split at hz
  · rename_i es
    cases hz
    cases hx with
    | cons h1 h2 =>
      cases h2
      cases h1 with
      | @lst a ys _ hs ha => exact ⟨a, ys, rfl, .inl (same_sqL s hs), fun l hl => k l _ F _ (Ext.newH s hl) hl (Same.free s hl) upd_same ha⟩
  · rename_i es
    cases hz
    cases hx with
    | cons h1 h2 =>
      cases h2
      cases h1 with
      | @tup a ys _ hs ha => exact ⟨a, ys, rfl, .inr (same_sqT s (SqT.of hs)), fun l hl => k l _ F _ (Ext.newH s hl) hl (Same.free s hl) upd_same ha⟩
  · cases hz
end
end Lin

/-! Lin5: defs and their calls; lists that a slot owns; comprehensions as expressions. -/
namespace Lin
open PySem L2

/-- all of H but F and the object at a -/
def GoF (F H : Hp) : Hp := fun b => match F b with
  | none => H b
  | some _ => none
theorem GoF.rp0 {F H : Hp} (h : Same F H) : Rp0 (GoF F H) F H := by
  refine ⟨h, fun b o e => ?_, fun b hb => ?_⟩
  · unfold GoF at e
    split at e
    · exact e
    · cases e
  · unfold GoF
    split
    · rename_i q
      exact absurd q hb.1
    · rfl
/-- what a body that started with GoF leaves -/
theorem GoF.ext {F H F' H' : Hp} (h : Same F H) (s : Same F F') (z : Rp0 (GoF F H) F' H') : Ext F H F' H' := by
  refine ⟨s, z.fh, fun b o e => ?_, fun b hb => ?_⟩
  · cases q : F b with
    | none => exact z.gh b o (by unfold GoF; rw [q]; exact e)
    | some u =>
      have := h b u q
      rw [e] at this
      cases this
      exact z.fh b _ (s b _ q)
  · have g := z.fg b hb
    unfold GoF at g
    split at g
    · exact .inr g
    · rename_i u q
      exact .inl (NT.some q fun xs z => hb.2 xs (by subst z; exact s b _ q))
/-- the environment at the entry -/
@[simp] def start0 (N : Nat) (ds : List D) : Ev := ds.map Slot.val ++ List.replicate (N - ds.length) .free
/-- a def that computes on data -/
@[simp] def fnV (np N : Nat) (c : CS) : List D → R D := fun ds => if ds.length = np then match c (start0 N ds) with
    | .ok (.ret d, _) => .ok d
    | .ok (.retO es, _) => .ok (.list es)
    | .ok (.next, _) => .ok .none
    | .ok _ => .stuck
    | .exc e => .exc e
    | .stuck => .stuck
  else .stuck
/-- a def that hands back a new list -/
@[simp] def fnO (np N : Nat) (c : CS) : List D → R (List D) := fun ds => if ds.length = np then match c (start0 N ds) with
    | .ok (.retO es, _) => .ok es
    | .ok _ => .stuck
    | .exc e => .exc e
    | .stuck => .stuck
  else .stuck
/-- a def that hands back a new dict -/
@[simp] def fnD (np N : Nat) (c : CS) : List D → R Cont := fun ds => if ds.length = np then match c (start0 N ds) with
    | .ok (.retC es, _) => .ok es
    | .ok _ => .stuck
    | .exc e => .exc e
    | .stuck => .stuck
  else .stuck
/-- a def whose first parameter is a list that it changes -/
@[simp] def startM (N : Nat) (ls : List D) (ds : List D) : Ev := .own (some 0) ls :: start0 (N - 1) ds
@[simp] def endM (τ : Ev) : Option (List D) := match τ with
  | .own (some 0) (.lst es) :: _ => some es
  | _ => none
@[simp] def fnM (np N : Nat) (c : CS) : List D → List D → R (D × List D) := fun ls ds => if ds.length + 1 = np then match c (startM N ls ds) with
    | .ok (.ret d, τ) => (R.ofOpt (endM τ)).bind fun es => .ok (d, es)
    | .ok (.retO fs, τ) => (R.ofOpt (endM τ)).bind fun es => .ok (.list fs, es)
    | _ => .stuck
  else .stuck
section
variable (K : PySem.W.Frag) (XM : Nat → Value)
def spV (np : Nat) (fn : List D → R D) : Sp := fun vs H Q E => ∃ (F : Hp) (ds : List D), Same F H ∧ DpAll K F vs ds ∧ ds.length = np ∧ match fn ds with
  | .ok d => ∀ v F' H', Ext F H F' H' → Dp K F' v d → Q v H'
  | .exc e => ∀ H', Same H H' → E (XM e) none H'
  | .stuck => False
def spO (np : Nat) (fn : List D → R (List D)) : Sp := fun vs H Q E => ∃ (F : Hp) (ds : List D), Same F H ∧ DpAll K F vs ds ∧ ds.length = np ∧ match fn ds with
  | .ok es => ∀ p ys F' H', Ext F H F' H' → F' p = none → H p = none → H' p = some (.lst ys) → DpAll K F' ys es → Q (.ref p) H'
  | .exc e => ∀ H', Same H H' → E (XM e) none H'
  | .stuck => False
def spD (np : Nat) (fn : List D → R Cont) : Sp := fun vs H Q E => ∃ (F : Hp) (ds : List D), Same F H ∧ DpAll K F vs ds ∧ ds.length = np ∧ match fn ds with
  | .ok es => ∀ p o F' H', Ext F H F' H' → F' p = none → H p = none → H' p = some o → ContIs K F' o es → Q (.ref p) H'
  | .exc e => ∀ H', Same H H' → E (XM e) none H'
  | .stuck => False
def spM (np : Nat) (fn : List D → List D → R (D × List D)) : Sp := fun vs H Q E => ∃ (F : Hp) (a : Addr) (us : List V) (xs : List V) (ls ds : List D), vs = .ref a :: us ∧ Same F H ∧ F a = none ∧ H a = some (.lst xs) ∧ DpAll K F xs ls ∧ DpAll K F us ds ∧ ds.length + 1 = np ∧ match fn ls ds with
  | .ok (d, es) => ∀ v F' H' ys, Same F F' → Same F' H' → (∀ b o, b ≠ a → H b = some o → H' b = some o) → (∀ b, NT F' b → NT F b ∨ H b = none) → F' a = none → H' a = some (.lst ys) → DpAll K F' ys es → Dp K F' v d → Q v H'
  | _ => False
end
section
variable {K : PySem.W.Frag} {XM : Nat → Value}
theorem start_rp {F H : Hp} {vs : List V} {ds : List D} {N : List Str} {G : Hp} {pa : List Addr} (z : Rp0 G F H) (hd : DpAll K F vs ds) : Rp K pa G F H (start N vs) (start0 N.length ds) := by
  have hl := hd.length
  have get : ∀ (i : Nat) s, (start0 N.length ds)[i]? = some s → s ≠ .free → ∃ d, s = .val d ∧ ds[i]? = some d := fun i s e hs => by
    unfold start0 at e
    by_cases hi : i < ds.length
    · rw [List.getElem?_append_left (by simpa using hi), List.getElem?_map] at e
      cases q : ds[i]? with
      | none => rw [q] at e; cases e
      | some d => rw [q] at e; cases e; exact ⟨d, rfl, rfl⟩
    · rw [List.getElem?_append_right (by simpa using hi), List.getElem?_replicate] at e
      split at e
      · cases e
        exact absurd rfl hs
      · cases e
  refine ⟨z, ?_, fun i d e => ?_, fun i t es e => ?_, fun i j t es u es' a e => ?_⟩
  · simp [L2.start, start0, hl]
  · obtain ⟨d', e1, e2⟩ := get i _ e (by intro q; cases q)
    cases e1
    obtain ⟨v, h1, h2⟩ := hd.get e2
    refine ⟨v, ?_, h2⟩
    unfold L2.start
    have hi : i < vs.length := (List.getElem?_eq_some_iff.mp h1).1
    rw [List.getElem?_append_left (by simpa using hi), List.getElem?_map, h1]
    rfl
  · obtain ⟨d', e1, _⟩ := get i _ e (by intro q; cases q)
    cases e1
  · obtain ⟨d', e1, _⟩ := get i _ e (by intro q; cases q)
    cases e1
theorem startM_rp {F H : Hp} {vs : List V} {ds ls : List D} {N : List Str} {G : Hp} {a : Addr} {xs : List V} (hN : 0 < N.length) (z : Rp0 G F H) (hd : DpAll K F vs ds) (ha : H a = some (.lst xs)) (hx : DpAll K F xs ls) (hf : F a = none) (hg : G a = none) :
    Rp K [a] G F H (start N (.ref a :: vs)) (startM N.length ls ds) := by
  cases N with
  | nil => exact absurd hN (by simp)
  | cons n N =>
    have e1 : start (n :: N) (.ref a :: vs) = some (.ref a) :: start N vs := by simp [L2.start]
    have e2 : startM (n :: N).length ls ds = .own (some 0) ls :: start0 N.length ds := by simp [startM]
    rw [e1, e2]
    have r := start_rp (N := N) (pa := [a]) z hd
    refine ⟨z, by simp [r.len], fun i d e => ?_, fun i t es e => ?_, fun i j t es u es' b h1 h2 h3 h4 => ?_⟩
    · cases i with
      | zero => cases e
      | succ i => exact r.val i d e
    · cases i with
      | zero =>
        cases e
        exact ⟨a, rfl, ⟨_, ha, .lst hx⟩, hf, hg, fun k e => by cases e; rfl⟩
      | succ i =>
        exfalso
        obtain ⟨b, _, _⟩ := r.own i t es e
        have e : (start0 N.length ds)[i]? = some (Slot.own t es) := e
        unfold start0 at e
        by_cases hi : i < ds.length
        · rw [List.getElem?_append_left (by simpa using hi), List.getElem?_map] at e
          cases q : ds[i]? with
          | none => rw [q] at e; cases e
          | some d => rw [q] at e; cases e
        · rw [List.getElem?_append_right (by simpa using hi), List.getElem?_replicate] at e
          split at e <;> cases e
    · have no : ∀ {i : Nat} {t es}, (start0 N.length ds)[i]? = some (Slot.own t es) → False := fun {i t es} e => by
        unfold start0 at e
        by_cases hi : i < ds.length
        · rw [List.getElem?_append_left (by simpa using hi), List.getElem?_map] at e
          cases q : ds[i]? with
          | none => rw [q] at e; cases e
          | some d => rw [q] at e; cases e
        · rw [List.getElem?_append_right (by simpa using hi), List.getElem?_replicate] at e
          split at e <;> cases e
      cases i with
      | zero =>
        cases j with
        | zero => rfl
        | succ j => exact (no (i := j) h2).elim
      | succ i => exact (no (i := i) h1).elim
end

open PySem.Spec PyProof.Rows in
/-- a def by its body; what it lets out has no context -/
theorem okN {P : Program} {w : World} {K : PySem.W.Frag} {mg : Str → Option Value} {base : Heap} {x qual : Str} {st : Stmt} {f : Addr} {fd : FuncData} {N ps : List Str} {k : Nat} {sp : Sp} (F : Fun K x qual st f fd) (S : FnScope N ps (defScope st)) (len : ∀ vs H Q E, sp vs H Q E → vs.length = ps.length)
    (hb : ∀ (cdv : Value) (A : Around) (outer : List Env) (s : Shared) (H : Hp) (vs : List V) (Q : VK) (E : XK), Room k (A.deeper (envOfC qual (defScope st) s.heap.objs.size f cdv)) → sp vs H Q E →
      ∃ t, PSs (cxOf (L2N.CX P w) P w K mg base N qual (defScope st) f cdv A outer s H E) (defBody st) t ∧ t { nx := fun _ H' => Q .non H', rt := Q } (start N vs) H) : FnOk P w K mg base (L2N.CX P w) (k + 1) f fd ps sp := by
  obtain ⟨oc, od, kV, doc, pm, an, cdv, ct, osl, e, lk, hcd⟩ := F.ex
  subst e
  exact fn_of lk hcd S len fun A outer s H vs Q E hr hsp => hb cdv A outer s H vs Q E hr hsp
theorem takesN {X : Cx} : L2N.Takes X (fun _ _ _ _ => False) := fun _ _ h => by
  obtain ⟨_, _, _, _, _, _, _, _, _, _, _, _, _, _, _, _, z⟩ := h
  exact z.elim
/-! ### what the text says of a def, and that it keeps its promise -/
structure Ctx where
  P : Program
  w : World
  K : PySem.W.Frag
  mg : Str → Option Value
  base : Heap
  XM : Nat → Value
/-- the wish of a def about exceptions -/
abbrev wish (E : XK) : WX := fun cls d _ H => E cls d H
/-- a def of the text: where it stands, its name, how it binds -/
structure Def (C : Ctx) (x : Str) (st : Stmt) (ps : List Str) (f : Addr) (fd : FuncData) : Prop where
  fn : Fun C.K x x st f fd
  at_ : C.mg x = some (.ref f)
  bind : Binds C.K fd ps []
structure HasV (C : Ctx) (x : Str) (k : Nat) (fn : List D → R D) : Prop where
  ex : ∃ (f : Addr) (fd : FuncData) (ps : List Str), FnOk C.P C.w C.K C.mg C.base (L2N.CX C.P C.w) k f fd ps (spV C.K C.XM ps.length fn) ∧ C.mg x = some (.ref f) ∧ PySem.W.keepIn C.K (.ref f) = true ∧ Binds C.K fd ps [] ∧ ∀ ds, fn ds ≠ .stuck → ds.length = ps.length
structure HasO (C : Ctx) (x : Str) (k : Nat) (fn : List D → R (List D)) : Prop where
  ex : ∃ (f : Addr) (fd : FuncData) (ps : List Str), FnOk C.P C.w C.K C.mg C.base (L2N.CX C.P C.w) k f fd ps (spO C.K C.XM ps.length fn) ∧ C.mg x = some (.ref f) ∧ PySem.W.keepIn C.K (.ref f) = true ∧ Binds C.K fd ps [] ∧ ∀ ds, fn ds ≠ .stuck → ds.length = ps.length
structure HasD (C : Ctx) (x : Str) (k : Nat) (fn : List D → R Cont) : Prop where
  ex : ∃ (f : Addr) (fd : FuncData) (ps : List Str), FnOk C.P C.w C.K C.mg C.base (L2N.CX C.P C.w) k f fd ps (spD C.K C.XM ps.length fn) ∧ C.mg x = some (.ref f) ∧ PySem.W.keepIn C.K (.ref f) = true ∧ Binds C.K fd ps [] ∧ ∀ ds, fn ds ≠ .stuck → ds.length = ps.length
structure HasM (C : Ctx) (x : Str) (k : Nat) (fn : List D → List D → R (D × List D)) : Prop where
  ex : ∃ (f : Addr) (fd : FuncData) (ps : List Str), FnOk C.P C.w C.K C.mg C.base (L2N.CX C.P C.w) k f fd ps (spM C.K ps.length fn) ∧ C.mg x = some (.ref f) ∧ PySem.W.keepIn C.K (.ref f) = true ∧ Binds C.K fd ps [] ∧ ∀ ls ds, fn ls ds ≠ .stuck → ds.length + 1 = ps.length
/-- the context of a def's body -/
abbrev bodyX (C : Ctx) (N : List Str) (x : Str) (st : Stmt) (f : Addr) (cdv : Value) (A : Around) (outer : List Env) (s : Shared) (H : Hp) (E : XK) : Cx :=
  cxOf (L2N.CX C.P C.w) C.P C.w C.K C.mg C.base N x (defScope st) f cdv A outer s H E
theorem takes_body {C : Ctx} {N : List Str} {x : Str} {st : Stmt} {f : Addr} {cdv : Value} {A : Around} {outer : List Env} {s : Shared} {H : Hp} {E : XK} : L2N.Takes (bodyX C N x st f cdv A outer s H E) (wish E) := L2N.takes_of rfl rfl rfl rfl
theorem passes_body {C : Ctx} {N : List Str} {x : Str} {st : Stmt} {f : Addr} {cdv : Value} {A : Around} {outer : List Env} {s : Shared} {H : Hp} {E : XK} : PassesOwn (model (bodyX C N x st f cdv A outer s H E).prog (bodyX C N x st f cdv A outer s H E).w) (bodyX C N x st f cdv A outer s H E).A (bodyX C N x st f cdv A outer s H E).env (bodyX C N x st f cdv A outer s H E).xe :=
  passes_of (E₁ := _) (K := _) rfl
section
variable {C : Ctx} {x : Str} {st : Stmt} {ps N : List Str} {f : Addr} {fd : FuncData} {k : Nat} {c : CS}
theorem mkV0 (d : Def C x st ps f fd) (S : FnScope N ps (defScope st))
    (body : ∀ (cdv : Value) (A : Around) (outer : List Env) (s : Shared) (H : Hp) (E : XK), Room k (bodyX C N x st f cdv A outer s H E).A → SSs (bodyX C N x st f cdv A outer s H E) (wish E) C.XM [] (defBody st) c) :
    FnOk C.P C.w C.K C.mg C.base (L2N.CX C.P C.w) (k + 1) f fd ps (spV C.K C.XM ps.length (fnV ps.length N.length c)) ∧ ∀ ds, fnV ps.length N.length c ds ≠ .stuck → ds.length = ps.length := by
  refine ⟨?_, fun ds h => ?_⟩
  · refine okN d.fn S (fun vs H Q E h => ?_) fun cdv A outer s H vs Q E hr h => ?_
    · obtain ⟨F, ds, _, hd, hl, _⟩ := h
      rw [hd.length, hl]
    · obtain ⟨F, ds, hF, hd, hl, h⟩ := h
      refine ⟨_, body cdv A outer s H E hr, GoF F H, F, start0 N.length ds, start_rp (GoF.rp0 hF) hd, ?_⟩
      unfold fnV at h
      rw [if_pos hl] at h
      unfold AtS
      cases e : c (start0 N.length ds) with
      | stuck => rw [e] at h; exact h.elim
      | exc x =>
        rw [e] at h
        intro σ' F' H' _ s' z
        exact h H' (GoF.ext hF s' z).hh
      | ok p =>
        obtain ⟨fl, τ⟩ := p
        rw [e] at h
        cases fl with
        | next => exact fun σ' F' H' _ s' r => h .non F' H' (GoF.ext hF s' r.z) .non
        | brk => exact h.elim
        | cont => exact h.elim
        | retC c => exact h.elim
        | ret v => exact fun u σ' F' H' _ s' r hv => h u F' H' (GoF.ext hF s' r.z) hv
        | retO es =>
          intro p σ' F' H' _ s' r l
          obtain ⟨⟨xs, hx, hd'⟩, hf, hg, no⟩ := l
          obtain ⟨ff, r2⟩ := r.settle hx hf hg no
          exact h _ _ H' (GoF.ext hF (Same.trans s' ff) r2.z) (.lst (SqL.of upd_same) (hd'.up ff))
  · unfold fnV at h
    split at h
    · assumption
    · exact absurd rfl h
theorem mkV (d : Def C x st ps f fd) (S : FnScope N ps (defScope st))
    (body : ∀ (cdv : Value) (A : Around) (outer : List Env) (s : Shared) (H : Hp) (E : XK), Room k (bodyX C N x st f cdv A outer s H E).A → SSs (bodyX C N x st f cdv A outer s H E) (wish E) C.XM [] (defBody st) c) : HasV C x (k + 1) (fnV ps.length N.length c) :=
  ⟨f, fd, ps, (mkV0 d S body).1, d.at_, d.fn.kp, d.bind, (mkV0 d S body).2⟩
theorem mkO (d : Def C x st ps f fd) (S : FnScope N ps (defScope st))
    (body : ∀ (cdv : Value) (A : Around) (outer : List Env) (s : Shared) (H : Hp) (E : XK), Room k (bodyX C N x st f cdv A outer s H E).A → SSs (bodyX C N x st f cdv A outer s H E) (wish E) C.XM [] (defBody st) c) : HasO C x (k + 1) (fnO ps.length N.length c) := by
  refine ⟨f, fd, ps, ?_, d.at_, d.fn.kp, d.bind, fun ds h => ?_⟩
  · refine okN d.fn S (fun vs H Q E h => ?_) fun cdv A outer s H vs Q E hr h => ?_
    · obtain ⟨F, ds, _, hd, hl, _⟩ := h
      rw [hd.length, hl]
    · obtain ⟨F, ds, hF, hd, hl, h⟩ := h
      refine ⟨_, body cdv A outer s H E hr, GoF F H, F, start0 N.length ds, start_rp (GoF.rp0 hF) hd, ?_⟩
      unfold fnO at h
      rw [if_pos hl] at h
      unfold AtS
      cases e : c (start0 N.length ds) with
      | stuck => rw [e] at h; exact h.elim
      | exc x =>
        rw [e] at h
        intro σ' F' H' _ s' z
        exact h H' (GoF.ext hF s' z).hh
      | ok p =>
        obtain ⟨fl, τ⟩ := p
        rw [e] at h
        cases fl with
        | next => exact h.elim
        | brk => exact h.elim
        | cont => exact h.elim
        | retC c => exact h.elim
        | ret v => exact h.elim
        | retO es =>
          intro p σ' F' H' _ s' r l
          obtain ⟨⟨xs, hx, hd'⟩, hf, hg, no⟩ := l
          have hn : H p = none := by
            unfold GoF at hg
            split at hg
            · exact hg
            · rename_i u q
              have := s' p u q
              rw [hf] at this
              cases this
          exact h p xs F' H' (GoF.ext hF s' r.z) hf hn hx hd'
  · unfold fnO at h
    split at h
    · assumption
    · exact absurd rfl h
theorem mkD (d : Def C x st ps f fd) (S : FnScope N ps (defScope st))
    (body : ∀ (cdv : Value) (A : Around) (outer : List Env) (s : Shared) (H : Hp) (E : XK), Room k (bodyX C N x st f cdv A outer s H E).A → SSs (bodyX C N x st f cdv A outer s H E) (wish E) C.XM [] (defBody st) c) : HasD C x (k + 1) (fnD ps.length N.length c) := by
  refine ⟨f, fd, ps, ?_, d.at_, d.fn.kp, d.bind, fun ds h => ?_⟩
  · refine okN d.fn S (fun vs H Q E h => ?_) fun cdv A outer s H vs Q E hr h => ?_
    · obtain ⟨F, ds, _, hd, hl, _⟩ := h
      rw [hd.length, hl]
    · obtain ⟨F, ds, hF, hd, hl, h⟩ := h
      refine ⟨_, body cdv A outer s H E hr, GoF F H, F, start0 N.length ds, start_rp (GoF.rp0 hF) hd, ?_⟩
      unfold fnD at h
      rw [if_pos hl] at h
      unfold AtS
      cases e : c (start0 N.length ds) with
      | stuck => rw [e] at h; exact h.elim
      | exc x =>
        rw [e] at h
        intro σ' F' H' _ s' z
        exact h H' (GoF.ext hF s' z).hh
      | ok p =>
        obtain ⟨fl, τ⟩ := p
        rw [e] at h
        cases fl with
        | next => exact h.elim
        | brk => exact h.elim
        | cont => exact h.elim
        | ret v => exact h.elim
        | retO es => exact h.elim
        | retC es =>
          intro p σ' F' H' _ s' r l
          obtain ⟨⟨xs, hx, hd'⟩, hf, hg, no⟩ := l
          have hn : H p = none := by
            unfold GoF at hg
            split at hg
            · exact hg
            · rename_i u q
              have := s' p u q
              rw [hf] at this
              cases this
          exact h p xs F' H' (GoF.ext hF s' r.z) hf hn hx hd'
  · unfold fnD at h
    split at h
    · assumption
    · exact absurd rfl h
theorem mkM (d : Def C x st ps f fd) (S : FnScope N ps (defScope st)) (hN : 0 < N.length)
    (body : ∀ (a : Addr) (cdv : Value) (A : Around) (outer : List Env) (s : Shared) (H : Hp) (E : XK), Room k (bodyX C N x st f cdv A outer s H E).A → SSs (bodyX C N x st f cdv A outer s H E) (wish E) C.XM [a] (defBody st) c) : HasM C x (k + 1) (fnM ps.length N.length c) := by
  refine ⟨f, fd, ps, ?_, d.at_, d.fn.kp, d.bind, fun ls ds h => ?_⟩
  · refine okN d.fn S (fun vs H Q E h => ?_) fun cdv A outer s H vs Q E hr h => ?_
    · obtain ⟨F, a, us, xs, ls, ds, rfl, _, _, _, _, hd, hl, _⟩ := h
      rw [List.length_cons, hd.length, hl]
    · obtain ⟨F, a, us, xs, ls, ds, rfl, hF, fa, ha, hx, hd, hl, h⟩ := h
      let G : Hp := fun b => if b = a then none else GoF F H b
      have gle : ∀ b o, G b = some o → b ≠ a ∧ GoF F H b = some o := fun b o e => by
        by_cases q : b = a
        · rw [show G b = none from if_pos q] at e
          cases e
        · rw [show G b = GoF F H b from if_neg q] at e
          exact ⟨q, e⟩
      have z0 := GoF.rp0 hF
      have z : Rp0 G F H := ⟨hF, fun b o e => z0.gh b o (gle b o e).2, fun b hb => by
        by_cases q : b = a
        · exact if_pos q
        · rw [show G b = GoF F H b from if_neg q]
          exact z0.fg b hb⟩
      refine ⟨_, body a cdv A outer s H E hr, G, F, startM N.length ls ds, startM_rp hN z hd ha hx fa (if_pos rfl), ?_⟩
      unfold fnM at h
      rw [if_pos hl] at h
      unfold AtS
      cases e : c (startM N.length ls ds) with
      | stuck => rw [e] at h; exact h.elim
      | exc x => rw [e] at h; exact h.elim
      | ok p =>
        obtain ⟨fl, τ⟩ := p
        rw [e] at h
        cases fl with
        | next => exact h.elim
        | brk => exact h.elim
        | cont => exact h.elim
        | retC c => exact h.elim
        | ret v =>
          have h : (match (R.ofOpt (endM τ)).bind fun es => R.ok (v, es) with
            | .ok (d, es) => ∀ v F' H' ys, Same F F' → Same F' H' → (∀ b o, b ≠ a → H b = some o → H' b = some o) → (∀ b, NT F' b → NT F b ∨ H b = none) → F' a = none → H' a = some (.lst ys) → DpAll C.K F' ys es → Dp C.K F' v d → Q v H'
            | _ => False) := h
          cases eo : endM τ with
          | none => rw [eo] at h; exact h.elim
          | some es =>
            rw [eo] at h
            intro u σ' F' H' _ s' r hv
            have e0 : τ[0]? = some (.own (some 0) (.lst es)) := by
              unfold endM at eo
              split at eo
              · cases eo
                rfl
              · cases eo
            obtain ⟨b, h1, ⟨ys, h2, h3⟩, h4, h5, h6⟩ := r.ownL 0 _ _ e0
            have hb := h6 0 rfl
            cases hb
            refine h u F' H' ys s' r.z.fh (fun b o q e1 => ?_) (fun b hb => ?_) h4 h2 h3 hv
            · cases q1 : F b with
              | none => exact r.z.gh b o (by show (if b = a then none else GoF F H b) = _; rw [if_neg q]; unfold GoF; rw [q1]; exact e1)
              | some w =>
                have := hF b w q1
                rw [e1] at this
                cases this
                exact r.z.fh b _ (s' b _ q1)
            · by_cases q : b = a
              · subst q
                exact absurd h4 hb.1
              · have g := r.z.fg b hb
                rw [show G b = GoF F H b from if_neg q] at g
                unfold GoF at g
                split at g
                · exact .inr g
                · rename_i w q1
                  exact .inl (NT.some q1 fun xs z => hb.2 xs (by subst z; exact s' b _ q1))
        | retO fs =>
          have h : (match (R.ofOpt (endM τ)).bind fun es => R.ok ((.list fs : D), es) with
            | .ok (d, es) => ∀ v F' H' ys, Same F F' → Same F' H' → (∀ b o, b ≠ a → H b = some o → H' b = some o) → (∀ b, NT F' b → NT F b ∨ H b = none) → F' a = none → H' a = some (.lst ys) → DpAll C.K F' ys es → Dp C.K F' v d → Q v H'
            | _ => False) := h
          cases eo : endM τ with
          | none => rw [eo] at h; exact h.elim
          | some es =>
            rw [eo] at h
            intro p σ' F1 H' _ s1 r1 lo
            obtain ⟨⟨xs1, hx1, hd1⟩, hf1, hg1, no1⟩ := lo
            obtain ⟨ff1, r⟩ := r1.settle hx1 hf1 hg1 no1
            have s' := Same.trans s1 ff1
            have hv : Dp C.K (upd F1 p (.lst xs1)) (.ref p) (.list fs) := .lst (SqL.of upd_same) (hd1.up ff1)
            have e0 : τ[0]? = some (.own (some 0) (.lst es)) := by
              unfold endM at eo
              split at eo
              · cases eo
                rfl
              · cases eo
            obtain ⟨b, h1, ⟨ys, h2, h3⟩, h4, h5, h6⟩ := r.ownL 0 _ _ e0
            have hb := h6 0 rfl
            cases hb
            refine h (.ref p) (upd F1 p (.lst xs1)) H' ys s' r.z.fh (fun b o q e1 => ?_) (fun b hb => ?_) h4 h2 h3 hv
            · cases q1 : F b with
              | none => exact r.z.gh b o (by show (if b = a then none else GoF F H b) = _; rw [if_neg q]; unfold GoF; rw [q1]; exact e1)
              | some w =>
                have := hF b w q1
                rw [e1] at this
                cases this
                exact r.z.fh b _ (s' b _ q1)
            · by_cases q : b = a
              · subst q
                exact absurd h4 hb.1
              · have g := r.z.fg b hb
                rw [show G b = GoF F H b from if_neg q] at g
                unfold GoF at g
                split at g
                · exact .inr g
                · rename_i w q1
                  exact .inl (NT.some q1 fun xs z => hb.2 xs (by subst z; exact s' b _ q1))
  · unfold fnM at h
    split at h
    · assumption
    · exact absurd rfl h
end

/-! ### calls -/
section
variable {X : Cx} {W : WX} {pa : List Addr} {C : Ctx} {x : Str} {k : Nat} {e : Expr} {es : List Expr} {cr : CA} {p pos : Pos}
/-- the context is this body's -/
structure In (C : Ctx) (X : Cx) : Prop where
  prog : X.prog = C.P
  w : X.w = C.w
  K : X.K = C.K
  mg : X.mg = C.mg
  base : X.base = C.base
@[simp] def fnC (fn : List D → R D) (c : CA) : CE := fun τ => (c τ).bind fun p => (fn p.1).bind fun z => .ok (z, p.2)
@[simp] def fnCO (fn : List D → R (List D)) (c : CA) : CO := fun τ => (c τ).bind fun p => (fn p.1).bind fun z => .ok (z, p.2)
@[simp] def fnCD (fn : List D → R Cont) (c : CA) : CD := fun τ => (c τ).bind fun p => (fn p.1).bind fun z => .ok (z, p.2)
theorem se_call {fn : List D → R D} (h : HasV C x k fn) (i : In C X) (tk : L2N.Takes X W) (hr : Room k X.A) (hg : Gl X x) (ha : SA X W C.XM pa (e :: es) cr) (hdb : (x == ("__debug__" : Str)) = false := by decide)
    (he : starEach (e :: es) X.env = (false, eval e X.env) :: starEach es X.env := by rfl) (hpl : (backTo pos (starEach es X.env)).any (·.1) = false := by rfl) : SE X W C.XM pa (.Call (.Name x p) (e :: es) [] pos) (fnC fn cr) := by
  obtain ⟨f, fd, ps, F, m, kp, b, hl⟩ := h.ex
  obtain ⟨e1, e2, e3, e4, e5⟩ := i
  obtain ⟨P, w, K, mg, base, XM⟩ := C
  simp only at e1 e2 e3 e4 e5
  subst e1 e2 e3 e4 e5
  refine (pe_callS F hr hg m kp b (fun σ => L2N.passAt tk σ) ha hdb he hpl).imp fun σ H Q q => ?_
  obtain ⟨G, F0, τ, r0, q⟩ := q
  refine At.step r0 q fun F1 H1 d1 τ1 v s1 r1 h1 q1 => ?_
  have ne : fn d1 ≠ .stuck := fun z => by
    simp only [z] at q1
    exact q1.elim
  refine ⟨F1, d1, r1.z.fh, h1, hl d1 ne, ?_⟩
  revert q1
  unfold At
  simp only
  cases fn d1 with
  | stuck => exact fun q1 => q1.elim
  | exc x =>
    intro q1 H' s'
    exact q1 σ F1 H' rfl (Same.refl _) (r1.z.ext (Ext.mk (Same.refl _) (Same.trans r1.z.fh s') s' fun b hb => .inl hb))
  | ok d =>
    intro q1 u F' H' ex hu
    exact q1 u F' H' ex.ff (r1.ext ex) hu
theorem so_call {fn : List D → R (List D)} (h : HasO C x k fn) (i : In C X) (tk : L2N.Takes X W) (hr : Room k X.A) (hg : Gl X x) (ha : SA X W C.XM pa (e :: es) cr) (hdb : (x == ("__debug__" : Str)) = false := by decide)
    (he : starEach (e :: es) X.env = (false, eval e X.env) :: starEach es X.env := by rfl) (hpl : (backTo pos (starEach es X.env)).any (·.1) = false := by rfl) : SO X W C.XM pa (.Call (.Name x p) (e :: es) [] pos) (fnCO fn cr) := by
  obtain ⟨f, fd, ps, F, m, kp, b, hl⟩ := h.ex
  obtain ⟨e1, e2, e3, e4, e5⟩ := i
  obtain ⟨P, w, K, mg, base, XM⟩ := C
  simp only at e1 e2 e3 e4 e5
  subst e1 e2 e3 e4 e5
  refine (pe_callS F hr hg m kp b (fun σ => L2N.passAt tk σ) ha hdb he hpl).imp fun σ H Q q => ?_
  obtain ⟨G, F0, τ, r0, q⟩ := q
  refine At.step r0 q fun F1 H1 d1 τ1 v s1 r1 h1 q1 => ?_
  have ne : fn d1 ≠ .stuck := fun z => by
    simp only [z] at q1
    exact q1.elim
  refine ⟨F1, d1, r1.z.fh, h1, hl d1 ne, ?_⟩
  revert q1
  unfold At
  simp only
  cases fn d1 with
  | stuck => exact fun q1 => q1.elim
  | exc x =>
    intro q1 H' s'
    exact q1 σ F1 H' rfl (Same.refl _) (r1.z.ext (Ext.mk (Same.refl _) (Same.trans r1.z.fh s') s' fun b hb => .inl hb))
  | ok d =>
    intro q1 p ys F' H' ex fp hp hx hd
    exact q1 _ F' H' ex.ff (r1.ext ex) ⟨p, rfl, ⟨ys, hx, hd⟩, fp, Same.free r1.z.gh hp, r1.noOwn_new hp⟩
theorem sd_call {fn : List D → R Cont} (h : HasD C x k fn) (i : In C X) (tk : L2N.Takes X W) (hr : Room k X.A) (hg : Gl X x) (ha : SA X W C.XM pa (e :: es) cr) (hdb : (x == ("__debug__" : Str)) = false := by decide)
    (he : starEach (e :: es) X.env = (false, eval e X.env) :: starEach es X.env := by rfl) (hpl : (backTo pos (starEach es X.env)).any (·.1) = false := by rfl) : SD X W C.XM pa (.Call (.Name x p) (e :: es) [] pos) (fnCD fn cr) := by
  obtain ⟨f, fd, ps, F, m, kp, b, hl⟩ := h.ex
  obtain ⟨e1, e2, e3, e4, e5⟩ := i
  obtain ⟨P, w, K, mg, base, XM⟩ := C
  simp only at e1 e2 e3 e4 e5
  subst e1 e2 e3 e4 e5
  refine (pe_callS F hr hg m kp b (fun σ => L2N.passAt tk σ) ha hdb he hpl).imp fun σ H Q q => ?_
  obtain ⟨G, F0, τ, r0, q⟩ := q
  refine At.step r0 q fun F1 H1 d1 τ1 v s1 r1 h1 q1 => ?_
  have ne : fn d1 ≠ .stuck := fun z => by
    simp only [z] at q1
    exact q1.elim
  refine ⟨F1, d1, r1.z.fh, h1, hl d1 ne, ?_⟩
  revert q1
  unfold At
  simp only
  cases fn d1 with
  | stuck => exact fun q1 => q1.elim
  | exc x =>
    intro q1 H' s'
    exact q1 σ F1 H' rfl (Same.refl _) (r1.z.ext (Ext.mk (Same.refl _) (Same.trans r1.z.fh s') s' fun b hb => .inl hb))
  | ok d =>
    intro q1 p o F' H' ex fp hp hx hd
    exact q1 _ F' H' ex.ff (r1.ext ex) ⟨p, rfl, ⟨o, hx, hd⟩, fp, Same.free r1.z.gh hp, r1.noOwn_new hp⟩
/-- behind a call that changed the list of slot i -/
theorem Rp.through {K : PySem.W.Frag} {G F H F' H' : Hp} {σ : L2.St} {τ : Ev} {i : Nat} {t : Option Nat} {ls ns : List D} {a : Addr} {ys : List V} (r : Rp K pa G F H σ τ) (ht : τ[i]? = some (.own t ls)) (hs : σ[i]? = some (some (.ref a)))
    (ff : Same F F') (fh : Same F' H') (keep : ∀ b o, b ≠ a → H b = some o → H' b = some o) (nw : ∀ b, NT F' b → NT F b ∨ H b = none) (fa : F' a = none) (ha : H' a = some (.lst ys)) (hd : DpAll K F' ys ns) :
    Rp K pa G F' H' σ (τ.set i (.own t ns)) := by
  obtain ⟨a', h1, ⟨xs, h2, h3⟩, h4, h5, h6⟩ := r.ownL i t ls ht
  rw [hs] at h1
  cases h1
  have hl : i < τ.length := (List.getElem?_eq_some_iff.mp ht).1
  refine ⟨⟨fh, fun b o e => keep b o (fun q => by subst q; rw [h5] at e; cases e) (r.z.gh b o e), fun b hb => ?_⟩, by simp [r.len], fun j d hj => ?_, fun j u es hj => ?_, fun j l u es u' es' b e1 e2 e3 e4 => ?_⟩
  · rcases nw b hb with q | q
    · exact r.z.fg b q
    · exact Same.free r.z.gh q
  · by_cases hij : i = j
    · subst hij
      rw [List.getElem?_set_self hl] at hj; cases hj
    · rw [List.getElem?_set_ne hij] at hj
      obtain ⟨v, q1, q2⟩ := r.val j d hj
      exact ⟨v, q1, q2.up ff⟩
  · by_cases hij : i = j
    · subst hij
      rw [List.getElem?_set_self hl] at hj
      cases hj
      exact ⟨a, hs, ⟨_, ha, .lst hd⟩, fa, h5, h6⟩
    · rw [List.getElem?_set_ne hij] at hj
      obtain ⟨b, q1, ⟨zs, q2, q3⟩, q4, q5⟩ := r.own j u es hj
      have nb : b ≠ a := fun q => by
        subst q
        exact hij (r.one i j t ls u es b ht hj hs q1)
      refine ⟨b, q1, ⟨zs, keep b _ nb q2, q3.up ff⟩, ?_, q5⟩
      cases q : F' b with
      | none => rfl
      | some w =>
        rcases nw b (NT.some q fun xs z => by
          subst z
          have e1 := fh _ _ q
          rw [keep b _ nb q2] at e1
          cases e1
          exact q3.nt xs rfl) with z | z
        · exact absurd q4 z.1
        · rw [q2] at z; cases z
  · have back : ∀ {j : Nat} {u es}, (τ.set i (Slot.own t ns))[j]? = some (.own u es) → ∃ gs, τ[j]? = some (.own u gs) := fun {j u es} hj => by
      by_cases hij : i = j
      · subst hij
        rw [List.getElem?_set_self hl] at hj
        cases hj
        exact ⟨_, ht⟩
      · rw [List.getElem?_set_ne hij] at hj
        exact ⟨_, hj⟩
    obtain ⟨gs, w1⟩ := back e1
    obtain ⟨gs', w2⟩ := back e2
    exact r.one j l u gs u' gs' b w1 w2 e3 e4
@[simp] def fnCM (i : Nat) (fn : List D → List D → R (D × List D)) (c : CA) : CE := fun τ => match τ[i]? with
  | some (.own _ (.lst _)) => (c τ).bind fun p => match p.2[i]? with
    | some (.own t (.lst ls)) => match fn ls p.1 with
      | .ok q => .ok (q.1, p.2.set i (.own t q.2))
      | _ => .stuck
    | _ => .stuck
  | _ => .stuck
theorem se_callM (i : Nat) {y : Str} {p1 : Pos} {fn : List D → List D → R (D × List D)} (h : HasM C x k fn) (ic : In C X) (tk : L2N.Takes X W) (hr : Room k X.A) (hg : Gl X x) (hv : PE X (.Name y p1) (tVar i)) (ha : SA X W C.XM pa es cr) (hdb : (x == ("__debug__" : Str)) = false := by decide)
    (he : starEach (.Name y p1 :: es) X.env = (false, eval (.Name y p1) X.env) :: starEach es X.env := by rfl) (hpl : (backTo pos (starEach es X.env)).any (·.1) = false := by rfl) : SE X W C.XM pa (.Call (.Name x p) (.Name y p1 :: es) [] pos) (fnCM i fn cr) := by
  obtain ⟨f, fd, ps, F, m, kp, b, hl⟩ := h.ex
  obtain ⟨e1, e2, e3, e4, e5⟩ := ic
  obtain ⟨P, w, K, mg, base, XM⟩ := C
  simp only at e1 e2 e3 e4 e5
  subst e1 e2 e3 e4 e5
  refine (pe_callS F hr hg m kp b (fun σ => L2N.passAt tk σ) (pa_cons hv ha) hdb he hpl).imp fun σ H Q q => ?_
  obtain ⟨G, F0, τ, r0, q⟩ := q
  have key : ∃ a, σ[i]? = some (some (.ref a)) ∧ At X.K W XM pa (relE X.K) G F0 σ ((cr τ).bind fun p => match p.2[i]? with
    | some (.own t (.lst ls)) => match fn ls p.1 with
      | .ok q => .ok (q.1, p.2.set i (.own t q.2))
      | _ => .stuck
    | _ => .stuck) Q := by
    revert q
    unfold fnCM
    cases e1 : τ[i]? with
    | none => exact fun q => q.elim
    | some sl =>
      cases sl with
      | free => exact fun q => q.elim
      | val d => exact fun q => q.elim
      | own t c =>
        cases c with
       | dct _ _ => exact fun q => q.elim
       | lst ls =>
        obtain ⟨a, h1, _⟩ := r0.own i t ls e1
        exact fun q => ⟨a, h1, q⟩
  obtain ⟨a, ha0, q⟩ := key
  refine ⟨.ref a, ha0, At.step r0 q fun F1 H1 d1 τ1 v s1 r1 h1 q1 => ?_⟩
  simp only at q1
  cases e1 : τ1[i]? with
  | none => rw [e1] at q1; exact q1.elim
  | some sl =>
    rw [e1] at q1
    cases sl with
    | free => exact q1.elim
    | val d => exact q1.elim
    | own t c =>
      cases c with
     | dct _ _ => exact q1.elim
     | lst ls =>
      obtain ⟨a', g1, ⟨xs, g2, g3⟩, g4, g5, g6⟩ := r1.ownL i t ls e1
      rw [ha0] at g1
      cases g1
      simp only at q1
      have ne : fn ls d1 ≠ .stuck := fun z => by
        rw [z] at q1
        exact q1.elim
      refine ⟨F1, a, v, xs, ls, d1, rfl, r1.z.fh, g4, g2, g3, h1, hl ls d1 ne, ?_⟩
      revert q1
      cases fn ls d1 with
      | stuck => exact fun q1 => q1.elim
      | exc x => exact fun q1 => q1.elim
      | ok dq =>
        intro q1 u F' H' ys ff fh keep nw fa hx hd hu
        exact q1 u F' H' ff (r1.through e1 ha0 ff fh keep nw fa hx hd) hu
/-! ### a list that a slot owns -/
/-- source[e], source a slot's own list -/
@[simp] def ixOwn (i : Nat) (c : CE) : CE := fun τ => match τ[i]? with
  | some (.own _ (.lst _)) => (c τ).bind fun p => match p.2[i]? with
    | some (.own _ (.lst ls)) => (R.ofOpt (ixD (.list ls) p.1)).bind fun z => .ok (z, p.2)
    | _ => .stuck
  | _ => .stuck
theorem own_at {K : PySem.W.Frag} {XM : Nat → Value} {G F H : Hp} {σ : L2.St} {τ : Ev} {i : Nat} {Q : VK} {k : R (D × Ev)} (r : Rp K pa G F H σ τ) (q : At K W XM pa (relE K) G F σ (match τ[i]? with
  | some (.own _ (.lst _)) => k
  | _ => .stuck) Q) : ∃ a, σ[i]? = some (some (.ref a)) ∧ At K W XM pa (relE K) G F σ k Q := by
  cases e1 : τ[i]? with
  | none => rw [e1] at q; exact q.elim
  | some sl =>
    rw [e1] at q
    cases sl with
    | free => exact q.elim
    | val d => exact q.elim
    | own t c =>
      cases c with
     | dct _ _ => exact q.elim
     | lst ls =>
      obtain ⟨a, h1, _⟩ := r.own i t ls e1
      exact ⟨a, h1, q⟩
theorem se_ixOwn (i : Nat) {XM : Nat → Value} {y : Str} {p1 : Pos} {b : Expr} {cb : CE} (hv : PE X (.Name y p1) (tVar i)) (hb : SE X W XM pa b cb) (hp : PlainIx b) : SE X W XM pa (.Subscript (.Name y p1) b pos) (ixOwn i cb) :=
  (pe_ix ix_list hv hb hp).imp fun σ H Q q => by
    obtain ⟨G, F, τ, r0, q⟩ := q
    obtain ⟨a, ha0, q⟩ := own_at r0 q
    refine ⟨.ref a, ha0, At.step r0 q fun F1 H1 d1 τ1 v s1 r1 h1 q1 => ?_⟩
    simp only at q1
    cases e1 : τ1[i]? with
    | none => rw [e1] at q1; exact q1.elim
    | some sl =>
      rw [e1] at q1
      cases sl with
      | free => exact q1.elim
      | val d => exact q1.elim
      | own t c =>
        cases c with
       | dct _ _ => exact q1.elim
       | lst ls =>
        obtain ⟨a', g1, ⟨xs, g2, g3⟩, g4, g5, g6⟩ := r1.ownL i t ls e1
        rw [ha0] at g1
        cases g1
        obtain ⟨z, e2, q2⟩ := At.opt q1
        unfold ixD at e2
        cases d1 with
        | int j =>
          cases h1
          obtain ⟨v, e3, hv⟩ := atI_dp g3 e2
          exact ⟨a, xs, j, v, rfl, rfl, SqL.of g2, e3, q2 v F1 H1 (Same.refl _) r1 hv⟩
        | none => cases e2
        | bool _ => cases e2
        | str _ => cases e2
        | list _ => cases e2
        | tuple _ => cases e2
        | dict _ => cases e2
/-- what a slot owns, as data that is looked at once (in a call of a built-in, a comparison) -/
def lookC (f : D → Option D) (i : Nat) : CE := fun τ => match τ[i]? with
  | some (.own _ (.lst ls)) => (R.ofOpt (f (.list ls))).bind fun z => .ok (z, τ)
  | _ => .stuck
theorem look_own {K : PySem.W.Frag} {G F H : Hp} {σ : L2.St} {τ : Ev} {i : Nat} {t : Option Nat} {ls : List D} (r : Rp K pa G F H σ τ) (h : τ[i]? = some (.own t ls)) : ∃ a xs, σ[i]? = some (some (.ref a)) ∧ H a = some (.lst xs) ∧ DpAll K F xs ls := by
  obtain ⟨a, h1, ⟨xs, h2, h3⟩, _⟩ := r.ownL i t ls h
  exact ⟨a, xs, h1, h2, h3⟩
/-- xs.append(e) -/
@[simp] def appS (i : Nat) (c : CE) : CS := fun τ => match τ[i]? with
  | some (.own _ (.lst _)) => (c τ).bind fun p => match p.2[i]? with
    | some (.own t (.lst ls)) => if sized (ls.length + 1) = true then .ok (.next, p.2.set i (.own t (ls ++ [p.1]))) else .stuck
    | _ => .stuck
  | _ => .stuck
theorem own_atS {K : PySem.W.Frag} {XM : Nat → Value} {G F H : Hp} {σ : L2.St} {τ : Ev} {i : Nat} {E : Ends} {k : R (Flow × Ev)} (r : Rp K pa G F H σ τ) (q : AtS K W XM pa E G F σ.length (match τ[i]? with
  | some (.own _ (.lst _)) => k
  | _ => .stuck)) : ∃ a xs, σ[i]? = some (some (.ref a)) ∧ H a = some (.lst xs) ∧ AtS K W XM pa E G F σ.length k := by
  cases e1 : τ[i]? with
  | none => rw [e1] at q; exact q.elim
  | some sl =>
    rw [e1] at q
    cases sl with
    | free => exact q.elim
    | val d => exact q.elim
    | own t c =>
      cases c with
     | dct _ _ => exact q.elim
     | lst ls =>
      obtain ⟨a, xs, h1, h2, _⟩ := look_own r e1
      exact ⟨a, xs, h1, h2, q⟩
theorem ss_app (i : Nat) {XM : Nat → Value} {y : Str} {p1 p2 p3 : Pos} {a : Expr} {ca : CE} (hv : PE X (.Name y p1) (tVar i)) (ha : SE X W XM pa a ca)
    (hb : PE X (.Call (.Attribute (.Name y p1) "append" p2) [a] [] p3) (tBM X.K "list" rAppend (tVar i) (tCons (tG X.K W XM pa (relE X.K) ca) tNil)))
    (hs : swapsWith (.Call (.Attribute (.Name y p1) "append" p2) [a] [] p3) none pos.line X.env = pure false := by rfl) :
    SS X W XM pa (.Expr (.Call (.Attribute (.Name y p1) "append" p2) [a] [] p3) pos) (appS i ca) := (ps_expr hb hs).imp fun E σ H q => by
  obtain ⟨G, F, τ, r0, q⟩ := q
  obtain ⟨l, xs0, hl0, hx0, q⟩ := own_atS r0 q
  refine ⟨.ref l, hl0, .inl ⟨rfl, xs0, SqL.of hx0⟩, AtS.step r0 q fun F1 H1 d1 τ1 v s1 r1 h1 q1 => ?_⟩
  simp only at q1
  cases e1 : τ1[i]? with
  | none => rw [e1] at q1; exact q1.elim
  | some sl =>
    rw [e1] at q1
    cases sl with
    | free => exact q1.elim
    | val d => exact q1.elim
    | own t c =>
      cases c with
     | dct _ _ => exact q1.elim
     | lst ls =>
      obtain ⟨a', xs, g1, g2, g3⟩ := look_own r1 e1
      rw [hl0] at g1
      cases g1
      by_cases hz : sized (ls.length + 1) = true
      · simp only [hz, if_true] at q1
        refine ⟨l, xs, v, rfl, rfl, g2, ?_, ?_⟩
        · have := sized_line hz
          rw [g3.length]
          omega
        · exact q1 σ F1 _ rfl (Same.refl _) (r1.change e1 hl0 (g3.append (.cons h1 .nil)))
      · simp only [hz] at q1
        exact q1.elim
/-- xs[e] = v -/
@[simp] def setItS (i : Nat) (ci cv : CE) : CS := fun τ => (cv τ).bind fun p => match p.2[i]? with
  | some (.own _ (.lst _)) => (ci p.2).bind fun q => match q.2[i]?, q.1 with
    | some (.own t (.lst ls)), .int k => (R.ofOpt (ixN ls.length k)).bind fun j => .ok (.next, q.2.set i (.own t (ls.set j p.1)))
    | _, _ => .stuck
  | _ => .stuck
theorem ss_setIt (i : Nat) {XM : Nat → Value} {y : Str} {p1 p2 : Pos} {b v : Expr} {ci cv : CE} (hv : PE X (.Name y p1) (tVar i)) (hb : SE X W XM pa b ci) (he : SE X W XM pa v cv)
    (hg : ∀ u, assign (.Subscript (.Name y p1) b p2) X.env u = (do
      let ov ← holding [u] (eval (.Name y p1) X.env)
      let iv ← holding [u, ov] (eval b X.env)
      standAt p2
      holding [u, ov, iv] (setItem ov iv u)
      release [u, ov, iv] []) := by intro _; rfl)
    (hs : swapsWithSole [.Subscript (.Name y p1) b p2] v pos.line X.env = pure false := by rfl) (hw : swappedStores [.Subscript (.Name y p1) b p2] v X.env = pure none := by rfl)
    (h1 : (assignEach [.Subscript (.Name y p1) b p2] X.env).map (·.2) = [assign (.Subscript (.Name y p1) b p2) X.env] := by rfl) :
    SS X W XM pa (.Assign [.Subscript (.Name y p1) b p2] v pos) (setItS i ci cv) := (ps_asg he (pg_sub hv hb set_list hg) hs hw h1).imp fun E σ H q => by
  obtain ⟨G, F, τ, r0, q⟩ := q
  refine AtS.step r0 q fun F1 H1 d1 τ1 w s1 r1 h1 q1 => ?_
  obtain ⟨l, xs0, hl0, hx0, q1⟩ := own_atS r1 q1
  refine ⟨.ref l, hl0, AtS.step r1 q1 fun F2 H2 d2 τ2 z s2 r2 h2 q2 => ?_⟩
  simp only at q2
  cases e1 : τ2[i]? with
  | none => rw [e1] at q2; exact q2.elim
  | some sl =>
    rw [e1] at q2
    cases sl with
    | free => exact q2.elim
    | val d => exact q2.elim
    | own t c =>
      cases c with
     | dct _ _ => exact q2.elim
     | lst ls =>
      obtain ⟨a', xs, g1, g2, g3⟩ := look_own r2 e1
      rw [hl0] at g1
      cases g1
      cases d2 with
      | int k =>
        cases h2
        obtain ⟨j, e2, q3⟩ := AtS.opt q2
        refine ⟨l, xs, k, j, rfl, rfl, g2, by rw [g3.length]; exact e2, ?_⟩
        exact q3 σ F2 _ rfl (Same.refl _) (r2.change e1 hl0 (DpAll.set (h1.up s2) j g3))
      | none => exact q2.elim
      | bool _ => exact q2.elim
      | str _ => exact q2.elim
      | list _ => exact q2.elim
      | tuple _ => exact q2.elim
      | dict _ => exact q2.elim
end

/-! ### comprehensions -/
section
variable {X : Cx} {W : WX} {XM : Nat → Value} {pa : List Addr} {elt tg iter : Expr} {ifs : List Expr} {scope : Scope} {own : List (Str × Nat)} {pos : Pos} {ci : CA} {g : D → Ev → Option Ev} {ct : CT} {ce : CE} {vs : List Nat}
abbrev STs (X : Cx) (W : WX) (XM : Nat → Value) (pa : List Addr) (ifs : List Expr) (c : CT) : Prop := PTs X ifs (tG X.K W XM pa relB c)
theorem sts_nil : STs X W XM pa [] yesT := ⟨fun pins s σ H Q I q => pts_nil.run pins s σ H Q I (by
  obtain ⟨G, F, τ, r, q⟩ := q
  exact q true F H (Same.refl _) r rfl)⟩
theorem sts_one {c : Expr} (h : ST X W XM pa c ct) : STs X W XM pa [c] ct := pts_one h
theorem so_lc (hc : X.calm = true) (hN : X.N.Nodup) (hi : SI X W XM pa tg iter ci) (ok : BlkOk X.N X.env.scope scope own) (hv : own.map (·.2) = vs)
    (hg : ∀ (s : Shared) (H : Hp) (C : Addr) (cl : List (Str × Addr)) (fp : List Addr), SG (X.blk s H scope (compEnvC scope cl C X.env) fp) pa tg vs g)
    (ht : ∀ (s : Shared) (H : Hp) (C : Addr) (cl : List (Str × Addr)) (fp : List Addr), STs (X.blk s H scope (compEnvC scope cl C X.env) fp) W0 XM pa ifs ct)
    (he : ∀ (s : Shared) (H : Hp) (C : Addr) (cl : List (Str × Addr)) (fp : List Addr), SE (X.blk s H scope (compEnvC scope cl C X.env) fp) W0 XM pa elt ce) (hs : ∀ x, foldedSetIterable iter X.env x = pure x := by intro _; rfl) :
    SO X W XM pa (.ListComp elt [⟨tg, iter, ifs, 0⟩] scope pos) (lcO vs ci g ct ce) := by
  subst hv
  exact (pe_lc hc hN hi ok hg ht he hs).imp fun _ _ _ q => tLc_of q
/-- name = [..] -/
theorem ss_lc (i : Nat) {y : Str} {py spos : Pos} (hc : X.calm = true) (hN : X.N.Nodup) (hi : SI X W XM pa tg iter ci) (ok : BlkOk X.N X.env.scope scope own) (hv : own.map (·.2) = vs)
    (hg : ∀ (s : Shared) (H : Hp) (C : Addr) (cl : List (Str × Addr)) (fp : List Addr), SG (X.blk s H scope (compEnvC scope cl C X.env) fp) pa tg vs g)
    (ht : ∀ (s : Shared) (H : Hp) (C : Addr) (cl : List (Str × Addr)) (fp : List Addr), STs (X.blk s H scope (compEnvC scope cl C X.env) fp) W0 XM pa ifs ct)
    (he : ∀ (s : Shared) (H : Hp) (C : Addr) (cl : List (Str × Addr)) (fp : List Addr), SE (X.blk s H scope (compEnvC scope cl C X.env) fp) W0 XM pa elt ce)
    (hsw : swapsWith (.ListComp elt [⟨tg, iter, ifs, 0⟩] scope pos) (some (.Name y py)) spos.line X.env = pure true) (hy : X.N[i]? = some y := by rfl) (hyl : X.env.scope.names.lookup y = some .local := by rfl) (hs : ∀ x, foldedSetIterable iter X.env x = pure x := by intro _; rfl) :
    SS X W XM pa (.Assign [.Name y py] (.ListComp elt [⟨tg, iter, ifs, 0⟩] scope pos) spos) (setOS i (lcO vs ci g ct ce)) := by
  subst hv
  exact (ps_setLc hc hN hy hyl hsw hi ok hg ht he hs).imp fun E σ H q => tLc_of (X := X) (tSetO_of q)
theorem ss_lcF (i : Nat) {y : Str} {py spos : Pos} (hc : X.calm = true) (hN : X.N.Nodup) (hi : SI X W XM pa tg iter ci) (ok : BlkOk X.N X.env.scope scope own) (hv : own.map (·.2) = vs)
    (hg : ∀ (s : Shared) (H : Hp) (C : Addr) (cl : List (Str × Addr)) (fp : List Addr), SG (X.blk s H scope (compEnvC scope cl C X.env) fp) pa tg vs g)
    (ht : ∀ (s : Shared) (H : Hp) (C : Addr) (cl : List (Str × Addr)) (fp : List Addr), STs (X.blk s H scope (compEnvC scope cl C X.env) fp) W0 XM pa ifs ct)
    (he : ∀ (s : Shared) (H : Hp) (C : Addr) (cl : List (Str × Addr)) (fp : List Addr), SE (X.blk s H scope (compEnvC scope cl C X.env) fp) W0 XM pa elt ce)
    (hsw : swapsWith (.ListComp elt [⟨tg, iter, ifs, 0⟩] scope pos) (some (.Name y py)) spos.line X.env = pure true) (hy : X.N[i]? = some y := by rfl) (hyl : X.env.scope.names.lookup y = some .local := by rfl) (hs : ∀ x, foldedSetIterable iter X.env x = pure x := by intro _; rfl) :
    SS X W XM pa (.Assign [.Name y py] (.ListComp elt [⟨tg, iter, ifs, 0⟩] scope pos) spos) (setS i (frzC (lcO vs ci g ct ce))) := by
  subst hv
  refine (ps_setLc hc hN hy hyl hsw hi ok hg ht he hs).imp fun E σ H q => tLc_of (X := X) ?_
  have q := tSet_of q
  obtain ⟨G, F, τ, r0, q⟩ := q
  refine At.step r0 q fun F1 H1 d1 τ1 x s1 r1 h1 q1 => ?_
  obtain ⟨p, rfl, ⟨xs, hx, hd⟩, hf, hg, no⟩ := h1
  obtain ⟨ff, r2⟩ := r1.settle hx hf hg no
  exact q1 _ _ _ ff r2 (.lst (SqL.of upd_same) (DpAll.up hd ff))
/-! ### raise -/
@[simp] def raiseS (e : Nat) : CS := fun _ => .exc e
theorem ss_raise {e : Expr} {n : Nat} {cls : Value} (hc : X.calm = true) (tk : L2N.Takes X W) (he : L2N.PMk X e (fun _ H Q => Q cls none H)) (hx : XM n = cls) : SS X W XM pa (.Raise (some e) none pos) (raiseS n) := (L2N.ps_raise hc tk he).imp fun E σ H q => by
  obtain ⟨G, F, τ, r, q⟩ := q
  have := q σ F H rfl (Same.refl _) r.z
  rw [hx] at this
  exact this
end
end Lin

/-! Lin6: several names set at once; a slot's list looked at; lists unpacked. -/
namespace Lin
open PySem L2
section
variable (K : PySem.W.Frag) (F H : Hp) (σ : L2.St) (τ : Ev)
/-- values that are still in hand: data, and new lists, each by itself -/
def MOk : Hp → List V → List Slot → Prop
  | _, [], [] => True
  | G, v :: vs, .val d :: ss => Dp K F v d ∧ MOk G vs ss
  | G, v :: vs, .own none ds :: ss => ∃ p xs, v = .ref p ∧ H p = some xs ∧ ContIs K F xs ds ∧ F p = none ∧ G p = none ∧ NoOwn σ τ p ∧ MOk (upd G p xs) vs ss
  | _, _, _ => False
end
def relM (K : PySem.W.Frag) : Rel (List Slot) (List V) := fun G F H σ τ vs ss => MOk K F H σ τ G vs ss
abbrev CM := Ev → R (List Slot × Ev)
section
variable {K : PySem.W.Frag} {F H : Hp} {σ σ' : L2.St} {τ τ' : Ev}
theorem MOk.move : ∀ {vs : List V} {ss : List Slot} {G1 G : Hp}, MOk K F H σ τ G1 vs ss → (∀ q, G1 q = none → NoOwn σ τ q → G q = none ∧ NoOwn σ' τ' q) → MOk K F H σ' τ' G vs ss
  | [], [], _, _, _, _ => trivial
  | [], _ :: _, _, _, h, _ => h.elim
  | _ :: _, [], _, _, h, _ => h.elim
  | v :: vs, .free :: ss, _, _, h, _ => h.elim
  | v :: vs, .own (some _) _ :: ss, _, _, h, _ => h.elim
  | v :: vs, .val d :: ss, G1, G, h, m => ⟨h.1, MOk.move h.2 m⟩
  | v :: vs, .own none ds :: ss, G1, G, h, m => by
    obtain ⟨p, xs, e, h1, h2, h3, h4, h5, h6⟩ := h
    obtain ⟨g1, g2⟩ := m p h4 h5
    refine ⟨p, xs, e, h1, h2, h3, g1, g2, MOk.move h6 fun q hq no => ?_⟩
    have ne : q ≠ p := fun z => by
      subst z
      rw [upd_same] at hq
      cases hq
    rw [upd_ne ne] at hq ⊢
    exact m q hq no
@[simp] def setAll : List Nat → List Slot → Ev → Option Ev
  | [], [], τ => some τ
  | i :: is, s :: ss, τ => setAll is ss (τ.set i s)
  | _, _, _ => none
def setsV : List Nat → List V → L2.St → L2.St
  | i :: is, v :: vs, σ => setsV is vs (σ.set i (some v))
  | _, _, σ => σ
theorem setsV_length : ∀ (is : List Nat) (vs : List V) (σ : L2.St), (setsV is vs σ).length = σ.length
  | [], _, _ => rfl
  | _ :: _, [], _ => rfl
  | i :: is, v :: vs, σ => by
    show (setsV is vs (σ.set i (some v))).length = _
    rw [setsV_length is vs, List.length_set]
theorem Rp.setAll {pa : List Addr} {G : Hp} : ∀ {is : List Nat} {ss : List Slot} {vs : List V} {σ : L2.St} {τ τ' : Ev}, Rp K pa G F H σ τ → MOk K F H σ τ G vs ss → Lin.setAll is ss τ = some τ' → Rp K pa G F H (setsV is vs σ) τ'
  | [], [], vs, σ, τ, τ', r, m, e => by
    cases e
    cases vs <;> exact r
  | [], _ :: _, _, _, _, _, _, _, e => by cases e
  | _ :: _, [], _, _, _, _, _, _, e => by cases e
  | i :: is, s :: ss, [], _, _, _, _, m, _ => by cases s <;> exact m.elim
  | i :: is, .free :: ss, v :: vs, _, _, _, _, m, _ => m.elim
  | i :: is, .own (some _) _ :: ss, v :: vs, _, _, _, _, m, _ => m.elim
  | i :: is, .val d :: ss, v :: vs, σ, τ, τ', r, m, e => by
    refine Rp.setAll (is := is) (ss := ss) (vs := vs) (r.setVal m.1) (m.2.move fun q hq no => ⟨hq, fun j t es hj ej => ?_⟩) e
    by_cases hij : i = j
    · subst hij
      by_cases hl : i < τ.length
      · rw [List.getElem?_set_self hl] at hj; cases hj
      · rw [List.getElem?_eq_none (by simpa using hl)] at hj; cases hj
    · rw [List.getElem?_set_ne hij] at hj ej
      exact no j t es hj ej
  | i :: is, .own none ds :: ss, v :: vs, σ, τ, τ', r, m, e => by
    obtain ⟨p, xs, rfl, h1, h2, h3, h4, h5, h6⟩ := m
    refine Rp.setAll (is := is) (ss := ss) (vs := vs) (r.setOwnC h1 h2 h3 h4 h5) (h6.move fun q hq no => ?_) e
    have ne : q ≠ p := fun z => by
      subst z
      rw [upd_same] at hq
      cases hq
    rw [upd_ne ne] at hq
    refine ⟨hq, fun j t es hj ej => ?_⟩
    by_cases hij : i = j
    · subst hij
      have hl : i < σ.length := by
        have := (List.getElem?_eq_some_iff.mp ej).1
        rwa [List.length_set] at this
      rw [List.getElem?_set_self hl] at ej
      cases ej
      exact ne rfl
    · rw [List.getElem?_set_ne hij] at hj ej
      exact no j t es hj ej
theorem Rp0.back {G F H : Hp} {p : Addr} {o : HO} (z : Rp0 (upd G p o) F H) (hg : G p = none) : Rp0 G F H := by
  have gle : ∀ b, upd G p o b = none → G b = none := fun b e => by
    by_cases q : b = p
    · subst q
      exact hg
    · rw [upd_ne q] at e
      exact e
  refine ⟨z.fh, fun b u e => z.gh b u ?_, fun b hb => gle b (z.fg b hb)⟩
  have q : b ≠ p := fun q => by
    subst q
    rw [hg] at e
    cases e
  rw [upd_ne q]
  exact e
end
section
variable {X : Cx} {W : WX} {XM : Nat → Value} {pa : List Addr} {a : Expr} {es : List Expr} {ca : CE} {co : CO} {cr : CM} {pos : Pos}
abbrev SM (X : Cx) (W : WX) (XM : Nat → Value) (pa : List Addr) (es : List Expr) (c : CM) : Prop := PA X es (tG X.K W XM pa (relM X.K) c)
@[simp] def nilM : CM := fun τ => .ok ([], τ)
@[simp] def valM (c : CE) (r : CM) : CM := fun τ => (c τ).bind fun p => (r p.2).bind fun q => .ok (.val p.1 :: q.1, q.2)
@[simp] def ownM (c : CO) (r : CM) : CM := fun τ => (c τ).bind fun p => (r p.2).bind fun q => .ok (.own none p.1 :: q.1, q.2)
theorem sm_nil : SM X W XM pa [] nilM := pa_nil.imp fun σ H Q q => by
  obtain ⟨G, F, τ, r, q⟩ := q
  exact q [] F H (Same.refl _) r trivial
theorem sm_val (ha : SE X W XM pa a ca) (hr : SM X W XM pa es cr) (hs : starEach (a :: es) X.env = (false, eval a X.env) :: starEach es X.env := by rfl) : SM X W XM pa (a :: es) (valM ca cr) := (pa_cons ha hr hs).imp fun σ H Q q => by
  obtain ⟨G, F, τ, r0, q⟩ := q
  refine At.step r0 q fun F1 H1 d1 τ1 x s1 r1 h1 q1 => At.step r1 q1 fun F2 H2 d2 τ2 y s2 r2 h2 q2 => ?_
  exact q2 (x :: y) F2 H2 (Same.refl _) r2 ⟨Dp.up h1 s2, h2⟩
theorem sm_own (ha : SO X W XM pa a co) (hr : SM X W XM pa es cr) (hs : starEach (a :: es) X.env = (false, eval a X.env) :: starEach es X.env := by rfl) : SM X W XM pa (a :: es) (ownM co cr) := (pa_cons ha hr hs).imp fun σ H Q q => by
  obtain ⟨G, F, τ, r0, q⟩ := q
  refine At.step r0 q fun F1 H1 d1 τ1 x s1 r1 h1 q1 => ?_
  obtain ⟨p, rfl, ⟨xs, hx, hd⟩, hf, hg, no⟩ := h1
  refine ⟨upd G p (.lst xs), F1, τ1, r1.lend hx hf no, ?_⟩
  revert q1
  unfold At
  simp only
  cases cr τ1 with
  | stuck => exact fun q => q.elim
  | exc e => exact fun q σ' F' H' l s z => q σ' F' H' l s (z.back hg)
  | ok pq =>
    intro q vs F' H' s r' m
    obtain ⟨r2, h2, h3, h4⟩ := r'.back hg
    refine q (.ref p :: vs) F' H' s r2 ⟨p, .lst xs, rfl, h2, .lst (hd.up s), h3, hg, h4, m⟩
@[simp] def parS (is : List Nat) (c : CM) : CS := fun τ => (c τ).bind fun p => (R.ofOpt (setAll is p.1 p.2)).bind fun τ' => .ok (.next, τ')
variable {x y z : Str} {b d : Expr} {px py pz pt : Pos} {kt k2 : Nat} {pt2 : Pos} {cm : CM}
theorem MOk.length {K : PySem.W.Frag} {F H : Hp} {σ : L2.St} {τ : Ev} : ∀ {vs : List V} {ss : List Slot} {G : Hp}, MOk K F H σ τ G vs ss → vs.length = ss.length
  | [], [], _, _ => rfl
  | [], _ :: _, _, h => h.elim
  | _ :: _, [], _, h => h.elim
  | v :: vs, .free :: ss, _, h => h.elim
  | v :: vs, .own (some _) _ :: ss, _, h => h.elim
  | v :: vs, .val d :: ss, _, h => by rw [List.length_cons, List.length_cons, MOk.length h.2]
  | v :: vs, .own none ds :: ss, _, h => by
    obtain ⟨_, _, _, _, _, _, _, _, h⟩ := h
    rw [List.length_cons, List.length_cons, MOk.length h]
theorem setAll_length : ∀ {is : List Nat} {ss : List Slot} {τ τ' : Ev}, setAll is ss τ = some τ' → ss.length = is.length
  | [], [], _, _, _ => rfl
  | [], _ :: _, _, _, e => by cases e
  | _ :: _, [], _, _, e => by cases e
  | i :: is, s :: ss, τ, τ', e => by rw [List.length_cons, List.length_cons, setAll_length (is := is) (ss := ss) e]
theorem ss_par (i j : Nat) (hc : X.calm = true) (hN : X.N.Nodup) (ha : SM X W XM pa [a, b] cm) (hi : X.N[i]? = some x := by rfl) (hj : X.N[j]? = some y := by rfl) (hij : i ≠ j := by decide)
    (hx : X.env.scope.names.lookup x = some .local := by rfl) (hy : X.env.scope.names.lookup y = some .local := by rfl)
    (hw : swappedStores [.Tuple [.Name x px, .Name y py] kt pt] (.Tuple [a, b] k2 pt2) X.env = pure (some [x, y]) := by rfl)
    (hs : swapsWithSole [.Tuple [.Name x px, .Name y py] kt pt] (.Tuple [a, b] k2 pt2) pos.line X.env = pure false := by rfl) :
    SS X W XM pa (.Assign [.Tuple [.Name x px, .Name y py] kt pt] (.Tuple [a, b] k2 pt2) pos) (parS [i, j] cm) := (ps_par hc hN hi hj hij hx hy ha hw hs).imp fun E σ H q => by
  obtain ⟨G, F, τ, r0, q⟩ := q
  refine AtS.step r0 q fun F1 H1 ss τ1 vs s1 r1 m q1 => ?_
  obtain ⟨τ2, e2, q2⟩ := AtS.opt q1
  have hl := (MOk.length m).trans (setAll_length e2)
  have r2 := Rp.setAll r1 m e2
  match vs, hl with
  | [v, w], _ => exact ⟨v, w, rfl, q2 _ F1 H1 (setsV_length [i, j] [v, w] σ) (Same.refl _) r2⟩
theorem ss_par3 (i j l : Nat) (hc : X.calm = true) (hN : X.N.Nodup) (ha : SM X W XM pa [a, b, d] cm) (hi : X.N[i]? = some x := by rfl) (hj : X.N[j]? = some y := by rfl) (hl : X.N[l]? = some z := by rfl) (hij : i ≠ j := by decide) (hil : i ≠ l := by decide) (hjl : j ≠ l := by decide)
    (hx : X.env.scope.names.lookup x = some .local := by rfl) (hy : X.env.scope.names.lookup y = some .local := by rfl) (hz : X.env.scope.names.lookup z = some .local := by rfl)
    (hw : swappedStores [.Tuple [.Name x px, .Name y py, .Name z pz] kt pt] (.Tuple [a, b, d] k2 pt2) X.env = pure (some [x, y, z]) := by rfl)
    (hs : swapsWithSole [.Tuple [.Name x px, .Name y py, .Name z pz] kt pt] (.Tuple [a, b, d] k2 pt2) pos.line X.env = pure false := by rfl) :
    SS X W XM pa (.Assign [.Tuple [.Name x px, .Name y py, .Name z pz] kt pt] (.Tuple [a, b, d] k2 pt2) pos) (parS [i, j, l] cm) := (ps_par3 hc hN hi hj hl hij hil hjl hx hy hz ha hw hs).imp fun E σ H q => by
  obtain ⟨G, F, τ, r0, q⟩ := q
  refine AtS.step r0 q fun F1 H1 ss τ1 vs s1 r1 m q1 => ?_
  obtain ⟨τ2, e2, q2⟩ := AtS.opt q1
  have hl := (MOk.length m).trans (setAll_length e2)
  have r2 := Rp.setAll r1 m e2
  match vs, hl with
  | [v, w, u], _ => exact ⟨v, w, u, rfl, q2 _ F1 H1 (setsV_length [i, j, l] [v, w, u] σ) (Same.refl _) r2⟩

/-! ### a slot's list is looked at: the answer is a truth value or an int -/
@[simp] def scalD : D → Bool
  | .bool _ => true
  | .int _ => true
  | _ => false
theorem scal_dp {K : PySem.W.Frag} {F F' : Hp} {v : V} {d : D} (h : Dp K F v d) (hs : scalD d = true) : Dp K F' v d := by
  cases h with
  | bl _ => exact .bl _
  | int _ => exact .int _
  | non => cases hs
  | str _ => cases hs
  | dcK _ _ => cases hs
  | dcT _ _ => cases hs
  | adr _ => cases hs
  | obj _ _ _ _ => cases hs
  | fn _ _ => cases hs
  | lst _ _ => cases hs
  | tup _ _ => cases hs
@[simp] def look2C (f : D → D → Option D) (i : Nat) (b : CE) : CE := fun τ => match τ[i]? with
  | some (.own _ (.lst _)) => (b τ).bind fun p => match p.2[i]? with
    | some (.own _ (.lst ls)) => (R.ofOpt (f (.list ls) p.1)).bind fun z => if scalD z = true then .ok (z, p.2) else .stuck
    | _ => .stuck
  | _ => .stuck
theorem tOpL_of (i : Nat) {r : R2} {f : D → D → Option D} {cb : CE} (hs : OpS X.K r f) {σ : L2.St} {H : Hp} {Q : VK} (q : tG X.K W XM pa (relE X.K) (look2C f i cb) σ H Q) : tOp r (tVar i) (tG X.K W XM pa (relE X.K) cb) σ H Q := by
  obtain ⟨G, F, τ, r0, q⟩ := q
  obtain ⟨a, ha0, q⟩ := own_at r0 q
  refine ⟨.ref a, ha0, At.step r0 q fun F1 H1 d1 τ1 v s1 r1 h1 q1 => ?_⟩
  simp only at q1
  cases e1 : τ1[i]? with
  | none => rw [e1] at q1; exact q1.elim
  | some sl =>
    rw [e1] at q1
    cases sl with
    | free => exact q1.elim
    | val d => exact q1.elim
    | own t c =>
      cases c with
     | dct _ _ => exact q1.elim
     | lst ls =>
      obtain ⟨a', g1, ⟨xs, g2, g3⟩, g4, g5, g6⟩ := r1.ownL i t ls e1
      rw [ha0] at g1
      cases g1
      obtain ⟨z, e2, q2⟩ := At.opt q1
      by_cases hz : scalD z = true
      · simp only [hz, if_true] at q2
        have ff : Same F1 (upd F1 a (.lst xs)) := same_new g4
        have fh : Same (upd F1 a (.lst xs)) H1 := fun b o e => by
          by_cases hb : b = a
          · subst hb
            rw [upd_same] at e
            cases e
            exact g2
          · rw [upd_ne hb] at e
            exact r1.z.fh b o e
        refine hs (upd F1 a (.lst xs)) H1 (.ref a) v (.list ls) d1 z Q fh (.lst (SqL.of upd_same) (g3.up ff)) (Dp.up h1 ff) e2 fun u F' H' ex hu => ?_
        have ex2 : Ext F1 H1 F1 H' := ⟨Same.refl _, fun b o e => ex.hh b o (r1.z.fh b o e), ex.hh, fun b hb => .inl hb⟩
        exact q2 u F1 H' (Same.refl _) (r1.ext ex2) (scal_dp hu hz)
      · simp only [hz] at q2
        exact q2.elim
theorem se_cmpOwn (i : Nat) {nm : Str} {p1 : Pos} {op : CmpOp} {r : R2} {f : D → D → Option D} {cb : CE} (ho : OpR X (compareOp op) r) (hs : OpS X.K r f) (hv : PE X (.Name nm p1) (tVar i)) (hb : SE X W XM pa b cb) (hm : behindInMarks op b = false) :
    SE X W XM pa (.Compare (.Name nm p1) [op] [b] pos) (look2C f i cb) := (pe_cmpR ho hv hb hm).imp fun _ _ _ q => tOpL_of i hs q
theorem st_cmpOwn (i : Nat) {nm : Str} {p1 : Pos} {op : CmpOp} {r : R2} {f : D → D → Option D} {cb : CE} (ho : OpR X (compareOp op) r) (hs : OpS X.K r f) (hv : PE X (.Name nm p1) (tVar i)) (hb : SE X W XM pa b cb) (hm : behindInMarks op b = false) :
    ST X W XM pa (.Compare (.Name nm p1) [op] [b] pos) (bvC (look2C f i cb)) := (pt_cmpR ho hv hb hm).imp fun σ H Q q => tOpL_of i hs (tB_of (X := X) q)
/-- the slot's list on the right: x in found -/
@[simp] def look2R (f : D → D → Option D) (i : Nat) (b : CE) : CE := fun τ => (b τ).bind fun p => match p.2[i]? with
  | some (.own _ (.lst ls)) => (R.ofOpt (f p.1 (.list ls))).bind fun z => if scalD z = true then .ok (z, p.2) else .stuck
  | _ => .stuck
theorem tOpR_of (i : Nat) {r : R2} {f : D → D → Option D} {cb : CE} (hs : OpS X.K r f) {σ : L2.St} {H : Hp} {Q : VK} (q : tG X.K W XM pa (relE X.K) (look2R f i cb) σ H Q) : tOp r (tG X.K W XM pa (relE X.K) cb) (tVar i) σ H Q := by
  obtain ⟨G, F, τ, r0, q⟩ := q
  refine At.step r0 q fun F1 H1 d1 τ1 v s1 r1 h1 q1 => ?_
  simp only at q1
  cases e1 : τ1[i]? with
  | none => rw [e1] at q1; exact q1.elim
  | some sl =>
    rw [e1] at q1
    cases sl with
    | free => exact q1.elim
    | val d => exact q1.elim
    | own t c =>
      cases c with
     | dct _ _ => exact q1.elim
     | lst ls =>
      obtain ⟨a, g1, ⟨xs, g2, g3⟩, g4, g5, g6⟩ := r1.ownL i t ls e1
      refine ⟨.ref a, g1, ?_⟩
      obtain ⟨z, e2, q2⟩ := At.opt q1
      by_cases hz : scalD z = true
      · simp only [hz, if_true] at q2
        have ff : Same F1 (upd F1 a (.lst xs)) := same_new g4
        have fh : Same (upd F1 a (.lst xs)) H1 := fun b o e => by
          by_cases hb : b = a
          · subst hb
            rw [upd_same] at e
            cases e
            exact g2
          · rw [upd_ne hb] at e
            exact r1.z.fh b o e
        refine hs (upd F1 a (.lst xs)) H1 v (.ref a) d1 (.list ls) z Q fh (Dp.up h1 ff) (.lst (SqL.of upd_same) (g3.up ff)) e2 fun u F' H' ex hu => ?_
        have ex2 : Ext F1 H1 F1 H' := ⟨Same.refl _, fun b o e => ex.hh b o (r1.z.fh b o e), ex.hh, fun b hb => .inl hb⟩
        exact q2 u F1 H' (Same.refl _) (r1.ext ex2) (scal_dp hu hz)
      · simp only [hz] at q2
        exact q2.elim
theorem se_cmpOwnR (i : Nat) {nm : Str} {p1 : Pos} {op : CmpOp} {r : R2} {f : D → D → Option D} {cb : CE} (ho : OpR X (compareOp op) r) (hs : OpS X.K r f) (hb : SE X W XM pa b cb) (hv : PE X (.Name nm p1) (tVar i)) (hm : behindInMarks op (.Name nm p1) = false) :
    SE X W XM pa (.Compare b [op] [.Name nm p1] pos) (look2R f i cb) := (pe_cmpR ho hb hv hm).imp fun _ _ _ q => tOpR_of i hs q
theorem st_cmpOwnR (i : Nat) {nm : Str} {p1 : Pos} {op : CmpOp} {r : R2} {f : D → D → Option D} {cb : CE} (ho : OpR X (compareOp op) r) (hs : OpS X.K r f) (hb : SE X W XM pa b cb) (hv : PE X (.Name nm p1) (tVar i)) (hm : behindInMarks op (.Name nm p1) = false) :
    ST X W XM pa (.Compare b [op] [.Name nm p1] pos) (bvC (look2R f i cb)) := (pt_cmpR ho hb hv hm).imp fun σ H Q q => tOpR_of i hs (tB_of (X := X) q)
/-- len of a slot's list -/
@[simp] def lenOwn (i : Nat) : CE := fun τ => match τ[i]? with
  | some (.own _ (.lst ls)) => .ok (.int ls.length, τ)
  | _ => .stuck
theorem se_lenOwn (i : Nat) {nm xl : Str} {p1 p : Pos} (hg : Gl X xl) (hm : X.mg xl = none) (hv : bootBuiltins xl = some (.builtin "len")) (hn' : PE X (.Name nm p1) (tVar i))
    (hn : xl ≠ "__name__" := by decide) (hdb : (xl == ("__debug__" : Str)) = false := by decide) (he : starEach (.Name nm p1 :: []) X.env = (false, eval (.Name nm p1) X.env) :: starEach [] X.env := by rfl) (hpl : (backTo pos (starEach [] X.env)).any (·.1) = false := by rfl) :
    SE X W XM pa (.Call (.Name xl p) [.Name nm p1] [] pos) (lenOwn i) := (pe_callB (call_len_seq (X := X)) hg hm hv (pa_cons hn' pa_nil) hn hdb he hpl).imp fun σ H Q q => by
  obtain ⟨G, F, τ, r, q⟩ := q
  unfold lenOwn at q
  cases e1 : τ[i]? with
  | none => rw [e1] at q; exact q.elim
  | some sl =>
    rw [e1] at q
    cases sl with
    | free => exact q.elim
    | val d => exact q.elim
    | own t c =>
      cases c with
     | dct _ _ => exact q.elim
     | lst ls =>
      obtain ⟨a, xs, h1, h2, h3⟩ := look_own r e1
      refine ⟨.ref a, h1, a, xs, rfl, .inl (SqL.of h2), ?_⟩
      rw [h3.length]
      exact q _ F H (Same.refl _) r (.int _)
/-! ### a, b = a list -/
@[simp] def lstG (g : List D → Ev → Option Ev) : D → Ev → Option Ev := fun d τ => (lstOf d).bind fun ds => g ds τ
theorem sg_lst {ts : List Expr} {k : Nat} {vs : List Nat} {g : List D → Ev → Option Ev} {n : Nat} (hc : X.calm = true) (h : SGs X pa ts vs g) (hl : ∀ ds τ τ', g ds τ = some τ' → ds.length = n)
    (hn : (assignEach ts X.env).length = n := by rfl) (hst : (assignEach ts X.env).findIdx? (·.1) = none := by rfl) : SG X pa (.Tuple ts k pos) vs (lstG g) := (pg_lst hc h hn hst).imp fun v σ H Q q => by
  obtain ⟨G, F, τ, d, r, h, τ', e, q⟩ := q
  cases h with
  | @lst a xs ds hs ha =>
    exact ⟨a, xs, rfl, same_sqL r.z.fh hs, (DpAll.length ha).trans (hl _ _ _ e), G, F, τ, ds, r, ha, τ', e, q⟩
  | non => cases e
  | bl _ => cases e
  | int _ => cases e
  | str _ => cases e
  | dcK _ _ => cases e
  | dcT _ _ => cases e
  | adr _ => cases e
  | obj _ _ _ _ => cases e
  | fn _ _ => cases e
  | tup _ _ => cases e
/-- isinstance(e, T), T a built-in class -/
def noDct : D → Bool
  | .dict _ => false
  | _ => true
@[simp] theorem noDct_none : noDct .none = true := rfl
@[simp] theorem noDct_bool (b : Bool) : noDct (.bool b) = true := rfl
@[simp] theorem noDct_int (b : Int) : noDct (.int b) = true := rfl
@[simp] theorem noDct_str (b : Str) : noDct (.str b) = true := rfl
@[simp] theorem noDct_list (b : List D) : noDct (.list b) = true := rfl
@[simp] theorem noDct_tuple (b : List D) : noDct (.tuple b) = true := rfl
@[simp] def isC (T : String) (c : CE) : CE := fun τ => (c τ).bind fun p => if noDct p.1 = true then .ok (.bool (isT T p.1), p.2) else .stuck
def KitT (T : String) : Prop := kitB "NoneType" T = some (isT T .none) ∧ kitB "bool" T = some (isT T (.bool true)) ∧ kitB "int" T = some (isT T (.int 0)) ∧ kitB "str" T = some (isT T (.str "")) ∧ kitB "list" T = some (isT T (.list [])) ∧ kitB "tuple" T = some (isT T (.tuple []))
theorem ty_dp {T : String} (h : KitT T) {K : PySem.W.Frag} {F H : Hp} {v : V} {d : D} (s : Same F H) (nd : noDct d = true) (hd : Dp K F v d) : ∃ t, TyX K H v t ∧ PySem.W.kitOne K t (.type T) = some (isT T d) := by
  obtain ⟨h1, h2, h3, h4, h5, h6⟩ := h
  cases hd with
  | non => exact ⟨_, .base .non, kit_ty h1⟩
  | bl b => exact ⟨_, .base (.bl b), kit_ty h2⟩
  | int i => exact ⟨_, .base (.int i), kit_ty h3⟩
  | str x => exact ⟨_, .base (.str x), kit_ty h4⟩
  | @lst a xs ds hs ha =>
    rcases hs with (e | ⟨o, e⟩) | ⟨o, its, n, e, c, _⟩
    · exact ⟨_, .base (.lst (s _ _ e)), kit_ty h5⟩
    · exact ⟨_, .base (.frz (s _ _ e)), kit_ty h5⟩
    · exact ⟨_, .kList e c, kit_ty h5⟩
  | @tup a xs ds hs ha => exact ⟨_, .base (.tup (s _ _ hs)), kit_ty h6⟩
  | dcK e _ => cases nd
  | dcT e _ => cases nd
  | adr _ => cases nd
  | obj _ _ _ _ => cases nd
  | fn _ _ => cases nd
theorem se_isC {T : String} {nT : Str} {xi : Str} {p pT : Pos} {e : Expr} {ce : CE} (hk : KitT T) (hg : Gl X xi) (hm : X.mg xi = none) (hv : bootBuiltins xi = some (.builtin "isinstance")) (he : SE X W XM pa e ce)
    (gT : Gl X nT) (mT : X.mg nT = none) (vT : bootBuiltins nT = some (.type T)) (nT1 : nT ≠ "__name__" := by decide) (nT2 : (nT == ("__debug__" : Str)) = false := by decide)
    (hn : xi ≠ "__name__" := by decide) (hdb : (xi == ("__debug__" : Str)) = false := by decide) (hs : starEach (e :: [.Name nT pT]) X.env = (false, eval e X.env) :: starEach [.Name nT pT] X.env := by rfl)
    (hs2 : starEach (.Name nT pT :: []) X.env = (false, eval (.Name nT pT) X.env) :: starEach [] X.env := by rfl) (hpl : (backTo pos (starEach [.Name nT pT] X.env)).any (·.1) = false := by rfl) :
    SE X W XM pa (.Call (.Name xi p) [e, .Name nT pT] [] pos) (isC T ce) := (pe_callB call_isi hg hm hv (pa_cons he (pa_cons (pe_bltn (v := .ty T) gT mT vT rfl nT1 nT2) pa_nil hs2) hs) hn hdb hs hpl).imp fun σ H Q q => by
  obtain ⟨G, F, τ, r0, q⟩ := q
  refine At.step r0 q fun F1 H1 d1 τ1 x s1 r1 h1 q1 => ?_
  by_cases nd : noDct d1 = true
  · simp only [nd, if_true] at q1
    obtain ⟨t, ht, kt⟩ := ty_dp hk r1.z.fh nd h1
    exact ⟨x, .ty T, t, .type T, isT T d1, rfl, .ty T, ht, kt, q1 _ F1 H1 (Same.refl _) r1 (.bl _)⟩
  · simp only [nd] at q1
    exact q1.elim
end
theorem kit_int : KitT "int" := by unfold KitT; decide +kernel
theorem kit_bool : KitT "bool" := by unfold KitT; decide +kernel
theorem kit_tuple : KitT "tuple" := by unfold KitT; decide +kernel
theorem kit_list : KitT "list" := by unfold KitT; decide +kernel
theorem kit_str : KitT "str" := by unfold KitT; decide +kernel
end Lin

/-! Lin7: short words for the terms. -/
namespace Lin
open PySem L2
theorem room65 {k : Nat} {A : Around} (r : Room k A) : A.units + 65 < cLine := by have := r.un; omega
theorem b_sum : bootBuiltins "sum" = some (.builtin "sum") := by decide +kernel
theorem b_len : bootBuiltins "len" = some (.builtin "len") := by decide +kernel
theorem b_max : bootBuiltins "max" = some (.builtin "max") := by decide +kernel
theorem b_min : bootBuiltins "min" = some (.builtin "min") := by decide +kernel
theorem b_all : bootBuiltins "all" = some (.builtin "all") := by decide +kernel
theorem b_abs : bootBuiltins "abs" = some (.builtin "abs") := by decide +kernel
theorem b_isinstance : bootBuiltins "isinstance" = some (.builtin "isinstance") := by decide +kernel
theorem b_tuple : bootBuiltins "tuple" = some (.type "tuple") := by decide +kernel
theorem b_list : bootBuiltins "list" = some (.type "list") := by decide +kernel
theorem b_int : bootBuiltins "int" = some (.type "int") := by decide +kernel
theorem b_bool : bootBuiltins "bool" = some (.type "bool") := by decide +kernel
theorem b_str : bootBuiltins "str" = some (.type "str") := by decide +kernel
/-- slices of tuples and lists, as data -/
def slD : D → Option Int → Option Int → Option D
  | .tuple ds, lo, hi => some (.tuple (cutD ds lo hi))
  | .list ds, lo, hi => some (.list (cutD ds lo hi))
  | _, _, _ => none
@[simp] theorem slD_tup (a : List D) (lo hi : Option Int) : slD (.tuple a) lo hi = some (.tuple (cutD a lo hi)) := rfl
@[simp] theorem slD_lst (a : List D) (lo hi : Option Int) : slD (.list a) lo hi = some (.list (cutD a lo hi)) := rfl
def rSlAll (K : PySem.W.Frag) : V → Option Int → Option Int → Hp → VK → Prop := fun x lo hi H Q => rSlA K x lo hi H Q ∨ rSlL K x lo hi H Q
theorem sl_all {X : Cx} : SlR X (rSlAll X.K) := sl_tupA.or sl_list
theorem ss_sl {K : PySem.W.Frag} : SlS K (rSlAll K) slD := fun F H x d z lo hi Q s hx hz k => by
  unfold slD at hz
  split at hz
  · exact .inl (ss_slT F H x _ z lo hi Q s hx hz k)
  · cases hz
    refine .inr (so_slL F H x _ _ lo hi Q s hx rfl fun p ys F' H' ex hp fp hl hd => ?_)
    have ff : Same F' (upd F' p (.lst ys)) := same_new fp
    refine k _ (upd F' p (.lst ys)) H' ⟨Same.trans ex.ff ff, fun b o e => ?_, ex.hh, fun b hb => ?_⟩ (.lst (SqL.of upd_same) (hd.up ff))
    · by_cases hbp : b = p
      · subst hbp
        rw [upd_same] at e
        cases e
        exact hl
      · rw [upd_ne hbp] at e
        exact ex.fh b o e
    · by_cases hbp : b = p
      · subst hbp
        exact .inr hp
      · unfold NT at hb
        rw [upd_ne hbp] at hb
        exact ex.nw b hb
  · cases hz
section
variable {X : Cx} {W : WX} {XM : Nat → Value} {pa : List Addr} {a b c : Expr} {ca cb cc : CE} {pos : Pos} {k : Nat}
theorem e_add (ha : SE X W XM pa a ca) (hb : SE X W XM pa b cb) : SE X W XM pa (.BinOp a .Add b pos) (op2C addD ca cb) := se_op op_addAll os_add ha hb
theorem e_sub (ha : SE X W XM pa a ca) (hb : SE X W XM pa b cb) : SE X W XM pa (.BinOp a .Sub b pos) (op2C subD ca cb) := se_op op_sub os_sub ha hb
theorem e_mul (ha : SE X W XM pa a ca) (hb : SE X W XM pa b cb) : SE X W XM pa (.BinOp a .Mult b pos) (op2C mulD ca cb) := se_op op_mulAll os_mul ha hb
theorem e_div (ha : SE X W XM pa a ca) (hb : SE X W XM pa b cb) : SE X W XM pa (.BinOp a .FloorDiv b pos) (op2C fdivD ca cb) := se_op op_fdivW os_fdiv ha hb
theorem e_mod (ha : SE X W XM pa a ca) (hb : SE X W XM pa b cb) : SE X W XM pa (.BinOp a .Mod b pos) (op2C modD ca cb) := se_op op_mod os_mod ha hb
theorem e_pow (ha : SE X W XM pa a ca) (hb : SE X W XM pa b cb) : SE X W XM pa (.BinOp a .Pow b pos) (op2C powD ca cb) := se_op op_pow os_pow ha hb
theorem e_neg (ha : SE X W XM pa a ca) : SE X W XM pa (.UnaryOp .USub a pos) (op1C negD ca) := se_un un_neg us_neg ha
theorem e_lt (ha : SE X W XM pa a ca) (hb : SE X W XM pa b cb) : SE X W XM pa (.Compare a [.Lt] [b] pos) (op2C ltD ca cb) := se_cmp op_lt os_cmp ha hb (nomark _)
theorem e_le (ha : SE X W XM pa a ca) (hb : SE X W XM pa b cb) : SE X W XM pa (.Compare a [.LtE] [b] pos) (op2C leD ca cb) := se_cmp op_le os_cmp ha hb (nomark _)
theorem e_gt (ha : SE X W XM pa a ca) (hb : SE X W XM pa b cb) : SE X W XM pa (.Compare a [.Gt] [b] pos) (op2C gtD ca cb) := se_cmp op_gt os_cmp ha hb (nomark _)
theorem e_ge (ha : SE X W XM pa a ca) (hb : SE X W XM pa b cb) : SE X W XM pa (.Compare a [.GtE] [b] pos) (op2C geD ca cb) := se_cmp op_ge os_cmp ha hb (nomark _)
theorem e_eq (r : Room k X.A) (ha : SE X W XM pa a ca) (hb : SE X W XM pa b cb) : SE X W XM pa (.Compare a [.Eq] [b] pos) (op2C eqD ca cb) := se_cmp (op_eqD r.units) os_eq ha hb (nomark _)
theorem e_ne (r : Room k X.A) (ha : SE X W XM pa a ca) (hb : SE X W XM pa b cb) : SE X W XM pa (.Compare a [.NotEq] [b] pos) (op2C neD ca cb) := se_cmp (op_neD r.units) os_ne ha hb (nomark _)
theorem e_in (r : Room k X.A) (ha : SE X W XM pa a ca) (hb : SE X W XM pa b cb) (hm : behindInMarks .In b = false := by rfl) : SE X W XM pa (.Compare a [.In] [b] pos) (op2C inD ca cb) := se_cmp (op_inAll (room65 r)) os_in ha hb hm
theorem e_notin (r : Room k X.A) (ha : SE X W XM pa a ca) (hb : SE X W XM pa b cb) (hm : behindInMarks .NotIn b = false := by rfl) : SE X W XM pa (.Compare a [.NotIn] [b] pos) (op2C notInD ca cb) := se_cmp (op_notInAll (room65 r)) os_notIn ha hb hm
theorem e_is {j p2} (ha : SE X W XM pa a ca) : SE X W XM pa (.Compare a [.Is] [.Constant .none j p2] pos) (op2C isNoneD ca (litC .none)) := se_cmp op_isN os_isN ha se_non (nomark _)
theorem e_isnot {j p2} (ha : SE X W XM pa a ca) : SE X W XM pa (.Compare a [.IsNot] [.Constant .none j p2] pos) (op2C notNoneD ca (litC .none)) := se_cmp op_notN os_notN ha se_non (nomark _)
theorem t_lt (ha : SE X W XM pa a ca) (hb : SE X W XM pa b cb) : ST X W XM pa (.Compare a [.Lt] [b] pos) (bvC (op2C ltD ca cb)) := st_cmp op_lt os_cmp ha hb (nomark _)
theorem t_le (ha : SE X W XM pa a ca) (hb : SE X W XM pa b cb) : ST X W XM pa (.Compare a [.LtE] [b] pos) (bvC (op2C leD ca cb)) := st_cmp op_le os_cmp ha hb (nomark _)
theorem t_gt (ha : SE X W XM pa a ca) (hb : SE X W XM pa b cb) : ST X W XM pa (.Compare a [.Gt] [b] pos) (bvC (op2C gtD ca cb)) := st_cmp op_gt os_cmp ha hb (nomark _)
theorem t_ge (ha : SE X W XM pa a ca) (hb : SE X W XM pa b cb) : ST X W XM pa (.Compare a [.GtE] [b] pos) (bvC (op2C geD ca cb)) := st_cmp op_ge os_cmp ha hb (nomark _)
theorem t_eq (r : Room k X.A) (ha : SE X W XM pa a ca) (hb : SE X W XM pa b cb) : ST X W XM pa (.Compare a [.Eq] [b] pos) (bvC (op2C eqD ca cb)) := st_cmp (op_eqD r.units) os_eq ha hb (nomark _)
theorem t_ne (r : Room k X.A) (ha : SE X W XM pa a ca) (hb : SE X W XM pa b cb) : ST X W XM pa (.Compare a [.NotEq] [b] pos) (bvC (op2C neD ca cb)) := st_cmp (op_neD r.units) os_ne ha hb (nomark _)
theorem t_in (r : Room k X.A) (ha : SE X W XM pa a ca) (hb : SE X W XM pa b cb) (hm : behindInMarks .In b = false := by rfl) : ST X W XM pa (.Compare a [.In] [b] pos) (bvC (op2C inD ca cb)) := st_cmp (op_inAll (room65 r)) os_in ha hb hm
theorem t_notin (r : Room k X.A) (ha : SE X W XM pa a ca) (hb : SE X W XM pa b cb) (hm : behindInMarks .NotIn b = false := by rfl) : ST X W XM pa (.Compare a [.NotIn] [b] pos) (bvC (op2C notInD ca cb)) := st_cmp (op_notInAll (room65 r)) os_notIn ha hb hm
theorem t_is {j p2} (ha : SE X W XM pa a ca) : ST X W XM pa (.Compare a [.Is] [.Constant .none j p2] pos) (bvC (op2C isNoneD ca (litC .none))) := st_cmp op_isN os_isN ha se_non (nomark _)
theorem t_isnot {j p2} (ha : SE X W XM pa a ca) : ST X W XM pa (.Compare a [.IsNot] [.Constant .none j p2] pos) (bvC (op2C notNoneD ca (litC .none))) := st_cmp op_notN os_notN ha se_non (nomark _)
theorem e_le2 (ha : SE X W XM pa a ca) (hb : SE X W XM pa b cb) (hc : SE X W XM pa c cc) (hm : lastMarks [.LtE, .LtE] [b, c] = false := by with_unfolding_all rfl) : SE X W XM pa (.Compare a [.LtE, .LtE] [b, c] pos) (chainC leD leD ca cb cc) := se_chain op_le os_cmp op_le os_cmp ha hb hc hm
theorem t_le2 (ha : SE X W XM pa a ca) (hb : SE X W XM pa b cb) (hc : SE X W XM pa c cc) (hm : lastMarks [.LtE, .LtE] [b, c] = false := by with_unfolding_all rfl) : ST X W XM pa (.Compare a [.LtE, .LtE] [b, c] pos) (bvC (chainC leD leD ca cb cc)) := st_chain op_le os_cmp op_le os_cmp ha hb hc hm
theorem e_ix (ha : SE X W XM pa a ca) (hb : SE X W XM pa b cb) (hp : PlainIx b := by exact fun _ _ => rfl) : SE X W XM pa (.Subscript a b pos) (op2C ixD ca cb) := se_ix ix_all os_ix ha hb hp
variable {lo hi : Option Expr} {cl cu : CP} {p2 : Pos}
theorem e_sl (ha : SE X W XM pa a ca) (hl : SP X W XM pa lo cl) (hu : SP X W XM pa hi cu) : SE X W XM pa (.Subscript a (.Slice lo hi none p2) pos) (sliceC slD ca cl cu) := se_slice sl_all ss_sl ha hl hu
variable {es : List Expr} {cr : CA} {p : Pos} {e : Expr} {ce : CE}
theorem e_len (hm : X.mg "len" = none) (ha : SA X W XM pa [e] cr) (hg : Gl X "len" := by rfl) (he : starEach [e] X.env = (false, eval e X.env) :: starEach [] X.env := by rfl) (hpl : (backTo pos (starEach [] X.env)).any (·.1) = false := by rfl) : SE X W XM pa (.Call (.Name "len" p) [e] [] pos) (callC lenD cr) :=
  se_callB call_len_seq cs_len hg hm b_len ha (by decide) (by decide) he hpl
theorem e_sum (hc : X.calm = true) (hm : X.mg "sum" = none) (ha : SA X W XM pa [e] cr) (hg : Gl X "sum" := by rfl) (he : starEach [e] X.env = (false, eval e X.env) :: starEach [] X.env := by rfl) (hpl : (backTo pos (starEach [] X.env)).any (·.1) = false := by rfl) : SE X W XM pa (.Call (.Name "sum" p) [e] [] pos) (callC sumD cr) :=
  se_callB (cr_sumAll hc) cs_sum hg hm b_sum ha (by decide) (by decide) he hpl
theorem e_all (hc : X.calm = true) (hm : X.mg "all" = none) (ha : SA X W XM pa [e] cr) (hg : Gl X "all" := by rfl) (he : starEach [e] X.env = (false, eval e X.env) :: starEach [] X.env := by rfl) (hpl : (backTo pos (starEach [] X.env)).any (·.1) = false := by rfl) : SE X W XM pa (.Call (.Name "all" p) [e] [] pos) (callC allD cr) :=
  se_callB (cr_all hc) cs_all hg hm b_all ha (by decide) (by decide) he hpl
theorem e_abs (hm : X.mg "abs" = none) (ha : SA X W XM pa [e] cr) (hg : Gl X "abs" := by rfl) (he : starEach [e] X.env = (false, eval e X.env) :: starEach [] X.env := by rfl) (hpl : (backTo pos (starEach [] X.env)).any (·.1) = false := by rfl) : SE X W XM pa (.Call (.Name "abs" p) [e] [] pos) (callC absD cr) :=
  se_callB call_abs cs_abs hg hm b_abs ha (by decide) (by decide) he hpl
theorem e_max (hc : X.calm = true) (hm : X.mg "max" = none) (ha : SA X W XM pa (e :: es) cr) (hg : Gl X "max" := by rfl) (he : starEach (e :: es) X.env = (false, eval e X.env) :: starEach es X.env := by rfl) (hpl : (backTo pos (starEach es X.env)).any (·.1) = false := by rfl) : SE X W XM pa (.Call (.Name "max" p) (e :: es) [] pos) (callC maxD cr) :=
  se_callB (cr_maxAll hc) cs_max hg hm b_max ha (by decide) (by decide) he hpl
theorem e_min (hc : X.calm = true) (hm : X.mg "min" = none) (ha : SA X W XM pa (e :: es) cr) (hg : Gl X "min" := by rfl) (he : starEach (e :: es) X.env = (false, eval e X.env) :: starEach es X.env := by rfl) (hpl : (backTo pos (starEach es X.env)).any (·.1) = false := by rfl) : SE X W XM pa (.Call (.Name "min" p) (e :: es) [] pos) (callC minD cr) :=
  se_callB (cr_minAll hc) cs_min hg hm b_min ha (by decide) (by decide) he hpl
theorem e_tuple (hm : X.mg "tuple" = none) (ha : SA X W XM pa [e] cr) (hg : Gl X "tuple" := by rfl) (he : starEach [e] X.env = (false, eval e X.env) :: starEach [] X.env := by rfl) (hpl : (backTo pos (starEach [] X.env)).any (·.1) = false := by rfl) : SE X W XM pa (.Call (.Name "tuple" p) [e] [] pos) (callC tupleD cr) :=
  se_callTy call_tuple_of cs_tuple hg hm b_tuple ha (by decide) (by decide) he hpl
theorem o_list (hm : X.mg "list" = none) (ha : SA X W XM pa [e] cr) (hg : Gl X "list" := by rfl) (he : starEach [e] X.env = (false, eval e X.env) :: starEach [] X.env := by rfl) (hpl : (backTo pos (starEach [] X.env)).any (·.1) = false := by rfl) : SO X W XM pa (.Call (.Name "list" p) [e] [] pos) (callO listD cr) :=
  so_callTy call_list_of co_list hg hm b_list ha (by decide) (by decide) he hpl
theorem e_isi {T : String} {nT : Str} {pT : Pos} (hk : KitT T) (hm : X.mg "isinstance" = none) (mT : X.mg nT = none) (vT : bootBuiltins nT = some (.type T)) (he : SE X W XM pa e ce) (gT : Gl X nT := by rfl) (nT1 : nT ≠ "__name__" := by decide) (nT2 : (nT == ("__debug__" : Str)) = false := by decide)
    (hg : Gl X "isinstance" := by rfl) (hs : starEach (e :: [.Name nT pT]) X.env = (false, eval e X.env) :: starEach [.Name nT pT] X.env := by rfl)
    (hs2 : starEach (.Name nT pT :: []) X.env = (false, eval (.Name nT pT) X.env) :: starEach [] X.env := by rfl) (hpl : (backTo pos (starEach [.Name nT pT] X.env)).any (·.1) = false := by rfl) :
    SE X W XM pa (.Call (.Name "isinstance" p) [e, .Name nT pT] [] pos) (isC T ce) := se_isC hk hg hm b_isinstance he gT mT vT nT1 nT2 (by decide) (by decide) hs hs2 hpl
/-- list(range(..)), tuple(range(..)) -/
@[simp] def lrg1O (a : CE) : CO := fun τ => (a τ).bind fun p => (R.ofOpt (get1 [p.1])).bind fun j => .ok (rngD 0 j, p.2)
@[simp] def lrg2O (a b : CE) : CO := fun τ => (a τ).bind fun p => (b p.2).bind fun q => (R.ofOpt (get2 [p.1, q.1])).bind fun r => .ok (rngD r.1 r.2, q.2)
@[simp] def trg1C (a : CE) : CE := fun τ => (a τ).bind fun p => (R.ofOpt (get1 [p.1])).bind fun j => .ok (.tuple (rngD 0 j), p.2)
theorem rg_dp {K : PySem.W.Frag} {F : Hp} (i j : Int) : DpAll K F (rgV i j) (rngD i j) := by
  have e1 : rgV i j = ((List.range (j - i).toNat).map fun k => i + ((k : Nat) : Int)).map V.int := by simp [rgV]
  have e2 : rngD i j = ((List.range (j - i).toNat).map fun k => i + ((k : Nat) : Int)).map PyData.int := by simp [rngD]
  rw [e1, e2]
  exact DpAll.of_ints _
theorem o_lrg1 {p0 pos0 : Pos} (hc : X.calm = true) (hl : X.mg "list" = none) (hr : X.mg "range" = none) (ha : SE X W XM pa a ca) (gl : Gl X "list" := by rfl) (gr : Gl X "range" := by rfl)
    (na : starEach [a] X.env = (false, eval a X.env) :: starEach [] X.env := by rfl)
    (nl : starEach [.Call (.Name "range" p0) [a] [] pos0] X.env = (false, eval (.Call (.Name "range" p0) [a] [] pos0) X.env) :: starEach [] X.env := by rfl) :
    SO X W XM pa (.Call (.Name "list" p) [.Call (.Name "range" p0) [a] [] pos0] [] pos) (lrg1O ca) := (pe_listRg hc gl hl (prg_1 gr hr ha na) nl).imp fun σ H Q q => by
  obtain ⟨G, F, τ, r0, q⟩ := q
  refine At.step r0 q fun F1 H1 d1 τ1 v s1 r1 h1 q1 => ?_
  obtain ⟨j, e1, q1⟩ := At.opt q1
  obtain ⟨e2, zj⟩ := get1_some e1
  cases e2
  cases h1
  obtain ⟨z1, z2⟩ := small_iff.mp zj
  refine ⟨j, rfl, ⟨by omega, by omega, by omega, by omega, by omega⟩, fun q hq => ?_⟩
  obtain ⟨r2, l2⟩ := r1.loose hq (rg_dp 0 j)
  exact q1 _ _ _ (Same.refl _) r2 ⟨q, rfl, l2⟩
theorem o_lrg2 {p0 pos0 : Pos} (hc : X.calm = true) (hl : X.mg "list" = none) (hr : X.mg "range" = none) (ha : SE X W XM pa a ca) (hb : SE X W XM pa b cb) (gl : Gl X "list" := by rfl) (gr : Gl X "range" := by rfl)
    (na : starEach [a, b] X.env = (false, eval a X.env) :: starEach [b] X.env := by rfl) (nb : starEach [b] X.env = (false, eval b X.env) :: starEach [] X.env := by rfl) (np : (backTo pos0 (starEach [b] X.env)).any (·.1) = false := by rfl)
    (nl : starEach [.Call (.Name "range" p0) [a, b] [] pos0] X.env = (false, eval (.Call (.Name "range" p0) [a, b] [] pos0) X.env) :: starEach [] X.env := by rfl) :
    SO X W XM pa (.Call (.Name "list" p) [.Call (.Name "range" p0) [a, b] [] pos0] [] pos) (lrg2O ca cb) := (pe_listRg hc gl hl (prg_2 gr hr ha hb na nb np) nl).imp fun σ H Q q => by
  obtain ⟨G, F, τ, r0, q⟩ := q
  refine At.step r0 q fun F1 H1 d1 τ1 v s1 r1 h1 q1 => At.step r1 q1 fun F2 H2 d2 τ2 w s2 r2 h2 q2 => ?_
  obtain ⟨⟨i, j⟩, e1, q3⟩ := At.opt q2
  obtain ⟨e2, zi, zj⟩ := get2_some e1
  cases e2
  cases h1
  cases h2
  obtain ⟨z1, z2⟩ := small_iff.mp zi
  obtain ⟨z3, z4⟩ := small_iff.mp zj
  refine ⟨i, j, rfl, rfl, ⟨by omega, by omega, by omega, by omega, by omega⟩, fun q hq => ?_⟩
  obtain ⟨r3, l3⟩ := r2.loose hq (rg_dp i j)
  exact q3 _ _ _ (Same.refl _) r3 ⟨q, rfl, l3⟩
theorem e_trg1 {p0 pos0 : Pos} (hc : X.calm = true) (hl : X.mg "tuple" = none) (hr : X.mg "range" = none) (ha : SE X W XM pa a ca) (gl : Gl X "tuple" := by rfl) (gr : Gl X "range" := by rfl)
    (na : starEach [a] X.env = (false, eval a X.env) :: starEach [] X.env := by rfl)
    (nl : starEach [.Call (.Name "range" p0) [a] [] pos0] X.env = (false, eval (.Call (.Name "range" p0) [a] [] pos0) X.env) :: starEach [] X.env := by rfl) :
    SE X W XM pa (.Call (.Name "tuple" p) [.Call (.Name "range" p0) [a] [] pos0] [] pos) (trg1C ca) := (pe_tupRg hc gl hl (prg_1 gr hr ha na) nl).imp fun σ H Q q => by
  obtain ⟨G, F, τ, r0, q⟩ := q
  refine At.step r0 q fun F1 H1 d1 τ1 v s1 r1 h1 q1 => ?_
  obtain ⟨j, e1, q1⟩ := At.opt q1
  obtain ⟨e2, zj⟩ := get1_some e1
  cases e2
  cases h1
  obtain ⟨z1, z2⟩ := small_iff.mp zj
  refine ⟨j, rfl, ⟨by omega, by omega, by omega, by omega, by omega⟩, fun q hq => ?_⟩
  have ex := Ext.new (o := .tup (rgV 0 j)) r1.z.fh hq
  exact q1 _ _ _ ex.ff (r1.ext ex) (.tup upd_same (rg_dp 0 j))
end
/-- what the text says of an exception class of its own -/
def ExcT (C : Ctx) (x : Str) (n : Nat) : Prop := ∃ a : Addr, C.XM n = .ref a ∧ C.mg x = some (.ref a) ∧ PySem.W.excIn C.K a [.type "ValueError", .type "Exception", .type "BaseException", .type "object"] "ValueError.__new__" = true ∧ PySem.W.keepIn C.K (.ref a) = true ∧
  PySem.W.subIn C.K (.ref a) (.type "BaseException") = some true ∧ PySem.W.typeIn C.K (.ref a) = some (.type "type")
/-- raise X('..') -/
theorem ss_raiseX {X : Cx} {W : WX} {C : Ctx} {pa : List Addr} {x m : Str} {n j : Nat} {p p2 p3 pos : Pos} (h : ExcT C x n) (ic : In C X) (hc : X.calm = true) (tk : L2N.Takes X W) (hg : Gl X x := by rfl) (hdb : (x == ("__debug__" : Str)) = false := by decide) :
    SS X W C.XM pa (.Raise (some (.Call (.Name x p) [.Constant (.str m) j p2] [] p3)) none pos) (raiseS n) := by
  obtain ⟨a, e1, e2, e3, e4, e5, e6⟩ := h
  obtain ⟨i1, i2, i3, i4, i5⟩ := ic
  obtain ⟨P, w, K, mg, base, XM⟩ := C
  simp only at i1 i2 i3 i4 i5
  subst i1 i2 i3 i4 i5
  exact ss_raise hc tk (L2N.pmk_own PySem.F.excBase_ValueError e3 e2 e4 (raises_own e5 e6) hg hdb) e1
/-- a constant of the module -/
theorem se_globX {X : Cx} {W : WX} {C : Ctx} {XM : Nat → Value} {pa : List Addr} {x : Str} {i : Int} {pos : Pos} (h : ∃ t, C.mg x = some (.int i t)) (ic : In C X) (hg : Gl X x := by rfl) (hd : (x == ("__debug__" : Str)) = false := by decide) : SE X W XM pa (.Name x pos) (litC (.int i)) := by
  obtain ⟨t, e⟩ := h
  exact se_glob hg (by rw [ic.mg]; exact e) ⟨t, rfl⟩ hd
/-! ### a list or a tuple, walked -/
def seqOf : D → Option (List D)
  | .list ds => some ds
  | .tuple ds => some ds
  | _ => none
@[simp] theorem seqOf_list (ds : List D) : seqOf (.list ds) = some ds := rfl
@[simp] theorem seqOf_tuple (ds : List D) : seqOf (.tuple ds) = some ds := rfl
@[simp] def seqI (c : CE) : CA := fun τ => (c τ).bind fun p => (R.ofOpt (seqOf p.1)).bind fun ds => .ok (ds, p.2)
theorem si_seq {X : Cx} {W : WX} {XM : Nat → Value} {pa : List Addr} {tg iter : Expr} {ce : CE} (h : SE X W XM pa iter ce) : SI X W XM pa tg iter (seqI ce) := by
  refine ⟨fun pins s σ H Q I q => ?_⟩
  obtain ⟨G, F, τ, r0, q⟩ := q
  cases e : ce τ with
  | stuck =>
    unfold seqI at q
    rw [e] at q
    exact q.elim
  | exc x =>
    refine (si_list (tg := tg) h).run pins s σ H Q I ⟨G, F, τ, r0, ?_⟩
    unfold seqI at q
    unfold lstI
    rw [e] at q ⊢
    exact q
  | ok p =>
    obtain ⟨d, τ'⟩ := p
    unfold seqI at q
    rw [e] at q
    cases d with
    | list ds =>
      refine (si_list (tg := tg) h).run pins s σ H Q I ⟨G, F, τ, r0, ?_⟩
      unfold lstI
      rw [e]
      exact q
    | tuple ds =>
      refine (si_tup (tg := tg) h).run pins s σ H Q I ⟨G, F, τ, r0, ?_⟩
      unfold tupI
      rw [e]
      exact q
    | none => exact q.elim
    | bool _ => exact q.elim
    | int _ => exact q.elim
    | str _ => exact q.elim
    | dict _ => exact q.elim
end Lin

/-! Lin8: the end: from the law's mirror to the row's claim. -/
namespace Lin
open PySem L2
def excNames : List Str := ["InvalidView", "InvalidItem", "InvalidPosition", "InvalidRow", "InvalidItems", "InvalidHeights", "InvalidNumber", "InvalidSightings", "OtherView", "NothingToUndo", "ScrollError"]
def xmOf (mg : Str → Option Value) : Nat → Value := fun n => match excNames[n]? with
  | some x => (mg x).getD .none
  | none => .none
theorem mk_def {P : Program} {w : World} {K : PySem.W.Frag} {mg : Str → Option Value} {base h : Heap} {XM : Nat → Value} (X : K.In h) (G : h.Ns mainGlobals mg) {x : Str} {st : Stmt} (ps : List Str) {f : Addr} {oc : Value} {od an : Option Addr} {sl : Array (Option Value)} {kV dc pm cd ct : Value}
    (a : PySem.W.nsIn K mainGlobals x = some (some (.ref f))) (l : K.lookup f = some ⟨oc, od, .func (PySem.W.fnOf x x (defArgs st) (defBody st) (defScope st) .none kV dc pm an cd ct), sl⟩) (c : PySem.W.codeIn K cd x = true) (k : PySem.W.keepIn K (.ref f) = true)
    (hb : ∀ (kV doc pm : Value) (an : Option Addr) (cdv ct : Value) (us : List Value), us.length = ps.length → bindArgs (PySem.W.fnOf x x (defArgs st) (defBody st) (defScope st) .none kV doc pm an cdv ct) ⟨us, []⟩ = pure (ps.zip us)) :
    ∃ f fd, Def ⟨P, w, K, mg, base, XM⟩ x st ps f fd := by
  have F := fun_mk (st := st) l c k
  exact ⟨f, _, F, PySem.W.mg_of X G a, F.binds hb⟩
theorem mk_exc {P : Program} {w : World} {K : PySem.W.Frag} {mg : Str → Option Value} {base h : Heap} (X : K.In h) (G : h.Ns mainGlobals mg) {x : Str} {n : Nat} {f : Addr} (hn : excNames[n]? = some x) (a : PySem.W.nsIn K mainGlobals x = some (some (.ref f)))
    (e1 : PySem.W.excIn K f [.type "ValueError", .type "Exception", .type "BaseException", .type "object"] "ValueError.__new__" = true) (e2 : PySem.W.keepIn K (.ref f) = true) (e3 : PySem.W.subIn K (.ref f) (.type "BaseException") = some true) (e4 : PySem.W.typeIn K (.ref f) = some (.type "type")) :
    ExcT ⟨P, w, K, mg, base, xmOf mg⟩ x n := by
  have m := PySem.W.mg_of X G a
  refine ⟨f, ?_, m, e1, e2, e3, e4⟩
  show xmOf mg n = .ref f
  unfold xmOf
  rw [hn]
  simp only [m]
  rfl
theorem mk_con {K : PySem.W.Frag} {mg : Str → Option Value} {h : Heap} (X : K.In h) (G : h.Ns mainGlobals mg) {x : Str} {i : Int} {t : Tok} (a : PySem.W.nsIn K mainGlobals x = some (some (.int i t))) : ∃ t, mg x = some (.int i t) := ⟨t, PySem.W.mg_of X G a⟩
/-- the law's promise -/
def spLaw (K : PySem.W.Frag) : Sp := fun vs H Q _ => ∃ (a : Addr) (ns : List Int), vs = [.ref a] ∧ SqL K H a (ns.map V.int) ∧ ns.length ≤ 63 ∧ ∀ H', Q (.bl true) H'
theorem law_imp {C : Lin.Ctx} {k : Nat} {f : Addr} {fd : FuncData} {ps : List Str} {fn : List D → R D} (hl : ps.length = 1) (F : FnOk C.P C.w C.K C.mg C.base (L2N.CX C.P C.w) k f fd ps (spV C.K C.XM ps.length fn))
    (law : ∀ ns : List Int, ns.length ≤ 63 → fn [.list (ns.map .int)] = .ok (.bool true)) : FnOk C.P C.w C.K C.mg C.base (L2N.CX C.P C.w) k f fd ps (spLaw C.K) := F.imp fun vs H Q E h => by
  obtain ⟨a, ns, rfl, hS, hn, q⟩ := h
  refine ⟨H, [.list (ns.map .int)], Same.refl _, .cons (.lst hS (DpAll.of_ints ns)) .nil, hl.symm, ?_⟩
  rw [law ns hn]
  intro v F' H' _ hd
  cases hd
  exact q H'
theorem walk {l : PySem.W.OpenLaw} {q : Program} {loose : List Str} {XP : (Str → Option Value) → Heap → Prop} {YP : World → Heap → Prop} {d : DefRec} {K : Params → PySem.W.Frag} {k : Nat} (hk : Room k callerA) (hn : l.most = some 63) (hdf : d.params.defaults = [])
    (hY : ∀ (w : World) (h : Heap), YP w h → (K w.params).In h)
    (F : ∀ (w : World) (mg : Str → Option Value) (fa : Addr) (h : Heap), (K w.params).In h → h.Ns mainGlobals mg → mg d.name = some (.ref fa) →
      ∃ fd : FuncData, (∀ (s : Shared) (u : Value), BindsTo s fd ⟨[u], []⟩ [("script", u)]) ∧ ∀ base : Heap, (K w.params).In base → base.Ns mainGlobals mg → FnOk l.prog w (K w.params) mg base (L2N.CX l.prog w) k fa fd ["script"] (spLaw (K w.params))) :
    PySem.W.WalkO q loose XP YP l.row.toRowW d [] (fun f vs => PySem.call f vs) :=
  L2.walk_of (n := 63) (k := k) (x := "script") (CX := fun w => L2N.CX l.prog w) (sp := fun w => spLaw (K w.params)) hn (by decide) hdf hk hY F (fun _ _ a ns hl _ hS => ⟨a, ns, rfl, hS, hl, fun _ => rfl⟩) fun _ _ _ _ _ z => by
    obtain ⟨_, _, _, _, _, _, _, _, _, _, _, _, z⟩ := z
    exact z
end Lin

/-! Lin9: comprehensions with two for's. -/
namespace Lin
open PySem L2
section
variable {X : Cx} {W : WX} {XM : Nat → Value} {pa : List Addr} {pos : Pos}
def lcIn (vs : List Nat) (g : D → Ev → Option Ev) (ct : CT) (ce : CE) : List D → List D → CO
  | [], acc, τ => .ok (acc, τ)
  | d :: ds, acc, τ => (R.ofOpt (g d τ)).bind fun τ1 => (R.noexc (ct τ1)).bind fun p => if p.1 = true then (R.noexc (ce p.2)).bind fun q => if sized (acc.length + 1) = true then lcIn vs g ct ce ds (acc ++ [q.1]) (wipeE q.2 vs) else .stuck
      else lcIn vs g ct ce ds acc (wipeE p.2 vs)
def lc2Loop (vs : List Nat) (g : D → Ev → Option Ev) (ct : CT) (ci1 : CA) (vs1 : List Nat) (g1 : D → Ev → Option Ev) (ct1 : CT) (ce : CE) : List D → List D → CO
  | [], acc, τ => .ok (acc, τ)
  | d :: ds, acc, τ => (R.ofOpt (g d τ)).bind fun τ1 => (R.noexc (ct τ1)).bind fun p => if p.1 = true then (R.noexc (ci1 p.2)).bind fun q => (lcIn vs1 g1 ct1 ce q.1 acc (wipeE q.2 vs1)).bind fun r => lc2Loop vs g ct ci1 vs1 g1 ct1 ce ds r.1 (wipeE r.2 vs)
      else lc2Loop vs g ct ci1 vs1 g1 ct1 ce ds acc (wipeE p.2 vs)
def lc2O (vs : List Nat) (ci : CA) (g : D → Ev → Option Ev) (ct : CT) (ci1 : CA) (vs1 : List Nat) (g1 : D → Ev → Option Ev) (ct1 : CT) (ce : CE) : CO := fun τ => (ci τ).bind fun p => (lc2Loop vs g ct ci1 vs1 g1 ct1 ce p.1 [] (wipeE p.2 vs)).bind fun q => .ok (q.1, wipeE q.2 vs)
theorem lcIn_nex {vs : List Nat} {g : D → Ev → Option Ev} {ct : CT} {ce : CE} : ∀ {ds acc : List D} {τ : Ev} {e : Nat}, lcIn vs g ct ce ds acc τ ≠ .exc e
  | [], acc, τ, e, h => by cases h
  | d :: ds, acc, τ, e, h => by
    unfold lcIn at h
    cases e1 : g d τ with
    | none => rw [e1] at h; cases h
    | some τ1 =>
      rw [e1] at h
      simp only [R.ofOpt_some, R.bind_ok] at h
      cases e2 : ct τ1 with
      | exc x => rw [e2] at h; cases h
      | stuck => rw [e2] at h; cases h
      | ok p =>
        rw [e2] at h
        simp only [R.noexc, R.bind_ok] at h
        split at h
        · cases e3 : ce p.2 with
          | exc x => rw [e3] at h; cases h
          | stuck => rw [e3] at h; cases h
          | ok q =>
            rw [e3] at h
            simp only [R.bind_ok] at h
            split at h
            · exact lcIn_nex h
            · cases h
        · exact lcIn_nex h
theorem lc2_nex {vs : List Nat} {g : D → Ev → Option Ev} {ct : CT} {ci1 : CA} {vs1 : List Nat} {g1 : D → Ev → Option Ev} {ct1 : CT} {ce : CE} : ∀ {ds acc : List D} {τ : Ev} {e : Nat}, lc2Loop vs g ct ci1 vs1 g1 ct1 ce ds acc τ ≠ .exc e
  | [], acc, τ, e, h => by cases h
  | d :: ds, acc, τ, e, h => by
    unfold lc2Loop at h
    cases e1 : g d τ with
    | none => rw [e1] at h; cases h
    | some τ1 =>
      rw [e1] at h
      simp only [R.ofOpt_some, R.bind_ok] at h
      cases e2 : ct τ1 with
      | exc x => rw [e2] at h; cases h
      | stuck => rw [e2] at h; cases h
      | ok p =>
        rw [e2] at h
        simp only [R.noexc, R.bind_ok] at h
        split at h
        · cases e3 : ci1 p.2 with
          | exc x => rw [e3] at h; cases h
          | stuck => rw [e3] at h; cases h
          | ok q =>
            rw [e3] at h
            simp only [R.bind_ok] at h
            cases e4 : lcIn vs1 g1 ct1 ce q.1 acc (wipeE q.2 vs1) with
            | exc x => exact lcIn_nex e4
            | stuck => rw [e4] at h; cases h
            | ok r =>
              rw [e4] at h
              exact lc2_nex h
        · exact lc2_nex h
theorem gdn {α β : Type} {G F : Hp} {n : Nat} {x : R α} {k : α → R (β × Ev)} {P : β → Ev → Prop} (h : Gd W0 XM G F n ((R.noexc x).bind k) P) : Gd W0 XM G F n (x.bind k) P := by
  cases x with
  | ok a => exact h
  | exc e => exact h.elim
  | stuck => exact h.elim
theorem R.assoc {α β γ : Type} (x : R α) (f : α → R β) (k : β → R γ) : (x.bind f).bind k = x.bind fun a => (f a).bind k := by cases x <;> rfl
theorem R.ite_bind {α β : Type} (c : Prop) [Decidable c] (a b : R α) (k : α → R β) : (if c then a else b).bind k = if c then a.bind k else b.bind k := by split <;> rfl
theorem wipe_sub {σ : L2.St} {vs vs1 : List Nat} (h : ∀ i ∈ vs1, i ∈ vs) : wipe (wipe σ vs1) vs = wipe σ vs := wipe_eq (wipe_length σ vs1) fun j hj => by rw [wipe_get, if_neg fun q => hj (h j q)]
theorem tLc2_of {vs : List Nat} {ci : CA} {g : D → Ev → Option Ev} {ct : CT} {ci1 : CA} {vs1 : List Nat} {g1 : D → Ev → Option Ev} {ct1 : CT} {ce : CE} (hvs : ∀ i ∈ vs1, i ∈ vs) {σ : L2.St} {H : Hp} {Q : VK} (q : tG X.K W XM pa (relO X.K) (lc2O vs ci g ct ci1 vs1 g1 ct1 ce) σ H Q) :
    tLc2 (tG X.K W XM pa (relI X.K) ci) (tTg X.K pa vs g) (tG X.K W0 XM pa relB ct) (tG X.K W0 XM pa (relI X.K) ci1) (tTg X.K pa vs1 g1) (tG X.K W0 XM pa relB ct1) (tG X.K W0 XM pa (relE X.K) ce) vs vs1 σ H Q := by
  obtain ⟨G, F, τ, r0, q⟩ := q
  refine At.step r0 q fun F1 H1 ds τ1 J s1 r1 wk q1 => ?_
  intro L hL
  have fL : F1 L = none := Same.free r1.z.fh hL
  have gL : G L = none := Same.free r1.z.gh hL
  have wl : (wipe σ vs).length = σ.length := wipe_length σ vs
  let post : Hp → List D → Ev → Prop := fun F' es τ'' => ∀ (F2 H2 : Hp) (ys : List V), Same F' F2 → Rp X.K pa (upd G L (.lst ys)) F2 H2 (wipe σ vs) τ'' → DpAll X.K F2 ys es → Q (.ref L) H2
  have hm : ∀ F F1 a τ, Same F F1 → post F a τ → post F1 a τ := fun F F1 a τ s h F2 H2 ys s2 => h F2 H2 ys (Same.trans s s2)
  have gd : ∀ {G1 G2 F' : Hp} {r : R (List D × Ev)}, Gd W0 XM G1 F' σ.length r (post F') → (∀ e, r ≠ .exc e) → Gd W0 XM G2 F' σ.length r (post F') := fun {G1 G2 F' r} h hn => by
    cases r with
    | ok p => exact h
    | exc e => exact absurd rfl (hn e)
    | stuck => exact h
  refine ⟨fun i m H' => m = ds.length - i ∧ i ≤ ds.length ∧ ∃ (F' : Hp) (τ' : Ev) (acc : List D) (xs : List V), Same F1 F' ∧ Rp X.K pa (upd G L (.lst xs)) F' H' (wipe σ vs) τ' ∧ DpAll X.K F' xs acc ∧
    Gd W0 XM (upd G L (.lst xs)) F' σ.length (lc2Loop vs g ct ci1 vs1 g1 ct1 ce (ds.drop i) acc τ') (post F'), ?_, ?_⟩
  · refine ⟨ds.length, by simp, Nat.zero_le _, F1, wipeE τ1 vs, [], [], Same.refl _, ?_, .nil, ?_⟩
    · have r2 : Rp X.K pa G F1 (upd H1 L (.lst [])) σ τ1 := r1.ext (Ext.newH r1.z.fh hL)
      exact (r2.lend upd_same fL (r1.noOwn_new hL)).wipeSt vs
    · rw [List.drop_zero]
      revert q1
      show At X.K W XM pa (relO X.K) G F1 σ ((lc2Loop vs g ct ci1 vs1 g1 ct1 ce ds [] (wipeE τ1 vs)).bind fun q => .ok (q.1, wipeE q.2 vs)) Q → _
      cases e0 : lc2Loop vs g ct ci1 vs1 g1 ct1 ce ds [] (wipeE τ1 vs) with
      | exc x => exact fun _ => (lc2_nex e0).elim
      | stuck => exact fun z => z.elim
      | ok pq =>
        intro q1 F2 H2 ys s2 r2 hd2
        have r3 : Rp X.K pa (upd G L (.lst ys)) F2 H2 σ (wipeE pq.2 vs) := r2.unwipeSt (wipe_wipe σ vs) wl
        obtain ⟨r4, h3, h4, h5⟩ := r3.back gL
        exact q1 _ F2 H2 s2 r4 ⟨L, rfl, ⟨ys, h3, hd2⟩, h4, gL, h5⟩
  · rintro i m H' ⟨rfl, hi, F', τ', acc, xs, s', r', hd', q'⟩
    by_cases hlt : i < ds.length
    · right
      obtain ⟨d, hd⟩ : ∃ d, ds[i]? = some d := ⟨ds[i], List.getElem?_eq_getElem hlt⟩
      have ed : ds.drop i = d :: ds.drop (i + 1) := by
        rw [List.drop_eq_getElem_cons hlt]
        rw [List.getElem?_eq_getElem hlt] at hd
        rw [Option.some.inj hd]
      obtain ⟨go, yl⟩ := wk.go F' H' i d s' r'.z.fh hd
      rw [ed] at q'
      -- the turn's end
      let Nx : Hp → Prop := fun H2 => ∃ (F2 : Hp) (τ2 : Ev) (acc2 : List D) (xs2 : List V), Same F1 F2 ∧ Rp X.K pa (upd G L (.lst xs2)) F2 H2 (wipe σ vs) τ2 ∧ DpAll X.K F2 xs2 acc2 ∧
        Gd W0 XM (upd G L (.lst xs2)) F2 σ.length (lc2Loop vs g ct ci1 vs1 g1 ct1 ce (ds.drop (i + 1)) acc2 τ2) (post F2)
      refine ⟨go, Nx, fun H2 h => ⟨ds.length - (i + 1), by omega, rfl, hlt, h⟩, fun x H2 y => ?_⟩
      obtain ⟨F2, ex, hx⟩ := yl x H2 y
      have r2 := r'.ext ex
      have q2 : Gd W0 XM (upd G L (.lst xs)) F2 σ.length (lc2Loop vs g ct ci1 vs1 g1 ct1 ce (d :: ds.drop (i + 1)) acc τ') (post F2) := Gd.mono q' ex.ff fun a τ z => hm _ _ _ _ ex.ff z
      unfold lc2Loop at q2
      obtain ⟨τ2, e2, q5⟩ : ∃ τ2, g d τ' = some τ2 ∧ Gd W0 XM (upd G L (.lst xs)) F2 σ.length ((ct τ2).bind fun p => if p.1 = true then (R.noexc (ci1 p.2)).bind fun q => (lcIn vs1 g1 ct1 ce q.1 acc (wipeE q.2 vs1)).bind fun r => lc2Loop vs g ct ci1 vs1 g1 ct1 ce (ds.drop (i + 1)) r.1 (wipeE r.2 vs)
          else lc2Loop vs g ct ci1 vs1 g1 ct1 ce (ds.drop (i + 1)) acc (wipeE p.2 vs)) (post F2) := by
        cases e1 : g d τ' with
        | none => rw [e1] at q2; exact q2.elim
        | some τ2 => rw [e1] at q2; exact ⟨τ2, rfl, gdn q2⟩
      refine ⟨upd G L (.lst xs), F2, τ', d, r2, hx, τ2, e2, fun σ3 l3 o3 r3 => ?_⟩
      have w3 : wipe σ3 vs = wipe (wipe σ vs) vs := wipe_eq l3 o3
      refine ⟨w3.trans (wipe_wipe σ vs), ?_⟩
      have l4 : σ3.length = σ.length := l3.trans wl
      refine Gd.step r3 σ.length l4 q5 hm fun F4 H4 b τ4 b' s4 r4 hb q6 => ?_
      cases hb
      cases b with
      | false =>
        rw [if_neg Bool.false_ne_true]
        exact ⟨F4, wipeE τ4 vs, acc, xs, Same.trans (Same.trans s' ex.ff) s4, r4.unwipeSt w3 l3, (hd'.up ex.ff).up s4, q6⟩
      | true =>
        rw [if_pos rfl]
        have q7 : Gd W0 XM (upd G L (.lst xs)) F4 σ.length ((ci1 τ4).bind fun q => (lcIn vs1 g1 ct1 ce q.1 acc (wipeE q.2 vs1)).bind fun r => lc2Loop vs g ct ci1 vs1 g1 ct1 ce (ds.drop (i + 1)) r.1 (wipeE r.2 vs)) (post F4) := gdn q6
        refine Gd.step r4 σ.length l4 q7 hm fun F5 H5 es τ5 J1 s5 r5 wk1 q8 => ?_
        have wl1 : (wipe σ3 vs1).length = σ3.length := wipe_length σ3 vs1
        refine ⟨fun j k H' => k = es.length - j ∧ j ≤ es.length ∧ ∃ (F' : Hp) (τ' : Ev) (acc : List D) (xs : List V), Same F5 F' ∧ Rp X.K pa (upd G L (.lst xs)) F' H' (wipe σ3 vs1) τ' ∧ DpAll X.K F' xs acc ∧
          Gd W0 XM (upd G L (.lst xs)) F' σ.length ((lcIn vs1 g1 ct1 ce (es.drop j) acc τ').bind fun r => lc2Loop vs g ct ci1 vs1 g1 ct1 ce (ds.drop (i + 1)) r.1 (wipeE r.2 vs)) (post F'), ?_, ?_⟩
        · exact ⟨es.length, by simp, Nat.zero_le _, F5, wipeE τ5 vs1, acc, xs, Same.refl _, r5.wipeSt vs1, ((hd'.up ex.ff).up s4).up s5, by rw [List.drop_zero]; exact q8⟩
        · rintro j k H6 ⟨rfl, hj, F6, τ6, acc6, xs6, s6, r6, hd6, q9⟩
          by_cases hlt1 : j < es.length
          · right
            obtain ⟨d1, hd1⟩ : ∃ d, es[j]? = some d := ⟨es[j], List.getElem?_eq_getElem hlt1⟩
            have ed1 : es.drop j = d1 :: es.drop (j + 1) := by
              rw [List.drop_eq_getElem_cons hlt1]
              rw [List.getElem?_eq_getElem hlt1] at hd1
              rw [Option.some.inj hd1]
            obtain ⟨go1, yl1⟩ := wk1.go F6 H6 j d1 s6 r6.z.fh hd1
            rw [ed1] at q9
            refine ⟨go1, fun H7 => ∃ (F' : Hp) (τ' : Ev) (acc : List D) (xs : List V), Same F5 F' ∧ Rp X.K pa (upd G L (.lst xs)) F' H7 (wipe σ3 vs1) τ' ∧ DpAll X.K F' xs acc ∧
              Gd W0 XM (upd G L (.lst xs)) F' σ.length ((lcIn vs1 g1 ct1 ce (es.drop (j + 1)) acc τ').bind fun r => lc2Loop vs g ct ci1 vs1 g1 ct1 ce (ds.drop (i + 1)) r.1 (wipeE r.2 vs)) (post F'), fun H7 h => ⟨es.length - (j + 1), by omega, rfl, hlt1, h⟩, fun x1 H7 y1 => ?_⟩
            obtain ⟨F7, ex7, hx7⟩ := yl1 x1 H7 y1
            have r7 := r6.ext ex7
            have q10 : Gd W0 XM (upd G L (.lst xs6)) F7 σ.length ((lcIn vs1 g1 ct1 ce (d1 :: es.drop (j + 1)) acc6 τ6).bind fun r => lc2Loop vs g ct ci1 vs1 g1 ct1 ce (ds.drop (i + 1)) r.1 (wipeE r.2 vs)) (post F7) := Gd.mono q9 ex7.ff fun a τ z => hm _ _ _ _ ex7.ff z
            unfold lcIn at q10
            rw [R.assoc] at q10
            simp only [R.assoc, R.ite_bind] at q10
            obtain ⟨τ8, e8, q11⟩ : ∃ τ8, g1 d1 τ6 = some τ8 ∧ Gd W0 XM (upd G L (.lst xs6)) F7 σ.length ((ct1 τ8).bind fun p => if p.1 = true then (R.noexc (ce p.2)).bind fun q => if sized (acc6.length + 1) = true then (lcIn vs1 g1 ct1 ce (es.drop (j + 1)) (acc6 ++ [q.1]) (wipeE q.2 vs1)).bind fun r => lc2Loop vs g ct ci1 vs1 g1 ct1 ce (ds.drop (i + 1)) r.1 (wipeE r.2 vs) else (.stuck : R (List D × Ev)).bind fun r => lc2Loop vs g ct ci1 vs1 g1 ct1 ce (ds.drop (i + 1)) r.1 (wipeE r.2 vs)
                else (lcIn vs1 g1 ct1 ce (es.drop (j + 1)) acc6 (wipeE p.2 vs1)).bind fun r => lc2Loop vs g ct ci1 vs1 g1 ct1 ce (ds.drop (i + 1)) r.1 (wipeE r.2 vs)) (post F7) := by
              cases e1 : g1 d1 τ6 with
              | none => rw [e1] at q10; exact q10.elim
              | some τ2 => rw [e1] at q10; exact ⟨τ2, rfl, gdn q10⟩
            refine ⟨upd G L (.lst xs6), F7, τ6, d1, r7, hx7, τ8, e8, fun σ9 l9 o9 r9 => ?_⟩
            have w9 : wipe σ9 vs1 = wipe (wipe σ3 vs1) vs1 := wipe_eq l9 o9
            refine ⟨w9.trans (wipe_wipe σ3 vs1), ?_⟩
            have l10 : σ9.length = σ.length := (l9.trans wl1).trans l4
            refine Gd.step r9 σ.length l10 q11 hm fun F10 H10 b1 τ10 b1' s10 r10 hb1 q12 => ?_
            cases hb1
            cases b1 with
            | false =>
              rw [if_neg Bool.false_ne_true]
              exact ⟨F10, wipeE τ10 vs1, acc6, xs6, Same.trans (Same.trans s6 ex7.ff) s10, r10.unwipeSt w9 l9, (hd6.up ex7.ff).up s10, q12⟩
            | true =>
              rw [if_pos rfl]
              refine Gd.step r10 σ.length l10 (gdn q12) hm fun F11 H11 z τ11 v s11 r11 hz q13 => ?_
              by_cases hsz : sized (acc6.length + 1) = true
              · simp only [hsz, if_true] at q13
                have hd11 : DpAll X.K F11 xs6 acc6 := ((hd6.up ex7.ff).up s10).up s11
                refine ⟨xs6, r11.z.gh _ _ upd_same, ?_, F11, wipeE τ11 vs1, acc6 ++ [z], xs6 ++ [v], Same.trans (Same.trans (Same.trans s6 ex7.ff) s10) s11, (r11.lent).unwipeSt w9 l9, hd11.append (.cons hz .nil), ?_⟩
                · have := sized_line hsz
                  rw [hd11.length]
                  omega
                · refine gd q13 fun e => ?_
                  cases e14 : lcIn vs1 g1 ct1 ce (es.drop (j + 1)) (acc6 ++ [z]) (wipeE τ11 vs1) with
                  | exc x => exact (lcIn_nex e14).elim
                  | stuck => intro z; cases z
                  | ok r => exact lc2_nex
              · simp only [hsz] at q13
                exact q13.elim
          · left
            have e : j = es.length := by omega
            refine ⟨wk1.stop F6 H6 j s6 r6.z.fh (by omega), ?_⟩
            rw [e, List.drop_length] at q9
            refine ⟨F6, wipeE τ6 vs, acc6, xs6, Same.trans (Same.trans (Same.trans (Same.trans s' ex.ff) s4) s5) s6, r6.unwipeSt ?_ ?_, hd6, q9⟩
            · rw [wipe_sub hvs]
              exact w3
            · rw [wl1]
              exact l3
    · left
      have e : i = ds.length := by omega
      refine ⟨wk.stop F' H' i s' r'.z.fh (by omega), ?_⟩
      rw [e, List.drop_length] at q'
      exact q' F' H' xs (Same.refl _) r' hd'
theorem sg_more {tg : Expr} {vs vs2 : List Nat} {g : D → Ev → Option Ev} (h : SG X pa tg vs g) (hs : ∀ i ∈ vs, i ∈ vs2) : SG X pa tg vs2 g := h.imp fun v σ H Q q => by
  obtain ⟨G, F, τ, d, r, hd, τ2, e, k⟩ := q
  exact ⟨G, F, τ, d, r, hd, τ2, e, fun σ2 l o r2 => k σ2 l (fun j hj => o j fun z => hj (hs j z)) r2⟩
theorem so_lc2 {elt tg iter tg1 iter1 : Expr} {ifs ifs1 : List Expr} {scope : Scope} {own : List (Str × Nat)} {vs vs1 : List Nat} {ci ci1 : CA} {g g1 : D → Ev → Option Ev} {ct ct1 : CT} {ce : CE} (hc : X.calm = true) (hN : X.N.Nodup) (hi : SI X W XM pa tg iter ci) (ok : BlkOk X.N X.env.scope scope own) (hv : own.map (·.2) = vs) (hvs : ∀ i ∈ vs1, i ∈ vs)
    (hg : ∀ (s : Shared) (H : Hp) (C : Addr) (cl : List (Str × Addr)) (fp : List Addr), SG (X.blk s H scope (compEnvC scope cl C X.env) fp) pa tg vs g)
    (ht : ∀ (s : Shared) (H : Hp) (C : Addr) (cl : List (Str × Addr)) (fp : List Addr), STs (X.blk s H scope (compEnvC scope cl C X.env) fp) W0 XM pa ifs ct)
    (hi1 : ∀ (s : Shared) (H : Hp) (C : Addr) (cl : List (Str × Addr)) (fp : List Addr), SI (X.blk s H scope (compEnvC scope cl C X.env) fp) W0 XM pa tg1 iter1 ci1)
    (hg1 : ∀ (s : Shared) (H : Hp) (C : Addr) (cl : List (Str × Addr)) (fp : List Addr), SG (X.blk s H scope (compEnvC scope cl C X.env) fp) pa tg1 vs1 g1)
    (ht1 : ∀ (s : Shared) (H : Hp) (C : Addr) (cl : List (Str × Addr)) (fp : List Addr), STs (X.blk s H scope (compEnvC scope cl C X.env) fp) W0 XM pa ifs1 ct1)
    (he : ∀ (s : Shared) (H : Hp) (C : Addr) (cl : List (Str × Addr)) (fp : List Addr), SE (X.blk s H scope (compEnvC scope cl C X.env) fp) W0 XM pa elt ce) (hs : ∀ x, foldedSetIterable iter X.env x = pure x := by intro _; rfl) (hs1 : ∀ env x, foldedSetIterable iter1 env x = pure x := by intro _ _; rfl) :
    SO X W XM pa (.ListComp elt [⟨tg, iter, ifs, 0⟩, ⟨tg1, iter1, ifs1, 0⟩] scope pos) (lc2O vs ci g ct ci1 vs1 g1 ct1 ce) := by
  subst hv
  exact (pe_lc2 hc hN hi ok hvs hg ht hi1 hg1 ht1 he hs hs1).imp fun _ _ _ q => tLc2_of hvs q
end
end Lin

/-! Lin10: zip; sorted of ints. -/
namespace Lin
open PySem L2
/-! ### zip -/
def zipD (a b : List D) : List D := List.zipWith (fun x y => PyData.tuple [x, y]) a b
theorem zipD_get {a b : List D} {i : Nat} {d : D} (h : (zipD a b)[i]? = some d) : ∃ x y, a[i]? = some x ∧ b[i]? = some y ∧ d = .tuple [x, y] := by
  unfold zipD at h
  rw [List.getElem?_zipWith] at h
  cases ha : a[i]? with
  | none => rw [ha] at h; cases h
  | some x =>
    cases hb : b[i]? with
    | none => rw [ha, hb] at h; cases h
    | some y => rw [ha, hb] at h; cases h; exact ⟨x, y, rfl, rfl, rfl⟩
theorem zipD_len (a b : List D) : (zipD a b).length = min a.length b.length := by unfold zipD; rw [List.length_zipWith]
theorem new_pair {K : PySem.W.Frag} {F H : Hp} {T : Addr} {x y : V} {dx dy : D} (s : Same F H) (hT : H T = none) (hx : Dp K F x dx) (hy : Dp K F y dy) : ∃ F2, Ext F H F2 (upd H T (.tup [x, y])) ∧ Dp K F2 (.ref T) (.tuple [dx, dy]) := by
  have e := Ext.new (o := .tup [x, y]) s hT
  exact ⟨_, e, .tup upd_same (.cons (Dp.up hx e.ff) (.cons (Dp.up hy e.ff) .nil))⟩
theorem walk_zipL {K : PySem.W.Frag} {F : Hp} {a b : Addr} {xs ys : List V} {ds es : List D} (ha : SqL K F a xs) (hb : SqL K F b ys) (hd : DpAll K F xs ds) (he : DpAll K F ys es) : Walk K F (Itz K a b) (zipD ds es) where
  go := fun F' H' i d s s' e => by
    obtain ⟨dx, dy, e1, e2, rfl⟩ := zipD_get e
    obtain ⟨x, ex, hx⟩ := hd.get e1
    obtain ⟨y, ey, hy⟩ := he.get e2
    have sH := Same.trans s s'
    refine ⟨⟨xs, ys, x, y, same_sqL sH ha, same_sqL sH hb, ex, ey⟩, fun v H2 yl => ?_⟩
    obtain ⟨T, x', y', rfl, hT, rfl, gx, gy⟩ := yl
    have q1 := gx xs (same_sqL sH ha)
    have q2 := gy ys (same_sqL sH hb)
    rw [ex] at q1
    rw [ey] at q2
    cases q1
    cases q2
    exact new_pair s' hT (Dp.up hx s) (Dp.up hy s)
  stop := fun F' H' i s s' hi => by
    have sH := Same.trans s s'
    rw [zipD_len] at hi
    refine ⟨xs, ys, same_sqL sH ha, same_sqL sH hb, ?_⟩
    rw [hd.length, he.length]
    omega
theorem walk_zipT {K : PySem.W.Frag} {F : Hp} {a b : Addr} {xs ys : List V} {ds es : List D} (ha : SqT K F a xs) (hb : SqT K F b ys) (hd : DpAll K F xs ds) (he : DpAll K F ys es) : Walk K F (RZ.ItzT K a b) (zipD ds es) where
  go := fun F' H' i d s s' e => by
    obtain ⟨dx, dy, e1, e2, rfl⟩ := zipD_get e
    obtain ⟨x, ex, hx⟩ := hd.get e1
    obtain ⟨y, ey, hy⟩ := he.get e2
    have sH := Same.trans s s'
    refine ⟨⟨xs, ys, x, y, same_sqT sH ha, same_sqT sH hb, ex, ey⟩, fun v H2 yl => ?_⟩
    obtain ⟨T, x', y', rfl, hT, rfl, gx, gy⟩ := yl
    have q1 := gx xs (same_sqT sH ha)
    have q2 := gy ys (same_sqT sH hb)
    rw [ex] at q1
    rw [ey] at q2
    cases q1
    cases q2
    exact new_pair s' hT (Dp.up hx s) (Dp.up hy s)
  stop := fun F' H' i s s' hi => by
    have sH := Same.trans s s'
    rw [zipD_len] at hi
    refine ⟨xs, ys, same_sqT sH ha, same_sqT sH hb, ?_⟩
    rw [hd.length, he.length]
    omega
/-- two lists or two tuples -/
def zip2 : List D → Option (List D)
  | [.list a, .list b] => some (zipD a b)
  | [.tuple a, .tuple b] => some (zipD a b)
  | _ => none
@[simp] theorem zip2_lst (a b : List D) : zip2 [.list a, .list b] = some (zipD a b) := rfl
@[simp] theorem zip2_tup (a b : List D) : zip2 [.tuple a, .tuple b] = some (zipD a b) := rfl
theorem zip2_some {ds z : List D} (h : zip2 ds = some z) : ∃ a b, (ds = [.list a, .list b] ∨ ds = [.tuple a, .tuple b]) ∧ z = zipD a b := by
  unfold zip2 at h
  split at h
  · cases h; exact ⟨_, _, .inl rfl, rfl⟩
  · cases h; exact ⟨_, _, .inr rfl, rfl⟩
  · cases h
def zipI (c : CA) : CA := fun τ => (c τ).bind fun p => (R.ofOpt (zip2 p.1)).bind fun ds => .ok (ds, p.2)
section
variable {X : Cx} {W : WX} {XM : Nat → Value} {pa : List Addr} {pos : Pos}
theorem si_zip {e e2 : Expr} {cr : CA} {p tpos : Pos} {elts : List Expr} {kk : Nat} (hg : Gl X "zip") (hm : X.mg "zip" = none) (ha : SA X W XM pa [e, e2] cr)
    (hs : starEach [e, e2] X.env = (false, eval e X.env) :: starEach [e2] X.env := by rfl) (hpl : (backTo pos (starEach [e2] X.env)).any (·.1) = false := by rfl) : SI X W XM pa (.Tuple elts kk tpos) (.Call (.Name "zip" p) [e, e2] [] pos) (zipI cr) := (RZ.pi_zipA hg hm ha hs hpl).imp fun σ H Q q => by
  obtain ⟨G, F, τ, r0, q⟩ := q
  refine At.step r0 q fun F1 H1 d1 τ1 x s1 r1 h1 q1 => ?_
  obtain ⟨z, e1, q3⟩ := At.opt q1
  obtain ⟨a, b, e2 | e2, rfl⟩ := zip2_some (ds := d1) (z := z) e1
  · subst e2
    cases h1 with
    | cons ha h2 =>
      cases h2 with
      | cons hb h3 =>
        cases h3
        cases ha with
        | lst qa da =>
          cases hb with
          | lst qb db => exact ⟨_, _, _, _, rfl, .inl ⟨same_sqL r1.z.fh qa, same_sqL r1.z.fh qb, q3 _ F1 H1 (Same.refl _) r1 (walk_zipL qa qb da db)⟩⟩
  · subst e2
    cases h1 with
    | cons ha h2 =>
      cases h2 with
      | cons hb h3 =>
        cases h3
        cases ha with
        | tup qa da =>
          cases hb with
          | tup qb db => exact ⟨_, _, _, _, rfl, .inr ⟨same_sqT r1.z.fh (SqT.of qa), same_sqT r1.z.fh (SqT.of qb), q3 _ F1 H1 (Same.refl _) r1 (walk_zipT (SqT.of qa) (SqT.of qb) da db)⟩⟩
end
/-! ### sorted, ints -/
def insI (a : Int) : List Int → List Int
  | [] => [a]
  | b :: r => if a ≤ b then a :: b :: r else b :: insI a r
def sortI : List Int → List Int
  | [] => []
  | a :: r => insI a (sortI r)
theorem insI_perm (a : Int) : ∀ l : List Int, (insI a l).Perm (a :: l)
  | [] => List.Perm.refl _
  | b :: r => by
    unfold insI
    split
    · exact List.Perm.refl _
    · exact ((insI_perm a r).cons b).trans (List.Perm.swap a b r)
theorem sortI_perm : ∀ l : List Int, (sortI l).Perm l
  | [] => List.Perm.refl _
  | a :: r => (insI_perm a (sortI r)).trans ((sortI_perm r).cons a)
theorem insI_sorted {a : Int} : ∀ {l : List Int}, l.Pairwise (· ≤ ·) → (insI a l).Pairwise (· ≤ ·)
  | [], _ => by simp [insI]
  | b :: r, h => by
    unfold insI
    rw [List.pairwise_cons] at h
    split
    · rename_i q
      refine List.pairwise_cons.mpr ⟨fun x hx => ?_, List.pairwise_cons.mpr h⟩
      rcases List.mem_cons.mp hx with rfl | hx
      · exact q
      · exact Int.le_trans q (h.1 x hx)
    · refine List.pairwise_cons.mpr ⟨fun x hx => ?_, insI_sorted h.2⟩
      rcases List.mem_cons.mp ((insI_perm a r).mem_iff.mp hx) with rfl | hx
      · omega
      · exact h.1 x hx
theorem sortI_sorted : ∀ l : List Int, (sortI l).Pairwise (· ≤ ·)
  | [] => List.Pairwise.nil
  | a :: r => insI_sorted (sortI_sorted r)
theorem sorted_uniq : ∀ {l m : List Int}, l.Perm m → l.Pairwise (· ≤ ·) → m.Pairwise (· ≤ ·) → l = m
  | [], m, p, _, _ => (List.nil_perm.mp p).symm
  | a :: l, [], p, _, _ => by have := p.length_eq; simp at this
  | a :: l, b :: m, p, h1, h2 => by
    rw [List.pairwise_cons] at h1 h2
    have ab : a ≤ b := by
      rcases List.mem_cons.mp (p.mem_iff.mpr (List.mem_cons_self (a := b) (l := m))) with q | q
      · omega
      · exact h1.1 b q
    have ba : b ≤ a := by
      rcases List.mem_cons.mp (p.mem_iff.mp (List.mem_cons_self (a := a) (l := l))) with q | q
      · omega
      · exact h2.1 a q
    have e : a = b := by omega
    subst e
    rw [sorted_uniq ((List.perm_cons a).mp p) h1.2 h2.2]
/-- sorted(a list of ints) -/
def sortedD : List D → Option (List D)
  | [.list ds] => (intsOf ds).map fun ns => (sortI ns).map PyData.int
  | _ => none
@[simp] theorem sortedD_lst (a : List D) : sortedD [.list a] = (intsOf a).map fun ns => (sortI ns).map PyData.int := rfl
theorem co_sortedI {K : PySem.W.Frag} : CallO K (rSortedI K) sortedD := fun F H xs ds z Q s hx hz k => by
  unfold sortedD at hz
  split at hz
  · rename_i es
    cases hx with
    | cons h1 h2 =>
      cases h2
      cases h1 with
      | @lst a ys _ hs ha =>
        cases e : intsOf es with
        | none => rw [e] at hz; cases hz
        | some ns =>
          rw [e] at hz
          cases hz
          have e2 := intsOf_some e
          subst e2
          have e3 := ha.ints
          subst e3
          refine ⟨a, ns, rfl, same_sqL s hs, fun ns' p hp hw hn => ?_⟩
          have e4 : ns' = sortI ns := sorted_uniq (hp.trans (sortI_perm ns).symm) hw (sortI_sorted ns)
          subst e4
          exact k p _ F _ (Ext.newH s hn) hn (Same.free s hn) upd_same (DpAll.of_ints _)
  · cases hz
theorem b_sorted : bootBuiltins "sorted" = some (.builtin "sorted") := by decide +kernel
section
variable {X : Cx} {W : WX} {XM : Nat → Value} {pa : List Addr} {pos : Pos}
theorem o_sortedI {e : Expr} {cr : CA} {p : Pos} (hm : X.mg "sorted" = none) (ha : SA X W XM pa [e] cr) (hg : Gl X "sorted" := by rfl) (he : starEach [e] X.env = (false, eval e X.env) :: starEach [] X.env := by rfl) (hpl : (backTo pos (starEach [] X.env)).any (·.1) = false := by rfl) : SO X W XM pa (.Call (.Name "sorted" p) [e] [] pos) (callO sortedD cr) :=
  so_callB cr_sortedI co_sortedI hg hm b_sorted ha (by decide) (by decide) he hpl
end
end Lin

/-! Lin11: a tuple turned round. -/
namespace HT
open PySem PySem.Spec PyProof.Rows L2
section
variable {prog : Program} {w : World} {A : Around} {E : Value → Shared → Prop} {s : Shared}
theorem places_rev (n : Nat) : Builtin.Slice.slicePlaces ((n : Int) - 1) (-1) (-1) = n := by
  unfold Builtin.Slice.slicePlaces
  have h1 : ¬ ((-1 : Int) > 0) := by decide
  rw [if_neg h1]
  by_cases h : (n : Int) - 1 > -1
  · rw [if_pos h, show (-(-1 : Int)) = 1 by decide, Int.ediv_one]
    omega
  · rw [if_neg h]
    have : n = 0 := by omega
    subst this
    rfl
theorem sliceApplied_rev {sl : Addr} {vs : Value} {n : Nat} {Q : Int × Int × Nat → Shared → Prop} (hs : s.heap.IsSliceOf sl .none .none vs) (ps : IsPart vs (some (-1))) (h : Q ((n : Int) - 1, -1, n) s) : wpAny (model prog w) A (Builtin.Slice.sliceApplied (.ref sl) (pure (n : Int))) Q E s := by
  obtain ⟨os, hos, hcs, hds⟩ := id hs
  unfold Builtin.Slice.sliceApplied Builtin.Slice.sliceFields
  refine wpAny_bind (wpAny_bind (wpAny_field hos hds (x := .none) rfl (wpAny_bind (wpAny_field hos hds (x := .none) rfl (wpAny_bind (wpAny_field hos hds (x := vs) rfl (wpAny_pure ?_)))))))
  refine wpAny_bind (slicePart_ ps ?_)
  show wpAny _ _ (if ((-1 : Int) == 0) = true then _ else _) _ _ s
  rw [if_neg (by decide)]
  refine wpAny_bind (slicePart_none (wpAny_bind (slicePart_none (wpAny_bind (wpAny_pure ?_)))))
  show wpAny _ _ (pure ((n : Int) - 1, (-1 : Int), Builtin.Slice.slicePlaces ((n : Int) - 1) (-1) (-1))) _ _ s
  rw [places_rev]
  exact wpAny_pure h
theorem fm_congr {α β : Type} {f g : α → Option β} : ∀ {l : List α}, (∀ a ∈ l, f a = g a) → l.filterMap f = l.filterMap g
  | [], _ => rfl
  | a :: l, h => by
    rw [List.filterMap_cons, List.filterMap_cons, h a (by simp), fm_congr fun b hb => h b (by simp [hb])]
theorem pick_rev (xs : Array Value) : ((List.range xs.size).filterMap fun (m : Nat) => xs[(((xs.size : Int) - 1) + (m : Int) * (-1)).toNat]?).toArray = xs.toList.reverse.toArray := by
  have e1 : ((List.range xs.size).filterMap fun (m : Nat) => xs[(((xs.size : Int) - 1) + (m : Int) * (-1)).toNat]?) = (List.range xs.size).filterMap fun (m : Nat) => xs.toList.reverse[m]? := by
    refine fm_congr fun m hm => ?_
    have hm : m < xs.size := by simpa using hm
    have e2 : (((xs.size : Int) - 1) + (m : Int) * (-1)).toNat = xs.size - 1 - m := by omega
    rw [e2, List.getElem?_reverse (by simpa using hm)]
    simp
  rw [e1]
  have := pick_run xs.toList.reverse.toArray 0 xs.size
  rw [List.filterMap_map] at this
  have e3 : ((fun (x : Nat) => xs.toList.reverse.toArray[x]?) ∘ fun x => 0 + x) = fun (m : Nat) => xs.toList.reverse[m]? := by
    funext m
    simp
  rw [e3] at this
  rw [this]
  simp
  exact List.take_of_length_le (by simp)
theorem getItem_tuple_rev {t sl : Addr} {items : Array Value} {vs : Value} {Q : Value → Shared → Prop} (ht : IsTup s.heap t items) (hs : s.heap.IsSliceOf sl .none .none vs) (ps : IsPart vs (some (-1)))
    (h : Q (.ref s.heap.objs.size) { s with heap := s.heap.push { cls := .type "tuple", data := .seq items.toList.reverse.toArray } })
    (hsz : items.size ≤ sizeLine) : wpAny (model prog w) A (getItem (.ref t) (.ref sl)) Q E s := by
  have htake : sizeOk (.seq items.toList.reverse.toArray) := by
    show items.toList.reverse.toArray.size ≤ sizeLine
    rw [List.size_toArray, List.length_reverse, Array.length_toList]
    exact hsz
  obtain ⟨os, hos, hcs, hds⟩ := id hs
  have hTs : s.TypeIs (.ref sl) "slice" := ⟨os, hos, hcs⟩
  unfold getItem
  try with_reducible refine wpAny_holding ?_
  first | refine wpAny_bind (wpAny_pure ?_) | skip
  refine wpAny_bind (wpAny_sequenceKey ht.typeIs (by decide) ?_)
  refine wpAny_bind (wpAny_callSpecial?_slot (name := Str.ofString "__getitem__") ht.typeIs PyProof.Rows.slot_tuple_getitem
    (wpAny_call_entry PyProof.Rows.slot_tuple_getitem ht.typeIs entry_tuple_getitem ?_ (args_tuple_getitem _ _)))
  show wpAny _ _ (Builtin.Tuple.tupleItemsOf (.ref t) >>= _) _ _ s
  refine wpAny_bind (tupleItemsOf_ ht ?_)
  refine wpAny_bind (wpAny_typeOf hTs ?_)
  rw [if_pos (by decide)]
  refine wpAny_bind (sliceApplied_rev hs ps ?_)
  have hno : ¬ ((((items.size : Int) - 1) == 0 && (-1 : Int) == 1 && items.size == items.size) = true) := by
    intro q
    rw [Bool.and_eq_true, Bool.and_eq_true] at q
    exact absurd q.1.2 (by decide)
  show wpAny _ _ (if (((items.size : Int) - 1) == 0 && (-1 : Int) == 1 && items.size == items.size) = true then _ else _) _ _ s
  rw [if_neg hno, pick_rev]
  first
    | exact wpAny_bind (m := Builtin.Tuple.tupleExact _) (wpAny_newObj_type (wpAny_pure ⟨_, rfl, wpAny_pure h⟩) htake)
    | exact wpAny_bind (m := Builtin.Tuple.tupleExact _) (wpAny_newObj_type (wpAny_bind (wpAny_pure (wpAny_pure ⟨_, rfl, wpAny_pure h⟩))) htake)
    | exact wpAny_bind (wpAny_bind (m := Builtin.Tuple.tupleExact _) (wpAny_newObj_type (wpAny_pure (wpAny_pure ⟨_, rfl, wpAny_pure h⟩)) htake))
    | exact wpAny_bind (wpAny_bind (m := Builtin.Tuple.tupleExact _) (wpAny_newObj_type (wpAny_pure ⟨_, rfl, wpAny_pure h⟩) htake))
end
end HT
namespace Lin
open PySem PySem.Spec PyProof.Rows L2
section
variable {X : Cx} {W : WX} {XM : Nat → Value} {pa : List Addr} {pos : Pos}
/-- e[::-1]: a list or a tuple -/
def tRevA (K : PySem.W.Frag) (te : TE) : TE := fun σ H Q => te σ H fun x H1 => ∃ a xs, x = .ref a ∧ ((SqL K H1 a xs ∧ ∀ p, H1 p = none → Q (.ref p) (upd H1 p (.lst xs.reverse))) ∨ (SqT K H1 a xs ∧ ∀ p, H1 p = none → Q (.ref p) (upd H1 p (.tup xs.reverse))))
theorem pe_revA {e : Expr} {te : TE} {k : Nat} {p1 p2 p3 : Pos} (he : PE X e te) : PE X (.Subscript e (.Slice none none (some (.UnaryOp .USub (.Constant (.int 1) k p1) p2)) p3) pos) (tRevA X.K te) := by
  refine ⟨fun pins s σ H Q I h => ?_⟩
  refine Subscript_ (thn (he.run pins s σ H _ I h) fun v s1 ⟨x, H1, I1, r1, q1⟩ => ?_)
  obtain ⟨a, xs, ex, q⟩ := q1
  subst ex
  cases r1
  have hst : PO X (some (.UnaryOp .USub (.Constant (.int 1) k p1) p2)) (tPart (tUn (rU fun i => .int (-i)) (tC (.int 1)))) := po_some (pe_un un_neg pe_int)
  refine wpAny_Slice (thn (po_none.run pins s1 σ H1 (fun o H2 => o = none ∧ H2 = H1) I1 ⟨rfl, rfl⟩) fun vl s2 ⟨l, H2, I2, pl, el, e2⟩ => ?_)
  subst el e2
  refine thn (po_none.run pins s2 σ H2 (fun o H3 => o = none ∧ H3 = H2) I2 ⟨rfl, rfl⟩) fun vu s3 ⟨u, H3, I3, pu, eu, e3⟩ => ?_
  subst eu e3
  refine thn (hst.run pins s3 σ H3 (fun o H4 => o = some (-1) ∧ H4 = H3) I3 ⟨1, rfl, -1, rfl, rfl, rfl⟩) fun vs s4 ⟨o, H4, I4, ps, eo, e4⟩ => ?_
  subst eo e4
  cases pl
  cases pu
  have I5 : Inv X pins σ H4 { s4 with heap := s4.heap.push { cls := .type "slice", data := .fields #[.none, .none, vs] } } := I4.kept (t' := s4.toks) fun b ob q => Heap.get?_push_of_some _ q
  rcases q with ⟨hx, q⟩ | ⟨hx, q⟩
  · obtain ⟨its, r, ht, hz⟩ := I5.list hx
    have hlen := r.length
    show wpAny (model X.prog X.w) X.A (subscriptTail e (.Slice none none (some (.UnaryOp .USub (.Constant (.int 1) k p1) p2)) p3) (.ref a) (.ref s4.heap.objs.size)) (EP X pins σ Q) X.xe { s4 with heap := s4.heap.push { cls := .type "slice", data := .fields #[.none, .none, vs] } }
    refine tail_any (ops := [.ref a, .ref s4.heap.objs.size]) ht.isList.typeIs (PySem.slot_list_getitem.lookup) ?_ (by with_unfolding_all rfl)
    refine wpAny_getItem_list_slice ht.isList (Heap.IsSliceOf.new _ .none .none vs) .none .none ps (by decide) ?_ (by rw [List.size_toArray]; omega)
    rw [PySem.W.krv_pick]
    refine ⟨.ref _, _, I5.laid (t' := s4.toks) (o := .lst xs.reverse) (fun b ob q => Heap.get?_push_of_some _ q) (Nat.le_refl _) ?_, rfl, q _ (I5.hok.fresh (Nat.le_refl _))⟩
    exact ⟨by rw [List.length_reverse]; exact hz, _, 0, r.reverse, Heap.get?_push_size _ rfl⟩
  · obtain ⟨its, r, ht, hz⟩ := I5.tuple hx
    have hlen := r.length
    show wpAny (model X.prog X.w) X.A (subscriptTail e (.Slice none none (some (.UnaryOp .USub (.Constant (.int 1) k p1) p2)) p3) (.ref a) (.ref s4.heap.objs.size)) (EP X pins σ Q) X.xe { s4 with heap := s4.heap.push { cls := .type "slice", data := .fields #[.none, .none, vs] } }
    refine tail_any (ops := [.ref a, .ref s4.heap.objs.size]) ht.typeIs (PyProof.Rows.slot_tuple_getitem.lookup) ?_ (by with_unfolding_all rfl)
    refine HT.getItem_tuple_rev ht (Heap.IsSliceOf.new _ .none .none vs) ps ?_ (by rw [List.size_toArray]; omega)
    refine ⟨.ref _, _, I5.laid (t' := s4.toks) (o := .tup xs.reverse) (fun b ob q => Heap.get?_push_of_some _ q) (Nat.le_refl _) ?_, rfl, q _ (I5.hok.fresh (Nat.le_refl _))⟩
    exact ⟨by rw [List.length_reverse]; exact hz, _, r.reverse, IsTup.new _ _⟩
def revD : D → Option D
  | .list a => some (.list a.reverse)
  | .tuple a => some (.tuple a.reverse)
  | _ => none
@[simp] theorem revD_lst (a : List D) : revD (.list a) = some (.list a.reverse) := rfl
@[simp] theorem revD_tup (a : List D) : revD (.tuple a) = some (.tuple a.reverse) := rfl
theorem DpAll.rev {K : PySem.W.Frag} {F : Hp} : ∀ {xs : List V} {ds : List D}, DpAll K F xs ds → DpAll K F xs.reverse ds.reverse
  | _, _, .nil => .nil
  | _, _, .cons h1 h2 => by
    rw [List.reverse_cons, List.reverse_cons]
    exact (DpAll.rev h2).append (.cons h1 .nil)
theorem e_rev {e : Expr} {ce : CE} {k : Nat} {p1 p2 p3 : Pos} (he : SE X W XM pa e ce) : SE X W XM pa (.Subscript e (.Slice none none (some (.UnaryOp .USub (.Constant (.int 1) k p1) p2)) p3) pos) (op1C revD ce) := (pe_revA he).imp fun σ H Q q => by
  obtain ⟨G, F, τ, r0, q⟩ := q
  refine At.step r0 q fun F1 H1 d1 τ1 x s1 r1 h1 q1 => ?_
  obtain ⟨z, e1, q3⟩ := At.opt q1
  have e1 : revD d1 = some z := e1
  cases h1 with
  | @lst a xs ds qa da =>
    cases e1
    refine ⟨_, _, rfl, .inl ⟨same_sqL r1.z.fh qa, fun p hp => ?_⟩⟩
    have ex := Ext.new (o := .lst xs.reverse) r1.z.fh hp
    exact q3 _ _ _ ex.ff (r1.ext ex) (.lst (SqL.of upd_same) ((DpAll.rev da).up ex.ff))
  | @tup a xs ds qa da =>
    cases e1
    refine ⟨_, _, rfl, .inr ⟨same_sqT r1.z.fh (SqT.of qa), fun p hp => ?_⟩⟩
    have ex := Ext.new (o := .tup xs.reverse) r1.z.fh hp
    exact q3 _ _ _ ex.ff (r1.ext ex) (.tup upd_same ((DpAll.rev da).up ex.ff))
  | non => cases e1
  | bl _ => cases e1
  | int _ => cases e1
  | str _ => cases e1
  | dcK _ _ => cases e1
  | dcT _ _ => cases e1
  | adr _ => cases e1
  | obj _ _ _ _ => cases e1
  | fn _ _ => cases e1
end
end Lin

/-! Lin12: enumerate of a list, of a tuple. -/
namespace PySem
open Sem (wp)
theorem meets_enumerate_new1 {v : Value} {o : Obj} {H : Heap → Prop} (B : Begins v o H) :
    Meets (Builtin.«enumerate.__new__» ⟨[.type "enumerate", v], []⟩) (fun _ R s => H s.heap ∧
      R (.ok (.ret (.ref (s.heap.push o).objs.size))) { s with heap := (s.heap.push o).push { cls := .type "enumerate", data := .fields #[.none, .bool false, .ref s.heap.objs.size, rawInt 0, .none, .none] } }) :=
  .of_wp fun prog w A R s h => by
    obtain ⟨hp, g, d, tk, os⟩ := s
    obtain ⟨h1, h⟩ := h
    have hsub := sub_enumerate
    have q1 : ∀ {A' : Around} {E : Value → Shared → Prop} {Q : Value → Shared → Prop}, Q (.ref hp.objs.size) ⟨hp.push o, g, d, tk, os⟩ → wpAny (model prog w) A' (pyIter v) Q E ⟨hp, g, d, tk, os⟩ :=
      fun q => B.iter prog w _ _ ⟨hp, g, d, tk, os⟩ _ h1 q
    wp_walk using q1
    refine wpAny_stack_any fun st => wpAny_pure ?_
    split
    · rename_i c _ _ _ _ _
      cases (c == Value.type "enumerate")
      · wp_walk using q1
        exact ⟨_, rfl, h⟩
      · wp_walk using q1
        exact ⟨_, rfl, h⟩
    · wp_walk using q1
      exact ⟨_, rfl, h⟩
section
variable {prog : Program} {w : World} {A : Around} {E : Value → Shared → Prop} {s : Shared}
theorem enum_begins1 {v : Value} {o : Obj} {H : Heap → Prop} {Q : Value → Shared → Prop} (B : Begins v o H) (h1 : H s.heap)
    (h : ∀ h', IsEnum h' (s.heap.objs.size + 1) s.heap.objs.size 0 .none → h'.get? s.heap.objs.size = some o → h'.objs.size = s.heap.objs.size + 2 →
      (∀ b o, s.heap.get? b = some o → h'.get? b = some o) → Q (.ref (s.heap.objs.size + 1)) { s with heap := h' }) :
    wpAny (model prog w) A (call (.type "enumerate") [v]) Q E s := by
  refine callType_new F.called_enumerate (by decide) (F.typeCall_enumerate_1 _) (F.newCall_enumerate_1 _) (fun obj => F.args_object_init_2 obj _) F.entry_enumerate_new
    (meets_enumerate_new1 B) ⟨h1, ?_⟩
  have hz : (s.heap.push o).objs.size = s.heap.objs.size + 1 := Heap.size_push ..
  show _ ∧ _
  rw [hz]
  have he : IsEnum ((s.heap.push o).push { cls := .type "enumerate", data := .fields #[.none, .bool false, .ref s.heap.objs.size, rawInt 0, .none, .none] }) (s.heap.objs.size + 1) s.heap.objs.size 0 .none := by
    have := Heap.get?_push_size (s.heap.push o) (o := { cls := .type "enumerate", data := .fields #[.none, .bool false, .ref s.heap.objs.size, rawInt 0, .none, .none] }) rfl
    rw [hz] at this
    exact this
  exact ⟨⟨_, he, rfl⟩, h _ he (Heap.get?_push_of_some _ (Heap.get?_push_size _ B.free)) (by rw [Heap.size_push, hz]) fun b o x => Heap.get?_push_of_some _ (Heap.get?_push_of_some _ x)⟩
end
end PySem
namespace L2
open PySem PySem.Spec PyProof.Rows
/-- the tuple at a, each item in a new pair -/
def IteT (K : PySem.W.Frag) (a : Addr) : It :=
  ⟨fun i H => ∃ (xs : List V) (x : V), SqT K H a xs ∧ xs[i]? = some x, fun i H v H' => ∃ T x, v = .ref T ∧ H T = none ∧ H' = upd H T (.tup [.int (i : Nat), x]) ∧ ∀ xs, SqT K H a xs → xs[i]? = some x, fun i H => ∃ xs : List V, SqT K H a xs ∧ xs.length ≤ i⟩
theorem turn_enumT {P : Program} {w : World} {K : PySem.W.Frag} {elts : List Expr} {kk : Nat} {tpos : Pos} (a e it : Addr) :
    Turn P w K (.Tuple elts kk tpos) (IteT K a) [e, it] e (fun i h => (∃ old, IsEnum h e it ((i : Nat) : Int) old) ∧ h.IsTupleIter it a i ∧ e ≠ it ∧ a ≠ it ∧ e ≠ a) where
  mem := by simp
  obj := fun i h st b hb => by
    obtain ⟨⟨old, he⟩, ⟨o, ho, hc, hd⟩, _⟩ := st
    have e' : b = e ∨ b = it := by simpa using hb
    rcases e' with z | z
    · rw [z]; exact ⟨_, he, fun v q => nomatch q⟩
    · rw [z]; exact ⟨o, ho, fun v q => by rw [hd] at q; cases q⟩
  keep := fun i h h' st k => let ⟨⟨old, he⟩, hi, hne⟩ := st; ⟨⟨old, k e (by simp) _ he⟩, hi.at fun o q => k it (by simp) o q, hne⟩
  item := by
    intro X hP hw hK hc i pins s σ H E I hf st hg
    subst hP hw hK
    obtain ⟨⟨old, he⟩, hit, hne, hna, hea⟩ := st
    obtain ⟨xs, x, hq, hx⟩ := hg
    obtain ⟨its, rv, p, hz⟩ := I.tuple hq
    obtain ⟨u, hu, ru⟩ := rv.get hx
    have hel : e < s.heap.objs.size := Heap.lt_size he
    have hil : it < s.heap.objs.size := by obtain ⟨_, q, _⟩ := hit; exact Heap.lt_size q
    have hlt : i < its.toArray.size := by
      have := List.getElem?_eq_some_iff.mp hu
      simpa using this.1
    refine wpAny_pyNext_enum_itemC (Draws.tuple (A := X.A.in1) (I.ok.hd hc) it a hna its.toArray) he ⟨hit, p⟩ hlt hne (by simp [hne, hea]) fun u' h' tk hu' ho hst hT hsz hk => ?_
    have eu : u' = u := by
      have : its[i]? = some u' := by simpa using hu'
      rw [hu] at this
      exact (Option.some.inj this).symm
    subst eu
    obtain ⟨hit', _⟩ := hst
    refine ⟨_, rfl, wpAny_letOwnedTupleGo_enum (s := { s with heap := h', toks := tk + 1 }) ho fun h'' he' sb => ?_⟩
    have hT2 : h''.get? s.heap.objs.size = some { cls := .type "tuple", data := .seq #[.int i tk, u'] } := (sb.2 _ (Nat.ne_of_gt hel)).trans hT
    have new : ObjOk X.prog X.w (upd H s.heap.objs.size (.tup [.int (i : Nat), x])) h'' s.heap.objs.size (.tup [.int (i : Nat), x]) :=
      ⟨by show 2 ≤ sizeLine; decide, [.int i tk, u'], .cons ⟨_, rfl⟩ (.cons ru .nil), ⟨_, hT2, rfl, _, rfl⟩⟩
    have I1 : Inv X pins σ (upd H s.heap.objs.size (.tup [.int (i : Nat), x])) { s with heap := h'', toks := tk + 1 } :=
      I.turnedNew (ch := [e, it]) (fun b ob hb q => (sb.2 b (fun z => hb (by simp [z]))).trans (hk b ob (fun z => hb (by simp [z])) (fun z => hb (by simp [z])) q)) hf (Nat.le_refl _) new
    refine ⟨.ref s.heap.objs.size, _, I1, rfl, ⟨_, x, rfl, I.hok.fresh (Nat.le_refl _), rfl, fun ys hy => by rw [I.tuple_inj hy hq]; exact hx⟩, ⟨⟨u', ?_⟩, hit'.at fun o q => (sb.2 it (Ne.symm hne)).trans q, hne, hna, hea⟩, fun b hb => ?_⟩
    · have e1 : ((i + 1 : Nat) : Int) = (i : Int) + 1 := by omega
      rw [e1]; exact he'
    · have hb' : b < s.heap.objs.size := by
        have e' : b = e ∨ b = it := by simpa using hb
        rcases e' with z | z
        · rw [z]; exact hel
        · rw [z]; exact hil
      rw [upd_ne (Nat.ne_of_lt hb')]
      exact (hf b hb).1
  done := by
    intro X hP hw hK hc i pins s σ H E I hf st hg
    subst hP hw hK
    obtain ⟨⟨old, he⟩, hit, hne, hna, hea⟩ := st
    obtain ⟨xs, hq, hx⟩ := hg
    obtain ⟨its, rv, p, hz⟩ := I.tuple hq
    obtain ⟨f0, f1, f2, f3, f4, f5⟩ := hf it (by simp)
    have hl := rv.length
    have D : Draws X.prog X.w X.A.in1 it [it, a] 0 (fun _ _ => True) (fun _ h => h.IsTupleIter it a i ∧ h.IsTuple a its.toArray) := {
      live := fun _ _ st => let ⟨o, ho, _⟩ := st.1; ⟨o, ho⟩
      frame := fun _ _ _ st hk => ⟨st.1.at fun o e => hk it (by simp) o e, st.2.at fun o e => hk a (by simp) o e⟩
      item := fun j s Q E hi => absurd hi (Nat.not_lt_zero _)
      done := fun s Q E st hE => wpAny_nextOf_tuple_end (A := X.A.in1) (I.ok.hd hc) st.1 st.2 (by simp; omega) hE }
    exact wpAny_pyNext_enum_endD D he ⟨hit, p⟩ fun h' eb => ⟨rfl, I.turned (t' := s.toks) (fun b o hb q => eb b o hb q) f0 f1 f3 f4 f5⟩
  self := fun A i s Q E st h => let ⟨⟨_, he⟩, _⟩ := st; wpAny_pyIter_enum he h
/-- enumerate(v), v a list or a tuple -/
def iEnumA (K : PySem.W.Frag) (ta : TA) : TI := fun σ H R => ta σ H fun vs H1 => ∃ a xs, vs = [.ref a] ∧ ((SqL K H1 a xs ∧ R (Ite K a) H1) ∨ (SqT K H1 a xs ∧ R (IteT K a) H1))
theorem pi_enumA {X : Cx} {e : Expr} {ta : TA} {p pos tpos : Pos} {elts : List Expr} {kk : Nat} (hg : Gl X "enumerate") (hm : X.mg "enumerate" = none) (ha : PA X [e] ta) (hs : starEach [e] X.env = [(false, eval e X.env)] := by rfl) :
    PI X (.Tuple elts kk tpos) (.Call (.Name "enumerate" p) [e] [] pos) (iEnumA X.K ta) := by
  refine ⟨fun pins s σ H R I h => ?_⟩
  refine Call_ (ld_blt I hg hm boot_enumerate (PyProof.Rows.callWith_type1 (thn (ha.run pos pins s σ H _ I h) fun us s1 ⟨vs, H1, I1, r1, q1⟩ => ?_) hs rfl))
  obtain ⟨a, xs, ex, q⟩ := q1
  subst ex
  cases r1 with
  | cons r rr =>
    cases rr
    cases r
    have fr : ∀ b, b ∈ [s1.heap.objs.size + 1, s1.heap.objs.size] → FpOk X pins H1 b := fun b hb => by
      have e' : b = s1.heap.objs.size + 1 ∨ b = s1.heap.objs.size := by simpa using hb
      have hle : s1.heap.objs.size ≤ b := by
        rcases e' with z | z
        · rw [z]; exact Nat.le_succ _
        · rw [z]; exact Nat.le_refl _
      exact I1.fpOk hle (I1.hok.fresh hle)
    rcases q with ⟨hq, q⟩ | ⟨hq, q⟩
    · obtain ⟨its, rv, p', hz⟩ := I1.list hq
      refine call_enumerate_list p'.isList fun h' he hit hsz hk => wpAny_pyIter_enum he ?_
      have I2 : Inv X pins σ H1 { s1 with heap := h' } := I1.kept (t' := s1.toks) hk
      exact ⟨s1.heap.objs.size + 1, [s1.heap.objs.size + 1, s1.heap.objs.size], _, _, H1, rfl, I2, turn_enum a (s1.heap.objs.size + 1) s1.heap.objs.size, ⟨⟨.none, he⟩, hit, Nat.succ_ne_self _⟩, fr, q⟩
    · obtain ⟨its, rv, p', hz⟩ := I1.tuple hq
      obtain ⟨o1, ho1, _⟩ := id p'
      have hal : a < s1.heap.objs.size := Heap.lt_size ho1
      refine enum_begins1 (begins_tuple a its.toArray) p' fun h' he hit hsz hk => wpAny_pyIter_enum he ?_
      have I2 : Inv X pins σ H1 { s1 with heap := h' } := I1.kept (t' := s1.toks) hk
      exact ⟨s1.heap.objs.size + 1, [s1.heap.objs.size + 1, s1.heap.objs.size], _, _, H1, rfl, I2, turn_enumT a (s1.heap.objs.size + 1) s1.heap.objs.size, ⟨⟨.none, he⟩, ⟨_, hit, rfl, rfl⟩, Nat.succ_ne_self _, Nat.ne_of_lt hal, Nat.ne_of_gt (Nat.lt_succ_of_lt hal)⟩, fr, q⟩
end L2
namespace Lin
open PySem L2
def enumD (ds : List D) : List D := zipD ((List.range ds.length).map fun (i : Nat) => PyData.int i) ds
theorem enumD_get {ds : List D} {i : Nat} {d : D} (h : (enumD ds)[i]? = some d) : ∃ x, ds[i]? = some x ∧ d = .tuple [.int i, x] := by
  obtain ⟨a, b, e1, e2, rfl⟩ := zipD_get h
  rw [List.getElem?_map] at e1
  cases e3 : (List.range ds.length)[i]? with
  | none => rw [e3] at e1; cases e1
  | some k =>
    rw [e3] at e1
    obtain ⟨hl, hk⟩ := List.getElem?_eq_some_iff.mp e3
    rw [List.getElem_range] at hk
    subst hk
    cases e1
    exact ⟨b, e2, rfl⟩
theorem enumD_len (ds : List D) : (enumD ds).length = ds.length := by unfold enumD; rw [zipD_len]; simp
theorem walk_enumL {K : PySem.W.Frag} {F : Hp} {a : Addr} {xs : List V} {ds : List D} (ha : SqL K F a xs) (hd : DpAll K F xs ds) : Walk K F (Ite K a) (enumD ds) where
  go := fun F' H' i d s s' e => by
    obtain ⟨dx, e1, rfl⟩ := enumD_get e
    obtain ⟨x, ex, hx⟩ := hd.get e1
    have sH := Same.trans s s'
    refine ⟨⟨xs, x, same_sqL sH ha, ex⟩, fun v H2 yl => ?_⟩
    obtain ⟨T, x', rfl, hT, rfl, gx⟩ := yl
    have q1 := gx xs (same_sqL sH ha)
    rw [ex] at q1
    cases q1
    exact new_pair s' hT (.int _) (Dp.up hx s)
  stop := fun F' H' i s s' hi => by
    rw [enumD_len] at hi
    exact ⟨xs, same_sqL (Same.trans s s') ha, by rw [hd.length]; exact hi⟩
theorem walk_enumT {K : PySem.W.Frag} {F : Hp} {a : Addr} {xs : List V} {ds : List D} (ha : SqT K F a xs) (hd : DpAll K F xs ds) : Walk K F (IteT K a) (enumD ds) where
  go := fun F' H' i d s s' e => by
    obtain ⟨dx, e1, rfl⟩ := enumD_get e
    obtain ⟨x, ex, hx⟩ := hd.get e1
    have sH := Same.trans s s'
    refine ⟨⟨xs, x, same_sqT sH ha, ex⟩, fun v H2 yl => ?_⟩
    obtain ⟨T, x', rfl, hT, rfl, gx⟩ := yl
    have q1 := gx xs (same_sqT sH ha)
    rw [ex] at q1
    cases q1
    exact new_pair s' hT (.int _) (Dp.up hx s)
  stop := fun F' H' i s s' hi => by
    rw [enumD_len] at hi
    exact ⟨xs, same_sqT (Same.trans s s') ha, by rw [hd.length]; exact hi⟩
def enumI (c : CE) : CA := fun τ => (c τ).bind fun p => (R.ofOpt (seqOf p.1)).bind fun ds => .ok (enumD ds, p.2)
section
variable {X : Cx} {W : WX} {XM : Nat → Value} {pa : List Addr} {pos : Pos}
theorem si_enum {e : Expr} {ce : CE} {p tpos : Pos} {elts : List Expr} {kk : Nat} (hg : Gl X "enumerate") (hm : X.mg "enumerate" = none) (ha : SE X W XM pa e ce)
    (hs : starEach [e] X.env = [(false, eval e X.env)] := by rfl) : SI X W XM pa (.Tuple elts kk tpos) (.Call (.Name "enumerate" p) [e] [] pos) (enumI ce) := (pi_enumA hg hm (sa_cons ha sa_nil (by rw [hs]; rfl)) hs).imp fun σ H Q q => by
  obtain ⟨G, F, τ, r0, q⟩ := q
  refine ⟨G, F, τ, r0, ?_⟩
  have q' : At X.K W XM pa (relI X.K) G F σ ((ce τ).bind fun p => (R.ofOpt (seqOf p.1)).bind fun ds => .ok (enumD ds, p.2)) Q := q
  show At X.K W XM pa (relA X.K) G F σ ((ce τ).bind fun p => (nilA p.2).bind fun q => .ok (p.1 :: q.1, q.2)) _
  cases e1 : ce τ with
  | exc x => rw [e1] at q'; exact q'
  | stuck => rw [e1] at q'; exact q'.elim
  | ok p =>
    rw [e1] at q'
    intro vs F1 H1 s1 r1 h1
    have h1 : DpAll X.K F1 vs [p.1] := h1
    obtain ⟨d, τ1⟩ := p
    have q2 : At X.K W XM pa (relI X.K) G F σ ((R.ofOpt (seqOf d)).bind fun ds => .ok (enumD ds, τ1)) Q := q'
    cases h1 with
    | cons hx hr =>
      cases hr
      cases hx with
      | @lst a xs ds qa da => exact ⟨a, xs, rfl, .inl ⟨same_sqL r1.z.fh qa, q2 _ F1 H1 s1 r1 (walk_enumL qa da)⟩⟩
      | @tup a xs ds qa da => exact ⟨a, xs, rfl, .inr ⟨same_sqT r1.z.fh (SqT.of qa), q2 _ F1 H1 s1 r1 (walk_enumT (SqT.of qa) da)⟩⟩
      | non => exact q2.elim
      | bl _ => exact q2.elim
      | int _ => exact q2.elim
      | str _ => exact q2.elim
      | dcK _ _ => exact q2.elim
      | dcT _ _ => exact q2.elim
      | adr _ => exact q2.elim
      | obj _ _ _ _ => exact q2.elim
      | fn _ _ => exact q2.elim
end
end Lin

/-! Lin13: dicts: keys are ints or pairs of ints; a slot owns a dict, or it is locked and known as data from then on. -/
namespace Lin
open PySem L2
/-! ### tables -/
def keyB : D → D → Bool
  | .int i, .int j => decide (i = j)
  | .tuple [.int a, .int b], .tuple [.int c, .int d] => decide (a = c ∧ b = d)
  | _, _ => false
def isKey : Bool → D → Bool
  | false, .int _ => true
  | true, .tuple [.int _, .int _] => true
  | _, _ => false
theorem isKey_int {d : D} (h : isKey false d = true) : ∃ i, d = .int i := by
  unfold isKey at h
  split at h
  · exact ⟨_, rfl⟩
  · rename_i e; cases e
  · cases h
theorem isKey_pair {d : D} (h : isKey true d = true) : ∃ i j, d = .tuple [.int i, .int j] := by
  unfold isKey at h
  split at h
  · rename_i e; cases e
  · exact ⟨_, _, rfl⟩
  · cases h
def findD (kvs : List (D × D)) (k : D) : Option D := (kvs.find? fun p => keyB p.1 k).map (·.2)
def putD (kvs : List (D × D)) (k v : D) : List (D × D) := if (kvs.any fun p => keyB p.1 k) = true then kvs.map (fun p => if keyB p.1 k = true then (p.1, v) else p) else kvs ++ [(k, v)]
section
variable {K : PySem.W.Frag} {F H : Hp}
/-- what is found -/
def FindOk (K : PySem.W.Frag) (F : Hp) (w : Option V) (r : Option D) : Prop := (w = none ∧ r = none) ∨ ∃ v d, w = some v ∧ r = some d ∧ Dp K F v d
theorem dpK_find {i : Int} : ∀ {vs : List (Key × V)} {kvs : List (D × D)}, DpK K F vs kvs → FindOk K F (valV vs (Sum.inl i)) (findD kvs (.int i))
  | _, _, .nil => .inl ⟨rfl, rfl⟩
  | _, _, .cons (i := j) (v := v) (d := d) (vs := vs) (ds := ds) h1 h2 => by
    by_cases e : j = i
    · subst e
      exact .inr ⟨v, d, valV_pos rfl, by simp [findD, keyB], h1⟩
    · have ih := dpK_find (i := i) h2
      have e1 : valV ((Sum.inl j, v) :: vs) (Sum.inl i) = valV vs (Sum.inl i) := valV_neg (by simpa using e)
      have e2 : findD ((PyData.int j, d) :: ds) (.int i) = findD ds (.int i) := by simp [findD, keyB, e]
      rw [e1, e2]
      exact ih
theorem dpT_find {i j : Int} : ∀ {vs : List (List Key × V)} {kvs : List (D × D)}, DpT K F vs kvs → FindOk K F (valV vs [Sum.inl i, Sum.inl j]) (findD kvs (.tuple [.int i, .int j]))
  | _, _, .nil => .inl ⟨rfl, rfl⟩
  | _, _, .cons (i := a) (j := b) (v := v) (d := d) (vs := vs) (ds := ds) h1 h2 => by
    by_cases e : a = i ∧ b = j
    · obtain ⟨rfl, rfl⟩ := e
      exact .inr ⟨v, d, valV_pos rfl, by simp [findD, keyB], h1⟩
    · have ih := dpT_find (i := i) (j := j) h2
      have e1 : valV (([Sum.inl a, Sum.inl b], v) :: vs) [Sum.inl i, Sum.inl j] = valV vs [Sum.inl i, Sum.inl j] := valV_neg (by simpa using e)
      have e2 : findD ((PyData.tuple [.int a, .int b], d) :: ds) (.tuple [.int i, .int j]) = findD ds (.tuple [.int i, .int j]) := by
        have : keyB (PyData.tuple [.int a, .int b]) (.tuple [.int i, .int j]) = false := decide_eq_false e
        simp [findD, List.find?_cons, this]
      rw [e1, e2]
      exact ih
theorem dpK_any {i : Int} : ∀ {vs : List (Key × V)} {kvs : List (D × D)}, DpK K F vs kvs → (vs.any fun kv => decide (kv.1 = Sum.inl i)) = kvs.any fun p => keyB p.1 (.int i)
  | _, _, .nil => rfl
  | _, _, .cons (i := j) h1 h2 => by
    rw [List.any_cons, List.any_cons, dpK_any h2]
    congr 1
    simp [keyB]
theorem dpT_any {i j : Int} : ∀ {vs : List (List Key × V)} {kvs : List (D × D)}, DpT K F vs kvs → (vs.any fun kv => decide (kv.1 = [Sum.inl i, Sum.inl j])) = kvs.any fun p => keyB p.1 (.tuple [.int i, .int j])
  | _, _, .nil => rfl
  | _, _, .cons (i := a) (j := b) h1 h2 => by
    rw [List.any_cons, List.any_cons, dpT_any h2]
    congr 1
    simp [keyB]
theorem dpK_repl {i : Int} {v : V} {d : D} (hv : Dp K F v d) : ∀ {vs : List (Key × V)} {kvs : List (D × D)}, DpK K F vs kvs → DpK K F (vs.map fun kv => if kv.1 = Sum.inl i then (kv.1, v) else kv) (kvs.map fun p => if keyB p.1 (.int i) = true then (p.1, d) else p)
  | _, _, .nil => .nil
  | _, _, .cons (i := j) h1 h2 => by
    rw [List.map_cons, List.map_cons]
    by_cases e : j = i
    · subst e
      simp only [keyB, decide_true, if_true]
      exact .cons hv (dpK_repl hv h2)
    · have e1 : ¬ (Sum.inl j : Key) = Sum.inl i := by simpa using e
      rw [if_neg e1]
      simp only [keyB, e, decide_false, Bool.false_eq_true, if_false]
      exact .cons h1 (dpK_repl hv h2)
theorem dpT_repl {i j : Int} {v : V} {d : D} (hv : Dp K F v d) : ∀ {vs : List (List Key × V)} {kvs : List (D × D)}, DpT K F vs kvs → DpT K F (vs.map fun kv => if kv.1 = [Sum.inl i, Sum.inl j] then (kv.1, v) else kv) (kvs.map fun p => if keyB p.1 (.tuple [.int i, .int j]) = true then (p.1, d) else p)
  | _, _, .nil => .nil
  | _, _, .cons (i := a) (j := b) h1 h2 => by
    rw [List.map_cons, List.map_cons]
    by_cases e : a = i ∧ b = j
    · obtain ⟨rfl, rfl⟩ := e
      have e2 : keyB (PyData.tuple [.int a, .int b]) (.tuple [.int a, .int b]) = true := decide_eq_true ⟨rfl, rfl⟩
      rw [if_pos rfl, if_pos e2]
      exact .cons hv (dpT_repl hv h2)
    · have e1 : ¬ ([Sum.inl a, Sum.inl b] : List Key) = [Sum.inl i, Sum.inl j] := by simpa using e
      have e2 : ¬ keyB (PyData.tuple [.int a, .int b]) (.tuple [.int i, .int j]) = true := by
        show ¬ decide (a = i ∧ b = j) = true
        simpa using e
      rw [if_neg e1, if_neg e2]
      exact .cons h1 (dpT_repl hv h2)
theorem dpK_snoc {i : Int} {v : V} {d : D} (hv : Dp K F v d) : ∀ {vs : List (Key × V)} {kvs : List (D × D)}, DpK K F vs kvs → DpK K F (vs ++ [(Sum.inl i, v)]) (kvs ++ [(.int i, d)])
  | _, _, .nil => .cons hv .nil
  | _, _, .cons h1 h2 => .cons h1 (dpK_snoc hv h2)
theorem dpT_snoc {i j : Int} {v : V} {d : D} (hv : Dp K F v d) : ∀ {vs : List (List Key × V)} {kvs : List (D × D)}, DpT K F vs kvs → DpT K F (vs ++ [([Sum.inl i, Sum.inl j], v)]) (kvs ++ [(.tuple [.int i, .int j], d)])
  | _, _, .nil => .cons hv .nil
  | _, _, .cons h1 h2 => .cons h1 (dpT_snoc hv h2)
theorem dpK_put {i : Int} {v : V} {d : D} {vs : List (Key × V)} {kvs : List (D × D)} (h : DpK K F vs kvs) (hv : Dp K F v d) : DpK K F (putK vs (Sum.inl i) v) (putD kvs (.int i) d) := by
  unfold putK putD
  rw [← dpK_any h]
  split
  · exact dpK_repl hv h
  · exact dpK_snoc hv h
theorem dpT_put {i j : Int} {v : V} {d : D} {vs : List (List Key × V)} {kvs : List (D × D)} (h : DpT K F vs kvs) (hv : Dp K F v d) : DpT K F (putK vs [Sum.inl i, Sum.inl j] v) (putD kvs (.tuple [.int i, .int j]) d) := by
  unfold putK putD
  rw [← dpT_any h]
  split
  · exact dpT_repl hv h
  · exact dpT_snoc hv h
theorem dpK_len : ∀ {vs : List (Key × V)} {kvs : List (D × D)}, DpK K F vs kvs → vs.length = kvs.length
  | _, _, .nil => rfl
  | _, _, .cons _ h2 => by rw [List.length_cons, List.length_cons, dpK_len h2]
theorem dpT_len : ∀ {vs : List (List Key × V)} {kvs : List (D × D)}, DpT K F vs kvs → vs.length = kvs.length
  | _, _, .nil => rfl
  | _, _, .cons _ h2 => by rw [List.length_cons, List.length_cons, dpT_len h2]
theorem key_pair {y : V} {i j : Int} (h : Dp K F y (.tuple [.int i, .int j])) : ∃ b, y = .ref b ∧ F b = some (.tup (([Sum.inl i, Sum.inl j] : List Key).map kV)) := by
  cases h with
  | @tup a xs ds hs ha =>
    refine ⟨a, rfl, ?_⟩
    rw [hs]
    have e := DpAll.ints (ns := [i, j]) ha
    rw [e]
    rfl
theorem key_int {y : V} {i : Int} (h : Dp K F y (.int i)) : y = kV (Sum.inl i) := by cases h; rfl
/-- the dict that a slot owns is read -/
theorem own_get {a : Addr} {o : HO} {b : Bool} {kvs : List (D × D)} {y : V} {k : D} (s : Same F H) (ho : H a = some o) (hc : ContIs K F o (.dct b kvs)) (hy : Dp K F y k) (hk : isKey b k = true) : ∃ w, DGet H a y w ∧ FindOk K F w (findD kvs k) := by
  cases hc with
  | dK hc =>
    obtain ⟨i, rfl⟩ := isKey_int hk
    rw [key_int hy]
    exact ⟨_, DGet.k ho, dpK_find hc⟩
  | dT hc =>
    obtain ⟨i, j, rfl⟩ := isKey_pair hk
    obtain ⟨c, rfl, hb⟩ := key_pair hy
    exact ⟨_, DGet.t ho (s _ _ hb), dpT_find hc⟩
theorem own_put {a : Addr} {o : HO} {b : Bool} {kvs : List (D × D)} {y v : V} {k d : D} (s : Same F H) (ho : H a = some o) (hc : ContIs K F o (.dct b kvs)) (hy : Dp K F y k) (hv : Dp K F v d) (hk : isKey b k = true) (hl : kvs.length < 1000000) : ∃ o', DPut H a y v (upd H a o') ∧ ContIs K F o' (.dct b (putD kvs k d)) := by
  cases hc with
  | dK hc =>
    obtain ⟨i, rfl⟩ := isKey_int hk
    rw [key_int hy]
    exact ⟨_, DPut.k ho (by rw [dpK_len hc, sizeLine_eq]; omega), .dK (dpK_put hc hv)⟩
  | dT hc =>
    obtain ⟨i, j, rfl⟩ := isKey_pair hk
    obtain ⟨c, rfl, hb⟩ := key_pair hy
    exact ⟨_, DPut.t ho (s _ _ hb) (by rw [dpT_len hc, sizeLine_eq]; omega), .dT (dpT_put hc hv)⟩
theorem own_isD {a : Addr} {o : HO} {b : Bool} {kvs : List (D × D)} (ho : H a = some o) (hc : ContIs K F o (.dct b kvs)) : IsD H a := by
  cases hc with
  | dK hc => exact .inl ⟨_, .inl ho⟩
  | dT hc => exact .inr ⟨_, .inl ho⟩
/-- .. a locked one -/
def sameKind (kvs : List (D × D)) (k : D) : Bool := match kvs with
  | [] => false
  | (.int _, _) :: _ => isKey false k
  | (.str _, _) :: _ => false
  | _ => isKey true k
theorem frz_get {x y : V} {kvs : List (D × D)} {k : D} (s : Same F H) (hx : Dp K F x (.dict kvs)) (hy : Dp K F y k) (hk : sameKind kvs k = true) : ∃ a w, x = .ref a ∧ DGet H a y w ∧ FindOk K F w (findD kvs k) ∧ IsD H a := by
  cases hx with
  | @dcK a od vs _ e hc =>
    have hk2 : isKey false k = true := by
      cases hc with
      | nil => cases hk
      | cons _ _ => exact hk
    obtain ⟨i, rfl⟩ := isKey_int hk2
    rw [key_int hy]
    exact ⟨a, _, rfl, .inl ⟨_, _, .inr ⟨_, s _ _ e⟩, rfl, rfl⟩, dpK_find hc, .inl ⟨_, .inr ⟨_, s _ _ e⟩⟩⟩
  | @dcT a od vs _ e hc =>
    have hk2 : isKey true k = true := by
      cases hc with
      | nil => cases hk
      | cons _ _ => exact hk
    obtain ⟨i, j, rfl⟩ := isKey_pair hk2
    obtain ⟨c, rfl, hb⟩ := key_pair hy
    exact ⟨a, _, rfl, .inr ⟨_, _, c, .inr ⟨_, s _ _ e⟩, rfl, s _ _ hb, rfl⟩, dpT_find hc, .inr ⟨_, .inr ⟨_, s _ _ e⟩⟩⟩
  | adr _ =>
    unfold sameKind at hk
    simp at hk
  | obj _ _ _ _ =>
    unfold sameKind at hk
    simp at hk
  | fn _ _ =>
    unfold sameKind at hk
    simp at hk
end
end Lin

/-! Lin14: dicts in expressions and statements. -/
namespace Lin
open PySem L2
theorem Ext.know {F H : Hp} {q : Addr} {xs : List V} (h : Same F H) (hq : H q = some (.tup xs)) : Ext F H (upd F q (.tup xs)) H := by
  refine ⟨fun b o e => ?_, fun b o e => ?_, Same.refl _, fun b hb => .inl ?_⟩
  · by_cases c : b = q
    · subst c
      rw [h _ _ e] at hq
      rw [upd_same]
      exact hq.symm
    · rw [upd_ne c]; exact e
  · by_cases c : b = q
    · subst c
      rw [upd_same] at e
      cases e
      exact hq
    · rw [upd_ne c] at e
      exact h _ _ e
  · by_cases c : b = q
    · subst c
      exact absurd upd_same (hb.2 xs)
    · unfold NT at hb
      rw [upd_ne c] at hb
      exact hb
/-! ### a dict is locked for good -/
section
variable {K : PySem.W.Frag} {pa : List Addr} {G F H : Hp} {σ : L2.St} {τ : Ev}
theorem ContIs.mut {o : HO} {c : Cont} (h : ContIs K F o c) : Mut (some o) := by
  cases h <;> exact trivial
/-- what the locked dict stands for -/
theorem frz_dp {d : Addr} {u : HO} {b : Bool} {kvs : List (D × D)} {od : Obj} {F' : Hp} (h : ContIs K F u (.dct b kvs)) (e : F' d = some (.frz od u)) (s : Same F F') : Dp K F' (.ref d) (.dict kvs) := by
  cases h with
  | dK h => exact .dcK e (h.up s)
  | dT h => exact .dcT e (h.up s)
theorem Rp.lockAt {d : Addr} {u o : HO} (r : Rp K pa G F H σ τ) (hd : H d = some u) (hf : F d = none) (hg : G d = none) (hn : NoOwn σ τ d) : Same F (upd F d o) ∧ Rp K pa G (upd F d o) (upd H d o) σ τ := by
  have ff : Same F (upd F d o) := same_new hf
  refine ⟨ff, ⟨same_upd2 r.z.fh, Same.upd r.z.gh hg, fun b hb => ?_⟩, r.len, fun j e hj => ?_, fun j u' fs hj => ?_, r.one⟩
  · by_cases e : b = d
    · subst e; exact hg
    · unfold NT at hb
      rw [upd_ne e] at hb
      exact r.z.fg b hb
  · obtain ⟨v, q1, q2⟩ := r.val j e hj
    exact ⟨v, q1, q2.up ff⟩
  · obtain ⟨b, q1, ⟨ys, q2, q3⟩, q4, q5⟩ := r.own j u' fs hj
    have nb : b ≠ d := fun e => by
      subst e
      exact hn j u' fs hj q1
    exact ⟨b, q1, ⟨ys, by rw [upd_ne nb]; exact q2, q3.up ff⟩, by rw [upd_ne nb]; exact q4, q5⟩
theorem Rp.noOwn_drop (r : Rp K pa G F H σ τ) {i : Nat} {t : Option Nat} {c : Cont} {a : Addr} (ht : τ[i]? = some (.own t c)) (hs : σ[i]? = some (some (.ref a))) : NoOwn σ (τ.set i .free) a := fun j u es hj e2 => by
  by_cases hij : i = j
  · subst hij
    rw [List.getElem?_set_self (List.getElem?_eq_some_iff.mp ht).1] at hj
    cases hj
  · rw [List.getElem?_set_ne hij] at hj
    exact hij (r.one i j t c u es a ht hj hs e2)
/-- a slot that holds nothing comes to hold data that stands in σ -/
theorem Rp.seeVal (r : Rp K pa G F H σ τ) {i : Nat} {v : V} {d : D} (hs : σ[i]? = some (some v)) (h : Dp K F v d) : Rp K pa G F H σ (τ.set i (.val d)) := by
  have e : σ.set i (some v) = σ := by
    apply List.ext_getElem?
    intro j
    by_cases hij : i = j
    · subst hij
      rw [List.getElem?_set_self (List.getElem?_eq_some_iff.mp hs).1, hs]
    · rw [List.getElem?_set_ne hij]
  have := r.setVal (i := i) h
  rw [e] at this
  exact this
theorem Rp.freezeD (r : Rp K pa G F H σ τ) {i : Nat} {t : Option Nat} {b : Bool} {kvs : List (D × D)} (ht : τ[i]? = some (.own t (.dct b kvs))) :
    ∃ d u, H d = some u ∧ Mut (some u) ∧ ∀ od, ∃ F', Same F F' ∧ Rp K pa G F' (upd H d (.frz od u)) σ (τ.set i (.val (.dict kvs))) := by
  obtain ⟨a, h1, ⟨u, h2, h3⟩, h4, h5, h6⟩ := r.own i t _ ht
  refine ⟨a, u, h2, h3.mut, fun od => ?_⟩
  obtain ⟨ff, r2⟩ := (r.drop i).lockAt (o := .frz od u) h2 h4 h5 (r.noOwn_drop ht h1)
  refine ⟨_, ff, ?_⟩
  have r3 := r2.seeVal (i := i) h1 (frz_dp h3 upd_same ff)
  rw [List.set_set] at r3
  exact r3
end
def tFrz (t : TS) : TS := fun D σ H => t D σ H ∨ ∃ d u, H d = some u ∧ Mut (some u) ∧ ∀ od, t D σ (upd H d (.frz od u))
theorem ps_frz {X : Cx} {st : Stmt} {t : TS} (h : PS X st t) : PS X st (tFrz t) := ⟨fun pins s σ H D I hw => by
  rcases hw with hw | ⟨d, u, hd, mu, hw⟩
  · exact h.run pins s σ _ D I hw
  · obtain ⟨od, I1⟩ := I.lock hd mu
    exact h.run pins s σ _ D I1 (hw od)⟩
def tFrzE (t : TE) : TE := fun σ H Q => t σ H fun v H1 => ∃ d u, v = .ref d ∧ H1 d = some u ∧ Mut (some u) ∧ ∀ od, Q v (upd H1 d (.frz od u))
theorem pe_frz {X : Cx} {e : Expr} {t : TE} (h : PE X e t) : PE X e (tFrzE t) := ⟨fun pins s σ H Q I hw => thn (h.run pins s σ H _ I hw) fun v s1 ⟨x, H1, I1, r, d, u, ex, hd, mu, q⟩ => by
  obtain ⟨od, I2⟩ := I1.lock hd mu
  exact ⟨x, _, I2, r, q od⟩⟩
section
variable {X : Cx} {W : WX} {XM : Nat → Value} {pa : List Addr} {st : Stmt} {c : CS} {e : Expr} {pos : Pos} {k : Nat}
/-- from here on the dict of slot i is only looked at -/
@[simp] def preDS (i : Nat) (c : CS) : CS := fun τ => match τ[i]? with
  | some (.own _ (.dct _ kvs)) => c (τ.set i (.val (.dict kvs)))
  | some (.val (.dict kvs)) => c (τ.set i (.val (.dict kvs)))
  | _ => .stuck
theorem ss_preD (i : Nat) (h : SS X W XM pa st c) : SS X W XM pa st (preDS i c) := PS.imp (ps_frz h) fun E σ H q => by
  obtain ⟨G, F, τ, r, q⟩ := q
  unfold preDS at q
  cases e1 : τ[i]? with
  | none => rw [e1] at q; exact q.elim
  | some s =>
    cases s with
    | free => rw [e1] at q; exact q.elim
    | val d =>
      cases d with
      | dict kvs =>
        rw [e1] at q
        obtain ⟨v, hv, hd⟩ := r.val i _ e1
        exact .inl (tS.mk (K := X.K) (r.seeVal hv hd) q)
      | none => rw [e1] at q; exact q.elim
      | bool _ => rw [e1] at q; exact q.elim
      | int _ => rw [e1] at q; exact q.elim
      | str _ => rw [e1] at q; exact q.elim
      | list _ => rw [e1] at q; exact q.elim
      | tuple _ => rw [e1] at q; exact q.elim
    | own t cc =>
      cases cc with
      | lst _ => rw [e1] at q; exact q.elim
      | dct b kvs =>
        rw [e1] at q
        obtain ⟨d, u, hd, mu, hq⟩ := r.freezeD e1
        refine .inr ⟨d, u, hd, mu, fun od => ?_⟩
        obtain ⟨F', s', r'⟩ := hq od
        exact tS.mk (K := X.K) r' (AtS.mono (K := X.K) q s')
/-- a new dict that is only looked at -/
@[simp] def frzDC (c : CD) : CE := fun τ => (c τ).bind fun p => match p.1 with
  | .dct _ kvs => .ok (.dict kvs, p.2)
  | _ => .stuck
theorem e_dfrz {cd : CD} (h : SD X W XM pa e cd) : SE X W XM pa e (frzDC cd) := PE.imp (pe_frz h) fun σ H Q q => by
  obtain ⟨G, F, τ, r0, q⟩ := q
  refine At.step r0 q fun F1 H1 d1 τ1 x s1 r1 h1 q1 => ?_
  obtain ⟨p, rfl, ⟨o, ho, hc⟩, hf, hg, no⟩ := h1
  cases d1 with
  | lst _ => exact q1.elim
  | dct b kvs =>
    refine ⟨p, o, rfl, ho, hc.mut, fun od => ?_⟩
    obtain ⟨ff, r2⟩ := r1.lockAt (o := .frz od o) ho hf hg no
    exact q1 _ _ _ ff r2 (frz_dp hc upd_same ff)
/-! ### new dicts -/
@[simp] def dnewC (b : Bool) : CD := fun τ => .ok (.dct b [], τ)
theorem Rp.looseC {K : PySem.W.Frag} {G F H : Hp} {σ : L2.St} {τ : Ev} {p : Addr} {o : HO} {cc : Cont} (r : Rp K pa G F H σ τ) (hp : H p = none) (hd : ContIs K F o cc) : Rp K pa G F (upd H p o) σ τ ∧ LooseC K G F (upd H p o) σ τ p cc :=
  ⟨r.ext (Ext.newH r.z.fh hp), ⟨o, upd_same, hd⟩, Same.free r.z.fh hp, Same.free r.z.gh hp, r.noOwn_new hp⟩
theorem sd_newK : SD X W XM pa (.Dict [] [] pos) (dnewC false) := pe_dnewK.imp fun σ H Q q => by
  obtain ⟨G, F, τ, r, q⟩ := q
  intro p hp
  obtain ⟨r2, l⟩ := r.looseC (o := .dK []) hp (.dK .nil)
  exact q _ F _ (Same.refl _) r2 ⟨p, rfl, l⟩
theorem sd_newT : SD X W XM pa (.Dict [] [] pos) (dnewC true) := pe_dnewT.imp fun σ H Q q => by
  obtain ⟨G, F, τ, r, q⟩ := q
  intro p hp
  obtain ⟨r2, l⟩ := r.looseC (o := .dT []) hp (.dT .nil)
  exact q _ F _ (Same.refl _) r2 ⟨p, rfl, l⟩
/-! ### a slot's dict read -/
@[simp] def dget2Own (i : Nat) (ck cx : CE) : CE := fun τ => match τ[i]? with
  | some (.own _ (.dct _ _)) => (ck τ).bind fun p => (cx p.2).bind fun q => match q.2[i]? with
    | some (.own _ (.dct b kvs)) => if isKey b p.1 = true then .ok ((findD kvs p.1).getD q.1, q.2) else .stuck
    | _ => .stuck
  | _ => .stuck
theorem dct_at {K : PySem.W.Frag} {G F H : Hp} {σ : L2.St} {τ : Ev} {i : Nat} {Q : VK} {kk : R (D × Ev)} (r : Rp K pa G F H σ τ) (q : At K W XM pa (relE K) G F σ (match τ[i]? with
  | some (.own _ (.dct _ _)) => kk
  | _ => .stuck) Q) : ∃ a, σ[i]? = some (some (.ref a)) ∧ IsD H a ∧ At K W XM pa (relE K) G F σ kk Q := by
  cases e1 : τ[i]? with
  | none => rw [e1] at q; exact q.elim
  | some sl =>
    rw [e1] at q
    cases sl with
    | free => exact q.elim
    | val d => exact q.elim
    | own t cc =>
      cases cc with
      | lst _ => exact q.elim
      | dct b kvs =>
        obtain ⟨a, h1, ⟨o, h2, h3⟩, _⟩ := r.own i t _ e1
        exact ⟨a, h1, own_isD h2 h3, q⟩
theorem dct_own {α : Type} {rel : Rel α V} {K : PySem.W.Frag} {G F H : Hp} {σ : L2.St} {τ : Ev} {i : Nat} {a : Addr} {Q : VK} {f : Bool → List (D × D) → R (α × Ev)} (r : Rp K pa G F H σ τ) (ha : σ[i]? = some (some (.ref a))) (q : At K W XM pa rel G F σ (match τ[i]? with
  | some (.own _ (.dct b kvs)) => f b kvs
  | _ => .stuck) Q) : ∃ b kvs o, H a = some o ∧ ContIs K F o (.dct b kvs) ∧ At K W XM pa rel G F σ (f b kvs) Q := by
  cases e1 : τ[i]? with
  | none => rw [e1] at q; exact q.elim
  | some sl =>
    rw [e1] at q
    cases sl with
    | free => exact q.elim
    | val d => exact q.elim
    | own t cc =>
      cases cc with
      | lst _ => exact q.elim
      | dct b kvs =>
        obtain ⟨a', h1, ⟨o, h2, h3⟩, _⟩ := r.own i t _ e1
        rw [ha] at h1
        cases h1
        exact ⟨b, kvs, o, h2, h3, q⟩
theorem find_dp {K : PySem.W.Frag} {F : Hp} {w : Option V} {r : Option D} {z : V} {d : D} (h : FindOk K F w r) (hz : Dp K F z d) : Dp K F (w.getD z) (r.getD d) := by
  rcases h with ⟨rfl, rfl⟩ | ⟨v, e, rfl, rfl, h⟩
  · exact hz
  · exact h
variable {y : Str} {p1 : Pos} {ek ex : Expr} {ck cx cd : CE} {apos cpos : Pos}
theorem se_dget2Own (i : Nat) (hr : Room k X.A) (hv : PE X (.Name y p1) (tVar i)) (hk : SE X W XM pa ek ck) (hx : SE X W XM pa ex cx) (m : M2 X (.Name y p1) "get" apos ek ex cpos := by exact ⟨rfl, rfl, rfl, rfl⟩) :
    SE X W XM pa (.Call (.Attribute (.Name y p1) "get" apos) [ek, ex] [] cpos) (dget2Own i ck cx) := (pe_dget2 (hu_of hr) hv hk hx m).imp fun σ H Q q => by
  obtain ⟨G, F, τ, r0, q⟩ := q
  obtain ⟨a, ha, hD, q⟩ := dct_at r0 q
  refine ⟨.ref a, ha, a, rfl, hD, At.step r0 q fun F1 H1 d1 τ1 v s1 r1 h1 q1 => At.step r1 q1 fun F2 H2 d2 τ2 z s2 r2 h2 q2 => ?_⟩
  obtain ⟨b, kvs, o, ho, hc, q3⟩ := dct_own r2 ha q2
  by_cases hk : isKey b d1 = true
  · simp only [hk, if_true] at q3
    obtain ⟨w, g, fo⟩ := own_get r2.z.fh ho hc (Dp.up h1 s2) hk
    exact ⟨w, g, q3 _ F2 H2 (Same.refl _) r2 (find_dp fo h2)⟩
  · simp only [hk] at q3
    exact q3.elim
/-- d[k] -/
@[simp] def dixOwn (i : Nat) (ck : CE) : CE := fun τ => match τ[i]? with
  | some (.own _ (.dct _ _)) => (ck τ).bind fun p => match p.2[i]? with
    | some (.own _ (.dct b kvs)) => if isKey b p.1 = true then (R.ofOpt (findD kvs p.1)).bind fun z => .ok (z, p.2) else .stuck
    | _ => .stuck
  | _ => .stuck
theorem se_dixOwn (i : Nat) (hr : Room k X.A) (hv : PE X (.Name y p1) (tVar i)) (hk : SE X W XM pa ek ck) (hs : NoSl ek := by exact fun _ _ => rfl) : SE X W XM pa (.Subscript (.Name y p1) ek pos) (dixOwn i ck) := (pe_dget (hu_of hr) hv hk hs).imp fun σ H Q q => by
  obtain ⟨G, F, τ, r0, q⟩ := q
  obtain ⟨a, ha, hD, q⟩ := dct_at r0 q
  refine ⟨.ref a, ha, At.step r0 q fun F1 H1 d1 τ1 v s1 r1 h1 q1 => ?_⟩
  obtain ⟨b, kvs, o, ho, hc, q3⟩ := dct_own r1 ha q1
  by_cases hk : isKey b d1 = true
  · simp only [hk, if_true] at q3
    obtain ⟨z, e, q4⟩ := At.opt q3
    obtain ⟨w, g, fo⟩ := own_get r1.z.fh ho hc h1 hk
    rcases fo with ⟨_, e2⟩ | ⟨v', d', rfl, e2, h3⟩
    · rw [e] at e2; cases e2
    · rw [e] at e2
      cases e2
      exact ⟨a, v', rfl, g, q4 _ F1 H1 (Same.refl _) r1 h3⟩
  · simp only [hk] at q3
    exact q3.elim
/-- k in d, k not in d -/
@[simp] def dinOwn (neg : Bool) (i : Nat) (ck : CE) : CE := fun τ => (ck τ).bind fun p => match p.2[i]? with
    | some (.own _ (.dct b kvs)) => if isKey b p.1 = true then .ok (.bool (xor neg (findD kvs p.1).isSome), p.2) else .stuck
    | _ => .stuck
theorem dct_var {α : Type} {rel : Rel α V} {K : PySem.W.Frag} {G F H : Hp} {σ : L2.St} {τ : Ev} {i : Nat} {Q : VK} {f : Bool → List (D × D) → R (α × Ev)} (r : Rp K pa G F H σ τ) (q : At K W XM pa rel G F σ (match τ[i]? with
  | some (.own _ (.dct b kvs)) => f b kvs
  | _ => .stuck) Q) : ∃ a b kvs o, σ[i]? = some (some (.ref a)) ∧ H a = some o ∧ ContIs K F o (.dct b kvs) ∧ At K W XM pa rel G F σ (f b kvs) Q := by
  cases e1 : τ[i]? with
  | none => rw [e1] at q; exact q.elim
  | some sl =>
    rw [e1] at q
    cases sl with
    | free => exact q.elim
    | val d => exact q.elim
    | own t cc =>
      cases cc with
      | lst _ => exact q.elim
      | dct b kvs =>
        obtain ⟨a', h1, ⟨o, h2, h3⟩, _⟩ := r.own i t _ e1
        exact ⟨a', b, kvs, o, h1, h2, h3, q⟩
theorem find_some {K : PySem.W.Frag} {F : Hp} {w : Option V} {r : Option D} (h : FindOk K F w r) : w.isSome = r.isSome := by
  rcases h with ⟨rfl, rfl⟩ | ⟨v, e, rfl, rfl, h⟩ <;> rfl
theorem tDIn_of {i : Nat} {σ : L2.St} {H : Hp} {Q : VK} (q : tG X.K W XM pa (relE X.K) (dinOwn false i ck) σ H Q) : tDIn (tG X.K W XM pa (relE X.K) ck) (tVar i) σ H Q := by
  obtain ⟨G, F, τ, r0, q⟩ := q
  refine At.step r0 q fun F1 H1 d1 τ1 v s1 r1 h1 q1 => ?_
  obtain ⟨a, b, kvs, o, ha, ho, hc, q3⟩ := dct_var r1 q1
  by_cases hk : isKey b d1 = true
  · simp only [hk, if_true] at q3
    obtain ⟨w, g, fo⟩ := own_get r1.z.fh ho hc h1 hk
    refine ⟨.ref a, ha, a, w, rfl, g, q3 _ F1 H1 (Same.refl _) r1 ?_⟩
    rw [find_some fo, Bool.false_xor]
    exact .bl _
  · simp only [hk] at q3
    exact q3.elim
theorem tDNotIn_of {i : Nat} {σ : L2.St} {H : Hp} {Q : VK} (q : tG X.K W XM pa (relE X.K) (dinOwn true i ck) σ H Q) : tDNotIn (tG X.K W XM pa (relE X.K) ck) (tVar i) σ H Q := by
  obtain ⟨G, F, τ, r0, q⟩ := q
  refine At.step r0 q fun F1 H1 d1 τ1 v s1 r1 h1 q1 => ?_
  obtain ⟨a, b, kvs, o, ha, ho, hc, q3⟩ := dct_var r1 q1
  by_cases hk : isKey b d1 = true
  · simp only [hk, if_true] at q3
    obtain ⟨w, g, fo⟩ := own_get r1.z.fh ho hc h1 hk
    refine ⟨.ref a, ha, a, w, rfl, g, q3 _ F1 H1 (Same.refl _) r1 ?_⟩
    rw [find_some fo, Bool.true_xor]
    exact .bl _
  · simp only [hk] at q3
    exact q3.elim
theorem e_dinOwn (i : Nat) (hr : Room k X.A) (hk : SE X W XM pa ek ck) (hv : PE X (.Name y p1) (tVar i)) : SE X W XM pa (.Compare ek [.In] [.Name y p1] pos) (dinOwn false i ck) := (pe_cmp (pc_din (hu_of hr) hk hv) rfl).imp fun _ _ _ q => tDIn_of (X := X) q
theorem e_dnotinOwn (i : Nat) (hr : Room k X.A) (hk : SE X W XM pa ek ck) (hv : PE X (.Name y p1) (tVar i)) : SE X W XM pa (.Compare ek [.NotIn] [.Name y p1] pos) (dinOwn true i ck) := (pe_cmp (pc_dnotin (hu_of hr) hk hv) rfl).imp fun _ _ _ q => tDNotIn_of (X := X) q
/-! ### a locked dict read -/
def dgetD (d k z : D) : Option D := match d with
  | .dict kvs => if sameKind kvs k = true then some ((findD kvs k).getD z) else none
  | _ => none
def dixD (d k : D) : Option D := match d with
  | .dict kvs => if sameKind kvs k = true then findD kvs k else none
  | _ => none
@[simp] theorem dgetD_dict (kvs : List (D × D)) (k z : D) : dgetD (.dict kvs) k z = if sameKind kvs k = true then some ((findD kvs k).getD z) else none := rfl
@[simp] theorem dixD_dict (kvs : List (D × D)) (k : D) : dixD (.dict kvs) k = if sameKind kvs k = true then findD kvs k else none := rfl
theorem se_dix (hr : Room k X.A) (hd : SE X W XM pa e cd) (hk : SE X W XM pa ek ck) (hs : NoSl ek := by exact fun _ _ => rfl) : SE X W XM pa (.Subscript e ek pos) (op2C dixD cd ck) := (pe_dget (hu_of hr) hd hk hs).imp fun σ H Q q => by
  obtain ⟨G, F, τ, r0, q⟩ := q
  refine At.step r0 q fun F1 H1 d1 τ1 x s1 r1 h1 q1 => At.step r1 q1 fun F2 H2 d2 τ2 v s2 r2 h2 q2 => ?_
  obtain ⟨z, e, q4⟩ := At.opt q2
  unfold dixD at e
  cases d1 with
  | dict kvs =>
    simp only at e
    split at e
    · rename_i hk
      obtain ⟨a, w, rfl, g, fo, _⟩ := frz_get r2.z.fh (Dp.up h1 s2) h2 hk
      rcases fo with ⟨_, e2⟩ | ⟨v', d', rfl, e2, h3⟩
      · rw [e] at e2; cases e2
      · rw [e] at e2
        cases e2
        exact ⟨a, v', rfl, g, q4 _ F2 H2 (Same.refl _) r2 h3⟩
    · cases e
  | _ => cases e
@[simp] def op3C (f : D → D → D → Option D) (a b c : CE) : CE := fun τ => (a τ).bind fun p => (b p.2).bind fun q => (c q.2).bind fun t => (R.ofOpt (f p.1 q.1 t.1)).bind fun z => .ok (z, t.2)
/-- what a locked dict's name is bound to is a dict at once -/
@[simp] def dget2F (cd ck cx : CE) : CE := fun τ => (cd τ).bind fun p => if noDct p.1 = true ∨ tagged p.1 = true then .stuck else (ck p.2).bind fun q => (cx q.2).bind fun t => (R.ofOpt (dgetD p.1 q.1 t.1)).bind fun z => .ok (z, t.2)
theorem isD_dict {K : PySem.W.Frag} {F H : Hp} {x : V} {kvs : List (D × D)} (s : Same F H) (h : Dp K F x (.dict kvs)) (nt : tagged (.dict kvs) = false) : ∃ a, x = .ref a ∧ IsD H a := by
  cases h with
  | @dcK a od vs _ e hc => exact ⟨a, rfl, .inl ⟨_, .inr ⟨_, s _ _ e⟩⟩⟩
  | @dcT a od vs _ e hc => exact ⟨a, rfl, .inr ⟨_, .inr ⟨_, s _ _ e⟩⟩⟩
  | adr _ => cases nt
  | obj _ _ _ _ => cases nt
  | fn _ _ => cases nt
theorem se_dget2 (hr : Room k X.A) (hd : SE X W XM pa e cd) (hk : SE X W XM pa ek ck) (hx : SE X W XM pa ex cx) (m : M2 X e "get" apos ek ex cpos := by exact ⟨rfl, rfl, rfl, rfl⟩) :
    SE X W XM pa (.Call (.Attribute e "get" apos) [ek, ex] [] cpos) (dget2F cd ck cx) := (pe_dget2 (hu_of hr) hd hk hx m).imp fun σ H Q q => by
  obtain ⟨G, F, τ, r0, q⟩ := q
  refine At.step r0 q fun F1 H1 d1 τ1 x s1 r1 h1 q1 => ?_
  cases d1 with
  | dict kvs =>
    have nt : tagged (.dict kvs) = false := by
      cases z : tagged (.dict kvs) with
      | false => rfl
      | true =>
        simp only [z, or_true, if_true] at q1
        exact q1.elim
    simp only [nt, noDct, Bool.false_eq_true, or_self, if_false] at q1
    obtain ⟨a, rfl, hD⟩ := isD_dict r1.z.fh h1 nt
    refine ⟨a, rfl, hD, At.step r1 q1 fun F2 H2 d2 τ2 v s2 r2 h2 q2 => At.step r2 q2 fun F3 H3 d3 τ3 z s3 r3 h3 q3 => ?_⟩
    obtain ⟨zz, e, q4⟩ := At.opt q3
    unfold dgetD at e
    simp only at e
    split at e
    · rename_i hk
      cases e
      obtain ⟨a', w, e5, g, fo, _⟩ := frz_get r3.z.fh ((Dp.up h1 s2).up s3) (Dp.up h2 s3) hk
      cases e5
      exact ⟨w, g, q4 _ F3 H3 (Same.refl _) r3 (find_dp fo h3)⟩
    · cases e
  | _ => exact q1.elim
/-! ### d[k] = v -/
@[simp] def dputS (i : Nat) (ck cv : CE) : CS := fun τ => (cv τ).bind fun p => match p.2[i]? with
  | some (.own _ (.dct _ _)) => (ck p.2).bind fun q => match q.2[i]? with
    | some (.own t (.dct b kvs)) => if isKey b q.1 = true ∧ kvs.length < 1000000 then .ok (.next, q.2.set i (.own t (.dct b (putD kvs q.1 p.1)))) else .stuck
    | _ => .stuck
  | _ => .stuck
theorem dct_atS {K : PySem.W.Frag} {G F H : Hp} {σ : L2.St} {τ : Ev} {i : Nat} {E : Ends} {f : Option Nat → Bool → List (D × D) → R (Flow × Ev)} (r : Rp K pa G F H σ τ) (q : AtS K W XM pa E G F σ.length (match τ[i]? with
  | some (.own t (.dct b kvs)) => f t b kvs
  | _ => .stuck)) : ∃ a t b kvs o, σ[i]? = some (some (.ref a)) ∧ τ[i]? = some (.own t (.dct b kvs)) ∧ H a = some o ∧ ContIs K F o (.dct b kvs) ∧ AtS K W XM pa E G F σ.length (f t b kvs) := by
  cases e1 : τ[i]? with
  | none => rw [e1] at q; exact q.elim
  | some sl =>
    rw [e1] at q
    cases sl with
    | free => exact q.elim
    | val d => exact q.elim
    | own t cc =>
      cases cc with
      | lst _ => exact q.elim
      | dct b kvs =>
        obtain ⟨a', h1, ⟨o, h2, h3⟩, _⟩ := r.own i t _ e1
        exact ⟨a', t, b, kvs, o, h1, rfl, h2, h3, q⟩
variable {ev : Expr} {cv : CE} {spos : Pos}
theorem ss_dput (i : Nat) (hr : Room k X.A) (hv : PE X (.Name y p1) (tVar i)) (hk : SE X W XM pa ek ck) (he : SE X W XM pa ev cv) (hs : swapsWith ev (some (.Subscript (.Name y p1) ek spos)) pos.line X.env = pure false := by rfl) :
    SS X W XM pa (.Assign [.Subscript (.Name y p1) ek spos] ev pos) (dputS i ck cv) := (ps_dput (hu_of hr) hv hk he hs).imp fun E σ H q => by
  obtain ⟨G, F, τ, r0, q⟩ := q
  refine AtS.step r0 q fun F1 H1 d1 τ1 v s1 r1 h1 q1 => ?_
  obtain ⟨a, t0, b0, kvs0, o0, ha, -, -, -, q2⟩ := dct_atS (f := fun _ _ _ => (ck τ1).bind fun q => match q.2[i]? with
    | some (.own t (.dct b kvs)) => if isKey b q.1 = true ∧ kvs.length < 1000000 then .ok (.next, q.2.set i (.own t (.dct b (putD kvs q.1 d1)))) else .stuck
    | _ => .stuck) r1 q1
  refine ⟨.ref a, ha, AtS.step r1 q2 fun F2 H2 d2 τ2 z s2 r2 h2 q3 => ?_⟩
  obtain ⟨a', t, b, kvs, o, ha', ht, ho, hc, q4⟩ := dct_atS (f := fun t b kvs => if isKey b d2 = true ∧ kvs.length < 1000000 then .ok (.next, τ2.set i (.own t (.dct b (putD kvs d2 d1)))) else .stuck) r2 q3
  rw [ha] at ha'
  cases ha'
  by_cases hk : isKey b d2 = true ∧ kvs.length < 1000000
  · simp only [hk, and_self, if_true] at q4
    obtain ⟨o', dp, hc'⟩ := own_put r2.z.fh ho hc h2 (Dp.up h1 s2) hk.1 hk.2
    exact ⟨a, _, rfl, dp, q4 _ F2 _ rfl (Same.refl _) (r2.changeC ht ha hc')⟩
  · simp only [hk] at q4
    exact q4.elim
/-! ### walks -/
def keysOf : D → Option (List D)
  | .dict kvs => some (kvs.map (·.1))
  | _ => none
@[simp] theorem keysOf_dict (kvs : List (D × D)) : keysOf (.dict kvs) = some (kvs.map (·.1)) := rfl
@[simp] def keysI (c : CE) : CA := fun τ => (c τ).bind fun p => if tagged p.1 = true then .stuck else (R.ofOpt (keysOf p.1)).bind fun ds => .ok (ds, p.2)
theorem dpK_at {K : PySem.W.Frag} {F : Hp} : ∀ {vs : List (Key × V)} {kvs : List (D × D)} {i : Nat} {d : D}, DpK K F vs kvs → (kvs.map (·.1))[i]? = some d → ∃ n v, vs[i]? = some (Sum.inl n, v) ∧ d = .int n
  | _, _, _, _, .nil, h => by simp at h
  | _, _, 0, d, .cons (i := n) (v := v) h1 h2, h => by simp at h; exact ⟨n, v, rfl, h.symm⟩
  | _, _, i + 1, d, .cons h1 h2, h => by
    obtain ⟨n, v, e, e2⟩ := dpK_at (i := i) h2 (by simpa using h)
    exact ⟨n, v, by simpa using e, e2⟩
theorem dpT_at {K : PySem.W.Frag} {F : Hp} : ∀ {vs : List (List Key × V)} {kvs : List (D × D)} {i : Nat} {d : D}, DpT K F vs kvs → (kvs.map (·.1))[i]? = some d → ∃ n m v, vs[i]? = some ([Sum.inl n, Sum.inl m], v) ∧ d = .tuple [.int n, .int m]
  | _, _, _, _, .nil, h => by simp at h
  | _, _, 0, d, .cons (i := n) (j := m) (v := v) h1 h2, h => by simp at h; exact ⟨n, m, v, rfl, h.symm⟩
  | _, _, i + 1, d, .cons h1 h2, h => by
    obtain ⟨n, m, v, e, e2⟩ := dpT_at (i := i) h2 (by simpa using h)
    exact ⟨n, m, v, by simpa using e, e2⟩
theorem walk_keysK {K : PySem.W.Frag} {F : Hp} {a : Addr} {od : Obj} {vs : List (Key × V)} {kvs : List (D × D)} (e : F a = some (.frz od (.dK vs))) (h : DpK K F vs kvs) : Walk K F (Itk a od vs) (kvs.map (·.1)) where
  go := fun F' H' i d s s' hi => by
    obtain ⟨n, v, e1, rfl⟩ := dpK_at h hi
    refine ⟨⟨(Same.trans s s') _ _ e, (List.getElem?_eq_some_iff.mp e1).1⟩, fun x H2 yl => ?_⟩
    obtain ⟨rfl, k', v', e2, rfl⟩ := yl
    rw [e1] at e2
    cases e2
    exact ⟨F', Ext.refl s', .int n⟩
  stop := fun F' H' i s s' hi => ⟨(Same.trans s s') _ _ e, by rw [dpK_len h]; simpa using hi⟩
theorem walk_keysT {K : PySem.W.Frag} {F : Hp} {a : Addr} {od : Obj} {vs : List (List Key × V)} {kvs : List (D × D)} (e : F a = some (.frz od (.dT vs))) (h : DpT K F vs kvs) : Walk K F (Itkt a od vs) (kvs.map (·.1)) where
  go := fun F' H' i d s s' hi => by
    obtain ⟨n, m, v, e1, rfl⟩ := dpT_at h hi
    refine ⟨⟨(Same.trans s s') _ _ e, (List.getElem?_eq_some_iff.mp e1).1⟩, fun x H2 yl => ?_⟩
    obtain ⟨rfl, k', v', q, e2, rfl, hq⟩ := yl
    rw [e1] at e2
    cases e2
    have ex := Ext.know s' hq
    exact ⟨_, ex, .tup upd_same (.cons (.int n) (.cons (.int m) .nil))⟩
  stop := fun F' H' i s s' hi => ⟨(Same.trans s s') _ _ e, by rw [dpT_len h]; simpa using hi⟩
variable {tg iter : Expr} {ce : CE}
theorem si_keys (h : SE X W XM pa iter ce) : SI X W XM pa tg iter (keysI ce) := (pi_keys h).imp fun σ H Q q => by
  obtain ⟨G, F, τ, r0, q⟩ := q
  refine At.step r0 q fun F1 H1 d1 τ1 x s1 r1 h1 q1 => ?_
  have nt : tagged d1 = false := by
    cases z : tagged d1 with
    | false => rfl
    | true =>
      simp only [z, if_true] at q1
      exact q1.elim
  simp only [nt, Bool.false_eq_true, if_false] at q1
  cases h1 with
  | @dcK a od vs _ e hc => exact ⟨a, od, rfl, .inl ⟨vs, r1.z.fh _ _ e, q1 _ F1 H1 (Same.refl _) r1 (walk_keysK e hc)⟩⟩
  | @dcT a od vs _ e hc => exact ⟨a, od, rfl, .inr ⟨vs, r1.z.fh _ _ e, q1 _ F1 H1 (Same.refl _) r1 (walk_keysT e hc)⟩⟩
  | adr _ => cases nt
  | obj _ _ _ _ => cases nt
  | fn _ _ => cases nt
  | _ => exact q1.elim
end
end Lin

/-! Lin15: dicts written with one entry; several names set at once, dicts among them, or by way of a tuple. -/
namespace Lin
open PySem L2
/-- {k: v}, k a tuple; the new dict stands empty while k and v are made -/
def tDispT (tk tv : TE) : TE := fun σ H Q => ∀ p, H p = none → tk σ (upd H p (.dT [])) fun x H1 => tv σ H1 fun y H2 => H2 p = some (.dT []) ∧ ∃ (k : List Key) (b : Addr), x = .ref b ∧ H2 b = some (.tup (k.map kV)) ∧ Q (.ref p) (upd H2 p (.dT (putK [] k y)))
theorem pe_dispT {X : Cx} {pos : Pos} {k v : Expr} {tk tv : TE} (hu : X.A.units + 1 < cLine) (hk : PE X k tk) (hv : PE X v tv) : PE X (.Dict [some k] [v] pos) (tDispT tk tv) := by
  refine ⟨fun pins s σ H Q I q => ?_⟩
  have hn := I.hok.fresh (Nat.le_refl s.heap.objs.size)
  have I1 := I.laid (a := s.heap.objs.size) (o := .dT []) (h' := s.heap.push { cls := .type "dict", data := .dict #[] }) (t' := s.toks) (fun _ _ q => Heap.get?_push_of_some _ q) (Nat.le_refl _) (dt_empty s.heap I.big)
  let P : V → V → Hp → Prop := fun x y H2 => H2 s.heap.objs.size = some (.dT []) ∧ ∃ (k : List Key) (b : Addr), x = .ref b ∧ H2 b = some (.tup (k.map kV)) ∧ Q (.ref s.heap.objs.size) (upd H2 s.heap.objs.size (.dT (putK [] k y)))
  have hrun := (pps_cons hk hv (pps_nil (X := X) (pos := pos))).run pins _ σ _ (fun ps H' => match ps with
    | [(x, y)] => P x y H'
    | _ => False) I1 (q _ hn)
  have hz := zip_pairTrees [some k] [v] X.env pos rfl rfl
  rw [arm_eval_Dict, hz, dictDisplay_pairs _ (by simp [pairTrees]) (by simp [pairTrees])]
  refine wpAny_bind (wpAny_standAt (wpAny_bind (wpAny_subDictH (knd := tupleKind (mixKind X.prog X.w)) (by show X.A.units < cLine; omega) (by simp [pairTrees]) (thn hrun fun ws s2 ⟨ps, H2, I2, rel, hq⟩ => ?_))))
  cases rel with
  | nil => exact hq.elim
  | @cons a b as bs h1 h2 =>
    cases h2 with
    | cons _ _ => exact hq.elim
    | nil =>
      obtain ⟨x, y⟩ := a
      obtain ⟨u, w⟩ := b
      obtain ⟨e, kk, c, rfl, hc, hQ⟩ := (show P x y H2 from hq)
      cases (show u = Value.ref c from h1.1)
      have ry : RelV y w := h1.2
      obtain ⟨z, hd, xs, r0, dd⟩ := dt_of I2.hok e
      cases r0
      refine ⟨[(kk, c, w)], ⟨rfl, rfl, key_of I2.hok hc, trivial⟩, dd, fun h' tk dd' hs => wpAny_pure ⟨.ref s.heap.objs.size, _, ?_, rfl, hQ⟩⟩
      obtain ⟨o, es, ep, hq1, g2, g3, g4, _, g5⟩ := dd'
      have hl : (putK ([] : List (List Key × V)) kk y).length ≤ sizeLine := by rw [sizeLine_eq]; have := length_putK ([] : List (List Key × V)) kk y; simp at this; omega
      refine d_write I2 (by rw [e]; exact True.intro) hs ⟨o, hq1⟩ ⟨hl, hd, _, (KT.put (Paired.nil : KT H2 [] []) kk hc ry).keeps fun c ys ec => ?_, o, es, ep, hq1, g2, g3, g4, g5⟩
      rw [upd_ne (ne_of ec e (fun z => nomatch z))]
      exact ec
theorem MOk.heap {K : PySem.W.Frag} {F H H' : Hp} {σ : L2.St} {τ : Ev} : ∀ {vs : List V} {ss : List Slot} {G : Hp}, MOk K F H σ τ G vs ss → Same H H' → MOk K F H' σ τ G vs ss
  | [], [], _, _, _ => trivial
  | [], _ :: _, _, h, _ => h.elim
  | _ :: _, [], _, h, _ => h.elim
  | v :: vs, .free :: ss, _, h, _ => h.elim
  | v :: vs, .own (some _) _ :: ss, _, h, _ => h.elim
  | v :: vs, .val d :: ss, _, h, e => ⟨h.1, MOk.heap h.2 e⟩
  | v :: vs, .own none ds :: ss, G, h, e => by
    obtain ⟨p, xs, e1, h1, h2, h3, h4, h5, h6⟩ := h
    exact ⟨p, xs, e1, e _ _ h1, h2, h3, h4, h5, MOk.heap h6 e⟩
section
variable {X : Cx} {W : WX} {XM : Nat → Value} {pa : List Addr} {pos : Pos} {k : Nat}
/-- {k: v} -/
@[simp] def dispC (b : Bool) (ck cv : CE) : CD := fun τ => (ck τ).bind fun p => (cv p.2).bind fun q => if isKey b p.1 = true then .ok (.dct b [(p.1, q.1)], q.2) else .stuck
/-- a computation while others own one thing more -/
theorem At.lend {K : PySem.W.Frag} {α β : Type} {rel : Rel α β} {G F : Hp} {σ : L2.St} {p : Addr} {o : HO} {r : R (α × Ev)} {Q : β → Hp → Prop} (hg : G p = none) (ho : ∀ xs, o ≠ .tup xs)
    (h : Gd W XM G F σ.length r fun a τ' => ∀ (v : β) (F' H' : Hp), Same F F' → Rp K pa (upd G p o) F' H' σ τ' → rel (upd G p o) F' H' σ τ' v a → Q v H') : At K W XM pa rel (upd G p o) F σ r Q := by
  unfold At
  cases r with
  | ok q => exact h
  | stuck => exact h
  | exc e => exact fun σ' F' H' l s z => h σ' F' H' l s (z.back hg)
theorem tDisp_of {b : Bool} {ck cv : CE} {o : HO} (hb : o = (if b = true then .dT [] else .dK [])) {σ : L2.St} {H : Hp} {Q : VK} (q : tG X.K W XM pa (relC X.K) (dispC b ck cv) σ H Q) (p : Addr) (hp : H p = none) :
    tG X.K W XM pa (relE X.K) ck σ (upd H p o) fun x H1 => tG X.K W XM pa (relE X.K) cv σ H1 fun y H2 => H2 p = some o ∧ ∃ (F2 : Hp) (dk dv : D), Same F2 H2 ∧ Dp X.K F2 x dk ∧ Dp X.K F2 y dv ∧ isKey b dk = true ∧ ∀ o', ContIs X.K F2 o' (.dct b [(dk, dv)]) → Q (.ref p) (upd H2 p o') := by
  obtain ⟨G, F, τ, r0, q⟩ := q
  have ot : ∀ xs, o ≠ .tup xs := by rw [hb]; intro xs h; split at h <;> cases h
  have hf : F p = none := Same.free r0.z.fh hp
  have hg : G p = none := Same.free r0.z.gh hp
  have r1 : Rp X.K pa G F (upd H p o) σ τ := r0.ext (Ext.newH r0.z.fh hp)
  have r2 := r1.lend (o := o) upd_same hf (r0.noOwn_new hp)
  refine ⟨upd G p o, F, τ, r2, At.lend hg ot ?_⟩
  unfold At at q
  simp only [dispC] at q
  cases ec : ck τ with
  | stuck => rw [ec] at q; exact q.elim
  | exc e => rw [ec] at q; exact q
  | ok pq =>
    obtain ⟨dk, τ1⟩ := pq
    rw [ec] at q
    intro x F1 H1 s1 r3 hx
    refine ⟨upd G p o, F1, τ1, r3, At.lend hg ot ?_⟩
    have q1 : Gd W XM G F σ.length ((cv τ1).bind fun q => if isKey b dk = true then .ok (.dct b [(dk, q.1)], q.2) else .stuck) fun a τ' => ∀ (v : V) (F' H' : Hp), Same F F' → Rp X.K pa G F' H' σ τ' → relC X.K G F' H' σ τ' v a → Q v H' := q
    cases ev : cv τ1 with
    | stuck => rw [ev] at q1; exact q1.elim
    | exc e => rw [ev] at q1; exact fun σ' F' H' l s z => q1 σ' F' H' l (Same.trans s1 s) z
    | ok pv =>
      obtain ⟨dv, τ2⟩ := pv
      rw [ev] at q1
      intro y F2 H2 s2 r4 hy
      obtain ⟨r5, h5, h6, h7⟩ := r4.back hg ot
      by_cases hk : isKey b dk = true
      · simp only [R.bind_ok, hk, if_true] at q1
        refine ⟨h5, F2, dk, dv, r5.z.fh, Dp.up hx s2, hy, hk, fun o' hc => ?_⟩
        have r6 : Rp X.K pa G F2 (upd H2 p o') σ τ2 := by
          refine ⟨⟨Same.upd r5.z.fh h6, Same.upd r5.z.gh hg, r5.z.fg⟩, r5.len, r5.val, fun j u' fs hj => ?_, r5.one⟩
          obtain ⟨b', q1, ⟨ys, q2, q3⟩, q4, q5⟩ := r5.own j u' fs hj
          have nb : b' ≠ p := fun e => by
            subst e
            exact h7 j u' fs hj q1
          exact ⟨b', q1, ⟨ys, by rw [upd_ne nb]; exact q2, q3⟩, q4, q5⟩
        exact q1 _ F2 _ (Same.trans s1 s2) r6 ⟨p, rfl, ⟨o', upd_same, hc⟩, h6, hg, h7⟩
      · simp only [R.bind_ok, hk] at q1
        exact q1.elim
theorem tG.mono {K : PySem.W.Frag} {α β : Type} {rel : Rel α β} {c : Ev → R (α × Ev)} {σ : L2.St} {H : Hp} {Q Q' : β → Hp → Prop} (h : tG K W XM pa rel c σ H Q) (i : ∀ v H', Q v H' → Q' v H') : tG K W XM pa rel c σ H Q' := by
  obtain ⟨G, F, τ, r, q⟩ := h
  refine ⟨G, F, τ, r, ?_⟩
  unfold At at q ⊢
  revert q
  cases c τ with
  | ok p => exact fun q v F' H' s r' hv => i _ _ (q v F' H' s r' hv)
  | exc e => exact fun q => q
  | stuck => exact fun q => q.elim
variable {ek ev : Expr} {ck cv : CE}
theorem sd_dispK (hk : SE X W XM pa ek ck) (hv : SE X W XM pa ev cv) : SD X W XM pa (.Dict [some ek] [ev] pos) (dispC false ck cv) := (pe_disp (pps_cons hk hv pps_nil) rfl rfl (fun z => by cases z) (by simp)).imp fun σ H Q q => by
  intro p hp
  refine tG.mono (K := X.K) (tDisp_of (b := false) rfl q p hp) fun x H1 q1 => tG.mono (K := X.K) q1 fun y H2 q2 => ?_
  obtain ⟨h5, F2, dk, dv, sF, hx, hy, hk, q3⟩ := q2
  obtain ⟨i, rfl⟩ := isKey_int hk
  have ex := key_int hx
  subst ex
  exact ⟨h5, [(Sum.inl i, y)], rfl, by simp, q3 _ (.dK (.cons hy .nil))⟩
theorem sd_dispT (hr : Room k X.A) (hk : SE X W XM pa ek ck) (hv : SE X W XM pa ev cv) : SD X W XM pa (.Dict [some ek] [ev] pos) (dispC true ck cv) := (pe_dispT (hu_of hr) hk hv).imp fun σ H Q q => by
  intro p hp
  refine tG.mono (K := X.K) (tDisp_of (b := true) rfl q p hp) fun x H1 q1 => tG.mono (K := X.K) q1 fun y H2 q2 => ?_
  obtain ⟨h5, F2, dk, dv, sF, hx, hy, hk, q3⟩ := q2
  obtain ⟨i, j, rfl⟩ := isKey_pair hk
  obtain ⟨b, rfl, hb⟩ := key_pair hx
  exact ⟨h5, [Sum.inl i, Sum.inl j], b, rfl, sF _ _ hb, q3 _ (.dT (.cons hy .nil))⟩
/-! ### several names at once -/
@[simp] def ownCM (c : CD) (r : CM) : CM := fun τ => (c τ).bind fun p => (r p.2).bind fun q => .ok (.own none p.1 :: q.1, q.2)
theorem sm_ownC {a : Expr} {es : List Expr} {co : CD} {cr : CM} (ha : SD X W XM pa a co) (hr : SM X W XM pa es cr) (hs : starEach (a :: es) X.env = (false, eval a X.env) :: starEach es X.env := by rfl) : SM X W XM pa (a :: es) (ownCM co cr) := (pa_cons ha hr hs).imp fun σ H Q q => by
  obtain ⟨G, F, τ, r0, q⟩ := q
  refine At.step r0 q fun F1 H1 d1 τ1 x s1 r1 h1 q1 => ?_
  obtain ⟨p, rfl, ⟨xs, hx, hd⟩, hf, hg, no⟩ := h1
  refine ⟨upd G p xs, F1, τ1, r1.lend hx hf no, At.lend hg hd.nt ?_⟩
  unfold At at q1
  simp only at q1
  cases ec : cr τ1 with
  | stuck => rw [ec] at q1; exact q1.elim
  | exc e => rw [ec] at q1; exact q1
  | ok pq =>
    rw [ec] at q1
    intro vs F' H' s r' m
    obtain ⟨r2, h2, h3, h4⟩ := r'.back hg hd.nt
    exact q1 (.ref p :: vs) F' H' s r2 ⟨p, xs, rfl, h2, hd.up s, h3, hg, h4, m⟩
/-- a, b = e1, e2 by way of a tuple (a or b is read by a comprehension) -/
theorem ss_parT {a b : Expr} {x y : Str} {px py pt pt2 : Pos} {kt k2 : Nat} {cm : CM} (i j : Nat) (hc : X.calm = true) (hN : X.N.Nodup) (ha : SM X W XM pa [a, b] cm) (hi : X.N[i]? = some x := by rfl) (hj : X.N[j]? = some y := by rfl)
    (hx : Loc X.env.scope x := by first | exact .inl rfl | exact .inr rfl) (hy : Loc X.env.scope y := by first | exact .inl rfl | exact .inr rfl)
    (hfx : X.fn x = true ∨ X.env.scope.names.lookup x = some .local := by first | exact .inl rfl | exact .inr rfl) (hfy : X.fn y = true ∨ X.env.scope.names.lookup y = some .local := by first | exact .inl rfl | exact .inr rfl)
    (hs : swapsWithSole [.Tuple [.Name x px, .Name y py] kt pt] (.Tuple [a, b] k2 pt2) pos.line X.env = pure false := by rfl) (hw : swappedStores [.Tuple [.Name x px, .Name y py] kt pt] (.Tuple [a, b] k2 pt2) X.env = pure none := by rfl)
    (h1 : (assignEach [.Tuple [.Name x px, .Name y py] kt pt] X.env).map (·.2) = [assign (.Tuple [.Name x px, .Name y py] kt pt) X.env] := by rfl)
    (ht : (assignEach [.Name x px, .Name y py] X.env).length = 2 := by rfl) (hst : (assignEach [.Name x px, .Name y py] X.env).findIdx? (·.1) = none := by rfl)
    (a1 : (assignEach [.Name x px, .Name y py] X.env).map (·.2) = assign (.Name x px) X.env :: (assignEach [.Name y py] X.env).map (·.2) := by rfl)
    (a2 : (assignEach [.Name y py] X.env).map (·.2) = assign (.Name y py) X.env :: (assignEach [] X.env).map (·.2) := by rfl) :
    SS X W XM pa (.Assign [.Tuple [.Name x px, .Name y py] kt pt] (.Tuple [a, b] k2 pt2) pos) (parS [i, j] cm) :=
  (ps_asg (pe_tup ha) (pg_tup hc (pgs_cons (pg_name hN hi hx hfx) (pgs_cons (pg_name hN hj hy hfy) pgs_nil a2) a1) ht hst) hs hw h1).imp fun E σ H q => by
  obtain ⟨G, F, τ, r0, q⟩ := q
  refine AtS.step r0 q fun F1 H1 ss τ1 vs s1 r1 m q1 => ?_
  obtain ⟨τ2, e2, q2⟩ := AtS.opt q1
  have hl := (MOk.length m).trans (setAll_length e2)
  match vs, hl with
  | [v, w], _ =>
    refine ⟨by show 2 ≤ sizeLine; decide, fun t ht => ?_⟩
    have ex : Ext F1 H1 F1 (upd H1 t (.tup [v, w])) := Ext.newH r1.z.fh ht
    have r1' := r1.ext ex
    have m' : MOk X.K F1 (upd H1 t (.tup [v, w])) σ τ1 G [v, w] ss := MOk.heap m (fun p o h => (same_new ht) p o h)
    have r2 := Rp.setAll r1' m' e2
    exact ⟨t, [v, w], rfl, SqT.of upd_same, rfl, v, [w], rfl, w, [], rfl, rfl, q2 _ F1 _ (setsV_length [i, j] [v, w] σ) (Same.refl _) r2⟩
end
end Lin

/-! Lin16: sorted of a tuple and of a dict, min of pairs. -/
namespace Lin
open PySem L2 PyProof.Rows
section
variable {prog : Program} {w : World} {A : Around} {E : Value → Shared → Prop} {s : Shared}
def Kept (h h' : Heap) : Prop := ∀ b o, h.get? b = some o → h'.get? b = some o
/-- sorted(v), once its things are brought together -/
theorem sorted_from {v : Value} {vs : List Value} {ltv : Value → Value → Bool} {Q : Value → Shared → Prop} (O : SrtO.Swo ltv) (hz : vs.length ≤ sizeLine)
    (hcol : ∀ R : List Value → Shared → Prop, (∀ h' tk, Kept s.heap h' → R vs { s with heap := h', toks := tk }) → wpAny (model prog w) A.in1 (collect v) R E s)
    (hS : 2 ≤ vs.length → ∀ (h₁ : Heap) (tk : Nat) (a : Addr), h₁.get? a = some (seqObj "list" vs.toArray 0) → Kept s.heap h₁ → SrtO.SortableO prog w A.in1.in1 { s with heap := h₁, toks := tk } a vs ltv)
    (h : ∀ (out : List Value) (h1 h' : Heap) (tk : Nat) (n : Nat), SrtO.Srtd ltv out → SrtO.Stb ltv out vs → Kept s.heap h1 → Kept h1 h' → h'.get? h1.objs.size = some (seqObj "list" out.toArray n) → Q (.ref h1.objs.size) { s with heap := h', toks := tk }) :
    wpAny (model prog w) A (call (.builtin "sorted") [v]) Q E s := by
  refine Calls.call_function_entry PyProof.Rows.kind_sorted PyProof.Rows.plain_sorted PyProof.Rows.entry_sorted (PyProof.Rows.args_sorted1 _) ?_
  unfold Builtin.«sorted»
  refine wpAny_bind (m := checkCount "sorted" 1 1 _) (wpAny_pure ?_)
  refine wpAny_bind (hcol _ fun h' tk hk => ?_)
  refine wpAny_bind (wpAny_newList ?_ hz)
  have at1 : (h'.push (seqObj "list" vs.toArray 0)).get? h'.objs.size = some (seqObj "list" vs.toArray 0) := Heap.get?_push_size _ rfl
  have kp : Kept s.heap (h'.push (seqObj "list" vs.toArray 0)) := fun b o e => Heap.get?_push_of_some _ (hk b o e)
  refine wpAny_bind (wpAny_holding (wpAny_call_entry PyProof.Rows.slot_list_sort ⟨_, at1, rfl⟩ PyProof.Rows.entry_list_sort
    (SrtO.list_sort_ord (s := { s with heap := h'.push (seqObj "list" vs.toArray 0), toks := tk }) O at1 hz (fun h2 => hS h2 _ _ _ at1 kp) fun out hs hb => ⟨_, rfl, ?_⟩) (PyProof.Rows.args_list_sort _)))
  obtain ⟨n, en⟩ := PyProof.Rows.sortedHeap_at (vs := vs) (out := out.toArray) at1
  refine wpAny_pure ⟨_, rfl, h out h' _ _ n hs hb hk (fun b o e => ?_) en⟩
  have hb : b < h'.objs.size := Heap.lt_size e
  rw [PyProof.Rows.sortedHeap_old (Nat.ne_of_lt hb) (by rw [PyProof.Rows.size_push']; exact Nat.lt_succ_of_lt hb)]
  exact Heap.get?_push_of_some _ e
/-- the things of a tuple, brought together -/
theorem collect_tup {a : Addr} {vs : List Value} {o : Obj} {n : Nat} {R : List Value → Shared → Prop} (ho : s.heap.get? a = some o) (hc : o.cls = .type "tuple") (hd : o.data = .seq vs.toArray n) (hz : vs.length ≤ sizeLine)
    (k : ∀ h' tk, Kept s.heap h' → R vs { s with heap := h', toks := tk }) : wpAny (model prog w) A (collect (.ref a)) R E s := by
  unfold collect
  refine wpAny_bind (wpAny_runValue (codeAny_builtin entry_proto_collect' ?_))
  show wpAny _ _ (do again (.builtin "list.__iadd__" ⟨[← newList [], .ref a], []⟩)) _ _ s
  refine wpAny_bind (wpAny_newList (wpAny_pure ⟨Code.quiet_builtin _ (by decide +kernel), codeAny_builtin entry_list_iadd' ?_⟩))
  have hp : (s.heap.push (seqObj "list" #[] 0)).get? s.heap.objs.size = some (seqObj "list" #[] 0) := Heap.get?_push_size _ rfl
  have ho' : (s.heap.push (seqObj "list" #[] 0)).get? a = some o := Heap.get?_push_of_some _ ho
  show wpAny _ _ (Builtin.List.listExtendWith (.ref s.heap.objs.size) (.ref a) (.ref s.heap.objs.size)) _ _ { s with heap := s.heap.push (seqObj "list" #[] 0) }
  unfold Builtin.List.listExtendWith
  refine wpAny_bind (wpAny_typeOf (T := "tuple") ⟨o, ho', hc⟩ ?_)
  rw [if_pos (by rw [show (Value.type "tuple" == Value.type "tuple") = true by rfl]; simp)]
  refine wpAny_bind (listItems_at ho' hd ?_)
  refine wpAny_bind (listItems_at (xs := #[]) (n := 0) hp rfl ?_)
  rw [if_neg (by simp)]
  refine wpAny_bind (listUpdate_at (xs := #[]) (n := 0) hp rfl ?_ (Nat.zero_le _) (by show (#[] ++ vs.toArray).size ≤ sizeLine + 1; rw [Array.size_append, List.size_toArray]; show 0 + vs.length ≤ _; omega))
  refine wpAny_pure ?_
  refine wpAny_bind (wpAny_load (get?_update_seq hp _) ?_)
  refine wpAny_pure ?_
  have e : ((#[] : Array Value) ++ vs.toArray).toList = vs := by simp
  show R ((#[] : Array Value) ++ vs.toArray).toList _
  rw [e]
  refine k _ s.toks fun b ob q => ?_
  rw [Heap.get?_update_ne _ _ _ _ (Nat.ne_of_lt (Heap.lt_size q))]
  exact Heap.get?_push_of_some _ q
end
section
variable {X : Cx}
/-- sorted(t), t a tuple of ints -/
def rSortedTI (K : PySem.W.Frag) : List V → Hp → VK → Prop := fun vs H Q => ∃ (a : Addr) (ns : List Int), vs = [V.ref a] ∧ SqT K H a (ns.map V.int) ∧
  ∀ (ns' : List Int) (p : Addr), ns'.Perm ns → ns'.Pairwise (· ≤ ·) → H p = none → Q (.ref p) (upd H p (.lst (ns'.map V.int)))
theorem cr_sortedTI : CallR X (.builtin "sorted") (rSortedTI X.K) := by
  intro pins s σ H vs us Q I r h
  obtain ⟨a, ns, rfl, hs, q⟩ := h
  obtain ⟨its, rv, ⟨o, ho, hc, n, hd⟩, hz⟩ := I.tuple hs
  rw [Vals.ref1 r]
  have hi := rv.ints
  have hz' : its.length ≤ sizeLine := by rw [← rv.length]; exact hz
  refine sorted_from SrtO.swo_int hz' (fun R k => collect_tup ho hc hd hz' k) (fun h2 h₁ tk a' _ _ => SrtO.ints_sortable hi h2) fun out h1 h' tk n h3 h4 k1 k2 e => ?_
  obtain ⟨g1, g2, g3⟩ := SrtO.ints_out hi h3 h4
  have I1 : Inv X pins σ H { s with heap := h1, toks := tk } := I.kept k1
  have hlen : ((out.map SrtO.iv).map V.int).length ≤ sizeLine := by
    rw [List.length_map, g2.length_eq]
    rw [List.length_map] at hz
    exact hz
  exact ⟨.ref _, upd H h1.objs.size (.lst ((out.map SrtO.iv).map V.int)), I1.laid (t' := tk) k2 (Nat.le_refl _) ⟨hlen, out, n, vals_of_ints g1, e⟩, rfl, q _ _ g2 g3 (I1.hok.fresh (Nat.le_refl _))⟩
/-- sorted(d), the keys of d pairs of ints -/
def pairV (H : Hp) : V → Int × Int
  | .ref a => match H a with
    | some (.tup [.int i, .int j]) => (i, j)
    | _ => (0, 0)
  | _ => (0, 0)
def rSortedDT : List V → Hp → VK → Prop := fun xs H Q => ∃ d kvs, xs = [V.ref d] ∧ Rd H d (.dT kvs) ∧ (∀ p ∈ kvs, ∃ i j, p.1 = [Sum.inl i, Sum.inl j]) ∧
  ∀ p bs zs, H p = none → IsKeys H kvs bs → SrtO.Srtd (ltP (pairV H)) zs → zs.Perm (bs.map V.ref) → Q (.ref p) (upd H p (.lst zs))
theorem keys_pair {H : Hp} : ∀ {kvs : List (List Key × V)} {bs : List Addr}, IsKeys H kvs bs → (∀ p ∈ kvs, ∃ i j, p.1 = [Sum.inl i, Sum.inl j]) → ∀ b ∈ bs, ∃ i j : Int, H b = some (.tup [.int i, .int j])
  | _, _, .nil, _, _, hb => by cases hb
  | _, _, .cons (a := p) h1 h2, h, b, hb => by
    rcases List.mem_cons.mp hb with rfl | hb
    · obtain ⟨i, j, e⟩ := h p (by simp)
      rw [e] at h1
      exact ⟨i, j, h1⟩
    · exact keys_pair h2 (fun p hp => h p (by simp [hp])) b hb
theorem cr_sortedDT (hc : X.calm = true) : CallR X (.builtin "sorted") rSortedDT := by
  intro pins s σ H xs us Q I r h
  obtain ⟨d, kvs, rfl, hd, hk, q⟩ := h
  rw [Vals.ref1 r]
  obtain ⟨z, hs, ks, pr, o, es, ep, ho, hx, hdt, he, hn⟩ := (show ObjOk X.prog X.w H s.heap d (.dT kvs) from hd.ok I.hok)
  have l1 : es.size = ks.length := size_of_entries he
  have l2 : kvs.length = ks.length := Paired.length pr
  have ik := isKeys_of pr
  generalize hbs : (ks.map fun x => x.2.1) = bs at ik
  have lb : bs.length = ks.length := by rw [← hbs, List.length_map]
  have bp := keys_pair ik hk
  have hz : (bs.map Value.ref).length ≤ sizeLine := by rw [List.length_map]; omega
  have col : ∀ R : List Value → Shared → Prop, (∀ h' tk, Kept s.heap h' → R (bs.map Value.ref) { s with heap := h', toks := tk }) → wpAny (model X.prog X.w) X.A.in1 (collect (.ref d)) R (fun _ _ => False) s := fun R k =>
    PySem.W.kdu_collect (A := X.A.in1) (kdl_raw hs hx hdt) (I.ok.hd hc) ho (by omega) fun h' tk acc kp it => by
      have ea : acc.toList = bs.map Value.ref := by
        apply List.ext_getElem?
        intro j
        rw [← hbs, List.map_map, List.getElem?_map]
        have hl : acc.toList.length = ks.length := by rw [Array.length_toList, it.1]; exact l1
        rcases hj : ks[j]? with _ | b
        · rw [List.getElem?_eq_none (by have := List.getElem?_eq_none_iff.mp hj; omega)]
          rfl
        · have lj : j < acc.toList.length := by have := (List.getElem?_eq_some_iff.mp hj).1; omega
          obtain ⟨en, hen, hv⟩ := it.2 j acc.toList[j] (by rw [← Array.getElem?_toList, List.getElem?_eq_getElem lj])
          have qe := entry_at he j
          rw [hen, hj] at qe
          have e2 : en = entryOfKey (tupleKind (mixKind X.prog X.w)) b := Option.some.inj qe
          rw [List.getElem?_eq_getElem lj, hv, e2]
          rfl
      rw [ea]
      exact k h' tk kp
  have isp : ∀ h₁ : Heap, Kept s.heap h₁ → ∀ v ∈ bs.map Value.ref, Srt.IsPair h₁ v (pairV H (backV v)).1 (pairV H (backV v)).2 := fun h₁ kp v hv => by
    obtain ⟨b, hb, rfl⟩ := List.mem_map.mp hv
    obtain ⟨i, j, hij⟩ := bp b hb
    obtain ⟨_, its2, r2, o2, ho2, hc2, n2, hd2⟩ := I.hok _ _ hij
    obtain ⟨u1, u2, rfl, ⟨t1, rfl⟩, ⟨t2, rfl⟩⟩ := vals2 r2
    have e : pairV H (backV (Value.ref b)) = (i, j) := by show (match H b with | some (.tup [.int i, .int j]) => (i, j) | _ => (0, 0)) = _; rw [hij]
    rw [e]
    exact ⟨b, o2, t1, t2, n2, rfl, kp _ _ ho2, hc2, hd2⟩
  refine sorted_from (SrtO.swo_lex fun v => pairV H (backV v)) hz (fun R k => ?_) (fun h2 h₁ tk a' ha kp => SrtO.pairs_sortableO (by omega) (isp h₁ kp) fun ob e => ?_) fun out h1 h' tk n h3 h4 k1 k2 e => ?_
  · exact (wpAny_mono (col R k) (fun _ _ x => x) fun _ _ e => e.elim)
  · have e' : some ob = some (seqObj "list" (bs.map Value.ref).toArray 0) := e.symm.trans ha
    cases e'
    intro c
    exact absurd (Value.type.inj c) (by decide)
  · have I1 : Inv X pins σ H { s with heap := h1, toks := tk } := I.kept k1
    have o1 : ∀ u ∈ out, ∃ a, u = Value.ref a := fun u hu => by
      obtain ⟨b, _, rfl⟩ := List.mem_map.mp (h4.perm.mem_iff.mp hu)
      exact ⟨b, rfl⟩
    have pz : (out.map backV).Perm (bs.map V.ref) := by
      have := h4.perm.map backV
      rw [List.map_map] at this
      exact this
    have hlen : (out.map backV).length ≤ sizeLine := by rw [List.length_map, h4.perm.length_eq]; exact hz
    exact ⟨.ref _, upd H h1.objs.size (.lst (out.map backV)), I1.laid (t' := tk) k2 (Nat.le_refl _) ⟨hlen, out, n, vals_back o1, e⟩, rfl, q _ bs _ (I1.hok.fresh (Nat.le_refl _)) ik (SrtO.srtd_map h3) pz⟩
end
end Lin
namespace Lin
open PySem L2
/-! ### the data -/
def leP (p q : Int × Int) : Bool := decide (p.1 < q.1 ∨ (p.1 = q.1 ∧ p.2 ≤ q.2))
theorem leP_iff {p q : Int × Int} : leP p q = true ↔ p.1 < q.1 ∨ (p.1 = q.1 ∧ p.2 ≤ q.2) := by unfold leP; exact decide_eq_true_iff
def insP (a : Int × Int) : List (Int × Int) → List (Int × Int)
  | [] => [a]
  | b :: r => if leP a b = true then a :: b :: r else b :: insP a r
def sortP : List (Int × Int) → List (Int × Int)
  | [] => []
  | a :: r => insP a (sortP r)
theorem insP_perm (a : Int × Int) : ∀ l : List (Int × Int), (insP a l).Perm (a :: l)
  | [] => List.Perm.refl _
  | b :: r => by
    unfold insP
    split
    · exact List.Perm.refl _
    · exact ((insP_perm a r).cons b).trans (List.Perm.swap a b r)
theorem sortP_perm : ∀ l : List (Int × Int), (sortP l).Perm l
  | [] => List.Perm.refl _
  | a :: r => (insP_perm a (sortP r)).trans ((sortP_perm r).cons a)
theorem insP_sorted {a : Int × Int} : ∀ {l : List (Int × Int)}, l.Pairwise (fun p q => leP p q = true) → (insP a l).Pairwise (fun p q => leP p q = true)
  | [], _ => by simp [insP]
  | b :: r, h => by
    have h' := List.pairwise_cons.mp h
    unfold insP
    split
    · rename_i c
      refine List.pairwise_cons.mpr ⟨fun x hx => ?_, h⟩
      rcases List.mem_cons.mp hx with rfl | hx
      · exact c
      · have := leP_iff.mp c
        have := leP_iff.mp (h'.1 x hx)
        exact leP_iff.mpr (by omega)
    · rename_i c
      refine List.pairwise_cons.mpr ⟨fun x hx => ?_, insP_sorted h'.2⟩
      rcases List.mem_cons.mp ((insP_perm a r).mem_iff.mp hx) with rfl | hx
      · have c' : ¬ (x.1 < b.1 ∨ (x.1 = b.1 ∧ x.2 ≤ b.2)) := fun z => c (leP_iff.mpr z)
        exact leP_iff.mpr (by omega)
      · exact h'.1 x hx
theorem sortP_sorted : ∀ l : List (Int × Int), (sortP l).Pairwise (fun p q => leP p q = true)
  | [] => by simp [sortP]
  | a :: r => insP_sorted (sortP_sorted r)
theorem sortP_uniq : ∀ {l m : List (Int × Int)}, l.Perm m → l.Pairwise (fun p q => leP p q = true) → m.Pairwise (fun p q => leP p q = true) → l = m
  | [], m, p, _, _ => (List.nil_perm.mp p).symm
  | a :: l, [], p, _, _ => by have := p.length_eq; simp at this
  | a :: l, b :: m, p, h1, h2 => by
    rw [List.pairwise_cons] at h1 h2
    have e : a = b := by
      rcases List.mem_cons.mp (p.mem_iff.mpr (List.mem_cons_self (a := b) (l := m))) with q | q
      · exact q.symm
      · rcases List.mem_cons.mp (p.mem_iff.mp (List.mem_cons_self (a := a) (l := l))) with q' | q'
        · exact q'
        · have x := leP_iff.mp (h1.1 b q)
          have y := leP_iff.mp (h2.1 a q')
          exact Prod.ext (by omega) (by omega)
    subst e
    rw [sortP_uniq ((List.perm_cons a).mp p) h1.2 h2.2]
def kp : D → Int × Int
  | .tuple [.int i, .int j] => (i, j)
  | _ => (0, 0)
def pairD (p : Int × Int) : D := .tuple [.int p.1, .int p.2]
/-- others come to know tuples -/
theorem know_all {H : Hp} : ∀ (bs : List Addr) (F : Hp), Same F H → (∀ b ∈ bs, ∃ xs, H b = some (.tup xs)) → ∃ F', Ext F H F' H ∧ ∀ b ∈ bs, F' b = H b
  | [], F, s, _ => ⟨F, Ext.refl s, fun b hb => by cases hb⟩
  | b :: bs, F, s, h => by
    obtain ⟨xs, e⟩ := h b (by simp)
    have x1 := Ext.know s e
    obtain ⟨F', x2, k⟩ := know_all bs _ x1.fh fun c hc => h c (by simp [hc])
    refine ⟨F', x1.trans x2, fun c hc => ?_⟩
    rcases List.mem_cons.mp hc with rfl | hc
    · rw [e]; exact x2.ff _ _ upd_same
    · exact k c hc
theorem dpT_keys {K : PySem.W.Frag} {F H : Hp} : ∀ {vs : List (List Key × V)} {kvs : List (D × D)} {bs : List Addr}, DpT K F vs kvs → IsKeys H vs bs → (bs.map V.ref).map (pairV H) = kvs.map (fun p => kp p.1) ∧ ∀ p ∈ vs, ∃ i j, p.1 = [Sum.inl i, Sum.inl j]
  | _, _, _, .nil, .nil => ⟨rfl, by simp⟩
  | _, _, _, .cons (i := i) (j := j) h1 h2, .cons g1 g2 => by
    obtain ⟨e, k⟩ := dpT_keys h2 g2
    refine ⟨?_, fun p hp => ?_⟩
    · simp only [List.map_cons]
      rw [e]
      congr 1
      show (match H _ with | some (.tup [.int i, .int j]) => (i, j) | _ => (0, 0)) = _
      rw [g1]
      rfl
    · rcases List.mem_cons.mp hp with rfl | hp
      · exact ⟨i, j, rfl⟩
      · exact k p hp
theorem dpT_pairs {K : PySem.W.Frag} {F : Hp} : ∀ {vs : List (List Key × V)} {kvs : List (D × D)}, DpT K F vs kvs → ∀ p ∈ vs, ∃ i j, p.1 = [Sum.inl i, Sum.inl j]
  | _, _, .nil, p, hp => by cases hp
  | _, _, .cons (i := i) (j := j) h1 h2, p, hp => by
    rcases List.mem_cons.mp hp with rfl | hp
    · exact ⟨i, j, rfl⟩
    · exact dpT_pairs h2 p hp
section
variable {X : Cx} {W : WX} {XM : Nat → Value} {pa : List Addr} {pos : Pos}
/-- sorted(d), d a slot's dict whose keys are pairs -/
@[simp] def dsortOwn (i : Nat) : CO := fun τ => match τ[i]? with
  | some (.own _ (.dct true kvs)) => .ok ((sortP (kvs.map fun p => kp p.1)).map pairD, τ)
  | _ => .stuck
theorem so_sortedD (i : Nat) {y : Str} {p p1 : Pos} (hc : X.calm = true) (hm : X.mg "sorted" = none) (hv : PE X (.Name y p1) (tVar i)) (hg : Gl X "sorted" := by rfl) (he : starEach (.Name y p1 :: []) X.env = (false, eval (.Name y p1) X.env) :: starEach [] X.env := by rfl) (hpl : (backTo pos (starEach [] X.env)).any (·.1) = false := by rfl) :
    SO X W XM pa (.Call (.Name "sorted" p) [.Name y p1] [] pos) (dsortOwn i) := (pe_callB (cr_sortedDT hc) hg hm b_sorted (pa_cons hv pa_nil) (by decide) (by decide) he hpl).imp fun σ H Q q => by
  obtain ⟨G, F, τ, r, q⟩ := q
  unfold dsortOwn at q
  cases e1 : τ[i]? with
  | none => rw [e1] at q; exact q.elim
  | some sl =>
    rw [e1] at q
    cases sl with
    | free => exact q.elim
    | val d => exact q.elim
    | own t c =>
      cases c with
      | lst ls => exact q.elim
      | dct b kvs =>
        cases b with
        | false => exact q.elim
        | true =>
          obtain ⟨a, h1, ⟨o, h2, h3⟩, _⟩ := r.own i t _ e1
          cases h3 with
          | @dT vs _ hd =>
            refine ⟨.ref a, h1, a, vs, rfl, .inl h2, dpT_pairs hd, fun p' bs zs hp ik so pz => ?_⟩
            obtain ⟨ek, _⟩ := dpT_keys hd ik
            have bk := keys_pair ik (dpT_pairs hd)
            obtain ⟨F', ex, kn⟩ := know_all bs F r.z.fh fun b hb => by
              obtain ⟨i, j, e⟩ := bk b hb
              exact ⟨_, e⟩
            have ez : zs.map (pairV H) = sortP (kvs.map fun p => kp p.1) := by
              refine sortP_uniq ?_ ?_ (sortP_sorted _)
              · rw [← ek]
                exact (pz.map _).trans (by rw [ek]; exact (sortP_perm _).symm)
              · refine List.pairwise_map.mpr (so.imp fun {x y} hxy => ?_)
                have := SrtO.lexB_no.mp hxy
                exact leP_iff.mpr (by omega)
            have hF : ∀ x ∈ zs, Dp X.K F' x (pairD (pairV H x)) := fun x hx => by
              obtain ⟨b, hb, rfl⟩ := List.mem_map.mp (pz.mem_iff.mp hx)
              obtain ⟨i, j, e⟩ := bk b hb
              have e2 : pairV H (.ref b) = (i, j) := by
                show (match H b with | some (.tup [.int i, .int j]) => (i, j) | _ => (0, 0)) = _
                rw [e]
              rw [e2]
              exact .tup (by rw [kn b hb]; exact e) (.cons (.int i) (.cons (.int j) .nil))
            have hD : ∀ l : List V, (∀ x ∈ l, Dp X.K F' x (pairD (pairV H x))) → DpAll X.K F' l ((l.map (pairV H)).map pairD) := fun l => by
              induction l with
              | nil => exact fun _ => .nil
              | cons x l ih => exact fun h => .cons (h x (by simp)) (ih fun y hy => h y (by simp [hy]))
            have hp' : F' p' = none := Same.free ex.fh hp
            have ex2 : Ext F H F' (upd H p' (.lst zs)) := ex.trans (Ext.newH ex.fh hp)
            have r2 := r.ext ex2
            refine q (.ref p') F' _ ex2.ff r2 ⟨p', rfl, ⟨zs, upd_same, ?_⟩, hp', Same.free r.z.gh hp, r.noOwn_new hp⟩
            rw [← ez]
            exact hD zs hF
end
end Lin
namespace Lin
open PySem L2
/-! ### min of alike data -/
def okM (ds : List D) : Bool := PyData.canLayAll0 ds && decide (PyData.depthAll ds ≤ 60) && ds.all fun x => ds.all fun y => PySem.W.alike x y && (match x with | .none => false | _ => true)
def minT : List D → Option D
  | [.list (x :: xs)] => if okM (x :: xs) = true then some (PySem.W.minD x xs) else none
  | _ => none
def rMinT (K : PySem.W.Frag) : List V → Hp → VK → Prop := fun us H Q => ∃ (a : Addr) (vs : List V) (x : D) (xs : List D), us = [V.ref a] ∧ SqL K H a vs ∧ L2.DpAll K H vs (x :: xs) ∧ PySem.W.AlikeAll (x :: xs) ∧ PyData.depthAll (x :: xs) ≤ 60 ∧
  ∀ (i : Nat) (v : V), vs[i]? = some v → (x :: xs)[i]? = some (PySem.W.minD x xs) → Q v H
section
variable {X : Cx}
theorem readsAll_i {h : Heap} : ∀ {us : List Value} {ds : List D} {as : List Addr} {i : Nat} {u : Value}, ReadsAll h us ds as → us[i]? = some u → ∃ d bs, ds[i]? = some d ∧ Reads h u d bs
  | _, _, _, _, _, .nil, e => by simp at e
  | _, _, _, 0, _, .cons r _, e => by
    simp at e
    subst e
    exact ⟨_, _, rfl, r⟩
  | _, _, _, i + 1, _, .cons _ r, e => by
    obtain ⟨d, bs, e1, e2⟩ := readsAll_i (i := i) r (by simpa using e)
    exact ⟨d, bs, by simpa using e1, e2⟩
theorem vals_i : ∀ {xs : List V} {us : List Value} {i : Nat} {u : Value}, Vals xs us → us[i]? = some u → ∃ x, xs[i]? = some x ∧ RelV x u
  | _, _, _, _, .nil, e => by simp at e
  | _, _, 0, _, .cons r _, e => by
    simp at e
    subst e
    exact ⟨_, rfl, r⟩
  | _, _, i + 1, _, .cons _ r, e => by
    obtain ⟨x, e1, e2⟩ := vals_i (i := i) r (by simpa using e)
    exact ⟨x, by simpa using e1, e2⟩
theorem cr_minT {k : Nat} (hr : Room k X.A) (hc : X.calm = true) : CallR X (.builtin "min") (rMinT X.K) := by
  intro pins s σ H vs us Q I r h
  obtain ⟨a, xs, x, ds, rfl, hs, hd, ha, hp, q⟩ := h
  obtain ⟨its, rv, hl, _⟩ := I.list hs
  rw [Vals.ref1 r]
  obtain ⟨as, ra⟩ := Dp.readsAll I _ _ _ hd rv
  have hu := hr.un
  refine PySem.W.min_list_data (I.ok.hd hc) hl.isList (by simpa using ra) ha (by omega) fun i v h' tk bs hv hm hk => ?_
  have hv' : its[i]? = some v := by simpa using hv
  obtain ⟨y, e1, e2⟩ := vals_i rv hv'
  obtain ⟨d, cs, e3, e4⟩ := readsAll_i ra hv'
  have e5 := (PyProof.Rows.reads_det (h := s.heap) (h' := h') (fun b o e _ => hk b o e) e4 hm).1
  exact ⟨y, H, I.kept hk, e2, q i y e1 (by rw [e3, ← e5])⟩
theorem cs_minT {K : PySem.W.Frag} : CallS K (rMinT K) minT := fun F H xs ds z Q s hx hz k => by
  unfold minT at hz
  split at hz
  · rename_i x es
    split at hz
    · rename_i ok
      cases hz
      cases hx with
      | cons h1 h2 =>
        cases h2
        cases h1 with
        | @lst a ys _ hs hd =>
          unfold okM at ok
          simp only [Bool.and_eq_true, decide_eq_true_eq, List.all_eq_true] at ok
          refine ⟨a, ys, x, es, rfl, same_sqL s hs, DpAll.kit _ _ ok.1.1 (hd.up s), ⟨fun y hy w hw => (ok.2 y hy w hw).1, fun y hy e => ?_⟩, ok.1.2, fun i v e1 e2 => ?_⟩
          · subst e
            have := (ok.2 _ hy _ hy).2
            simp at this
          · obtain ⟨v', e3, e4⟩ := hd.get e2
            rw [e1] at e3
            cases e3
            exact k _ F H (Ext.refl s) e4
    · cases hz
  · cases hz
variable {W : WX} {XM : Nat → Value} {pa : List Addr} {pos : Pos} {e : Expr} {cr : CA} {p : Pos}
theorem e_minT {k : Nat} (hr : Room k X.A) (hc : X.calm = true) (hm : X.mg "min" = none) (ha : SA X W XM pa [e] cr) (hg : Gl X "min" := by rfl) (he : starEach [e] X.env = (false, eval e X.env) :: starEach [] X.env := by rfl) (hpl : (backTo pos (starEach [] X.env)).any (·.1) = false := by rfl) : SE X W XM pa (.Call (.Name "min" p) [e] [] pos) (callC minT cr) :=
  se_callB (cr_minT hr hc) cs_minT hg hm b_min ha (by decide) (by decide) he hpl
/-! ### sorted of a tuple of ints -/
def sortedTD : List D → Option (List D)
  | [.tuple ds] => (intsOf ds).map fun ns => (sortI ns).map PyData.int
  | _ => none
@[simp] theorem sortedTD_tup (a : List D) : sortedTD [.tuple a] = (intsOf a).map fun ns => (sortI ns).map PyData.int := rfl
theorem co_sortedTI {K : PySem.W.Frag} : CallO K (rSortedTI K) sortedTD := fun F H xs ds z Q s hx hz k => by
  unfold sortedTD at hz
  split at hz
  · rename_i es
    cases hx with
    | cons h1 h2 =>
      cases h2
      cases h1 with
      | @tup a ys _ hs ha =>
        cases e : intsOf es with
        | none => rw [e] at hz; cases hz
        | some ns =>
          rw [e] at hz
          cases hz
          have e2 := intsOf_some e
          subst e2
          have e3 := ha.ints
          subst e3
          refine ⟨a, ns, rfl, same_sqT s (SqT.of hs), fun ns' p hp hw hn => ?_⟩
          have e4 : ns' = sortI ns := sorted_uniq (hp.trans (sortI_perm ns).symm) hw (sortI_sorted ns)
          subst e4
          exact k p _ F _ (Ext.newH s hn) hn (Same.free s hn) upd_same (DpAll.of_ints _)
  · cases hz
theorem o_sortedT (hm : X.mg "sorted" = none) (ha : SA X W XM pa [e] cr) (hg : Gl X "sorted" := by rfl) (he : starEach [e] X.env = (false, eval e X.env) :: starEach [] X.env := by rfl) (hpl : (backTo pos (starEach [] X.env)).any (·.1) = false := by rfl) : SO X W XM pa (.Call (.Name "sorted" p) [e] [] pos) (callO sortedTD cr) :=
  so_callB cr_sortedTI co_sortedTI hg hm b_sorted ha (by decide) (by decide) he hpl
end
/-! ### sorted(set(pairs)) -/
def dedupP : List (Int × Int) → List (Int × Int)
  | [] => []
  | a :: r => if a ∈ r then dedupP r else a :: dedupP r
theorem dedupP_mem {x : Int × Int} : ∀ {l : List (Int × Int)}, x ∈ dedupP l ↔ x ∈ l
  | [] => Iff.rfl
  | a :: r => by
    unfold dedupP
    split
    · rename_i h
      rw [dedupP_mem, List.mem_cons]
      exact ⟨.inr, fun z => z.elim (fun e => by rw [e]; exact h) id⟩
    · rw [List.mem_cons, List.mem_cons, dedupP_mem]
theorem dedupP_nodup : ∀ l : List (Int × Int), (dedupP l).Nodup
  | [] => List.nodup_nil
  | a :: r => by
    unfold dedupP
    split
    · exact dedupP_nodup r
    · rename_i h
      exact List.nodup_cons.mpr ⟨fun z => h (dedupP_mem.mp z), dedupP_nodup r⟩
def okP : D → Bool
  | .tuple [.int i, .int j] => decide (0 ≤ i ∧ i < 4096 ∧ 0 ≤ j ∧ j < 4096)
  | _ => false
def sortSetD : List D → Option (List D)
  | [.list ds] => if ds.all okP = true ∧ (dedupP (ds.map kp)).length < 63 then some ((sortP (dedupP (ds.map kp))).map pairD) else none
  | _ => none
end Lin

/-! Lin19: enumerate(x), x a slot's own list that is not let go. -/
namespace Lin
open PySem L2
section
variable {K : PySem.W.Frag} {G F H : Hp} {σ : L2.St} {τ : Ev} {p : Addr} {i : Nat} {c : Cont}
theorem set_get {i j : Nat} {s : Lin.Slot} {τ : Ev} {x : Lin.Slot} (h : (τ.set i s)[j]? = some x) : (i = j ∧ s = x) ∨ (i ≠ j ∧ τ[j]? = some x) := by
  by_cases e : i = j
  · subst e
    have l : i < (τ.set i s).length := (List.getElem?_eq_some_iff.mp h).1
    rw [List.getElem?_set_self (by simpa using l)] at h
    cases h
    exact .inl ⟨rfl, rfl⟩
  · rw [List.getElem?_set_ne e] at h
    exact .inr ⟨e, h⟩
/-- the slot's thing gets a name while a loop runs over it -/
theorem Rp.name (r : Rp K [] G F H σ τ) (e : τ[i]? = some (.own none c)) (ha : σ[i]? = some (some (.ref p))) : Rp K [p] G F H σ (τ.set i (.own (some 0) c)) := by
  have own' : ∀ (j : Nat) t ds, (τ.set i (.own (some 0) c))[j]? = some (.own t ds) → ∃ t0, τ[j]? = some (.own t0 ds) := fun j t ds h => by
    rcases set_get h with ⟨rfl, q⟩ | ⟨_, q⟩
    · cases q; exact ⟨none, e⟩
    · exact ⟨t, q⟩
  refine ⟨r.z, by simpa using r.len, fun j d h => ?_, fun j t ds h => ?_, fun j k t ds u es a h1 h2 h3 h4 => ?_⟩
  · rcases set_get h with ⟨_, q⟩ | ⟨_, q⟩
    · cases q
    · exact r.val j d q
  · rcases set_get h with ⟨rfl, q⟩ | ⟨_, q⟩
    · cases q
      obtain ⟨a, h1, h2, h3, h4, _⟩ := r.own i none c e
      rw [ha] at h1
      cases h1
      exact ⟨p, ha, h2, h3, h4, fun k hk => by cases hk; rfl⟩
    · obtain ⟨a, h1, h2, h3, h4, h5⟩ := r.own j t ds q
      exact ⟨a, h1, h2, h3, h4, fun k hk => by have := h5 k hk; simp at this⟩
  · obtain ⟨t0, q1⟩ := own' j t ds h1
    obtain ⟨u0, q2⟩ := own' k u es h2
    exact r.one j k t0 ds u0 es a q1 q2 h3 h4
theorem Rp.unname (r : Rp K [p] G F H σ τ) (e : τ[i]? = some (.own (some 0) c)) : Rp K [] G F H σ (τ.set i (.own none c)) := by
  have own' : ∀ (j : Nat) t ds, (τ.set i (.own none c))[j]? = some (.own t ds) → ∃ t0, τ[j]? = some (.own t0 ds) := fun j t ds h => by
    rcases set_get h with ⟨rfl, q⟩ | ⟨_, q⟩
    · cases q; exact ⟨some 0, e⟩
    · exact ⟨t, q⟩
  refine ⟨r.z, by simpa using r.len, fun j d h => ?_, fun j t ds h => ?_, fun j k t ds u es a h1 h2 h3 h4 => ?_⟩
  · rcases set_get h with ⟨_, q⟩ | ⟨_, q⟩
    · cases q
    · exact r.val j d q
  · rcases set_get h with ⟨rfl, q⟩ | ⟨ne, q⟩
    · cases q
      obtain ⟨a, h1, h2, h3, h4, _⟩ := r.own i _ c e
      exact ⟨a, h1, h2, h3, h4, fun k hk => nomatch hk⟩
    · obtain ⟨a, h1, h2, h3, h4, h5⟩ := r.own j t ds q
      refine ⟨a, h1, h2, h3, h4, fun k hk => ?_⟩
      subst hk
      have q5 := h5 k rfl
      obtain ⟨b, g1, _, _, _, g5⟩ := r.own i _ c e
      have q6 := g5 0 rfl
      cases k with
      | zero =>
        simp at q5 q6
        subst q5
        subst q6
        exact absurd (r.one i j _ _ _ _ _ e q g1 h1) ne
      | succ k => simp at q5
  · obtain ⟨t0, q1⟩ := own' j t ds h1
    obtain ⟨u0, q2⟩ := own' k u es h2
    exact r.one j k t0 ds u0 es a q1 q2 h3 h4
theorem noOwn_un {a : Addr} (e : τ[i]? = some (.own (some 0) c)) (n : NoOwn σ τ a) : NoOwn σ (τ.set i (.own none c)) a := fun j t ds h => by
  rcases set_get h with ⟨rfl, q⟩ | ⟨_, q⟩
  · cases q; exact n i _ _ e
  · exact n j t ds q
end
@[simp] def unC (i : Nat) : Flow × Ev → R (Flow × Ev) := fun q => match q.2[i]? with
  | some (.own (some 0) c) => .ok (q.1, q.2.set i (.own none c))
  | _ => .stuck
theorem conv_at {K : PySem.W.Frag} {W : WX} {XM : Nat → Value} {E : Ends} {G F : Hp} {n i : Nat} {p : Addr} {r : R (Flow × Ev)} (h : AtS K W XM [] E G F n (r.bind (unC i))) : AtS K W XM [p] E G F n r := by
  cases r with
  | exc x => exact h
  | stuck => exact h.elim
  | ok q =>
    obtain ⟨fl, τ'⟩ := q
    have h' : AtS K W XM [] E G F n (unC i (fl, τ')) := h
    unfold unC at h'
    simp only at h'
    split at h'
    · rename_i c e
      have k : EndS K [] E G F n (τ'.set i (.own none c)) fl := h'
      show EndS K [p] E G F n τ' fl
      cases fl with
      | next => exact fun σ' F' H' l s r => k σ' F' H' l s (r.unname e)
      | brk => exact fun σ' F' H' l s r => k σ' F' H' l s (r.unname e)
      | cont => exact fun σ' F' H' l s r => k σ' F' H' l s (r.unname e)
      | ret d => exact fun v σ' F' H' l s r => k v σ' F' H' l s (r.unname e)
      | retO ds => exact fun b σ' F' H' l s r z => k b σ' F' H' l s (r.unname e) ⟨z.at_, z.hf, z.hg, noOwn_un e z.no⟩
      | retC c' => exact fun b σ' F' H' l s r z => k b σ' F' H' l s (r.unname e) ⟨z.at_, z.hf, z.hg, noOwn_un e z.no⟩
    · exact h'.elim
def HoldsAt (i : Nat) (ds : List D) (τ : Ev) : Prop := τ[i]? = some (.own (some 0) (.lst ds))
open Classical in
/-- a loop through which slot i keeps its list ds -/
noncomputable def loopO (i : Nat) (ds : List D) (b : D → CS) : List D → CS
  | [] => fun τ => if HoldsAt i ds τ then .ok (.next, τ) else .stuck
  | d :: es => fun τ => if HoldsAt i ds τ then (b d τ).bind fun p => match p.1 with
    | .next => loopO i ds b es p.2
    | .cont => loopO i ds b es p.2
    | .brk => .ok (.next, p.2)
    | f => .ok (f, p.2) else .stuck
noncomputable def forEnumOwnS (i : Nat) (g : D → Ev → Option Ev) (c : CS) : CS := fun τ => match τ[i]? with
  | some (.own none (.lst ds)) => (loopO i ds (bodyS g c) (enumD ds) (τ.set i (.own (some 0) (.lst ds)))).bind (unC i)
  | _ => .stuck
section
variable {X : Cx} {W : WX} {XM : Nat → Value} {pos pos2 tpos : Pos}
theorem ss_forEnumOwn (i : Nat) {body : List Stmt} {g : D → Ev → Option Ev} {vs : List Nat} {c : CS} {y : Str} {p p1 : Pos} {elts : List Expr} {kk : Nat} (hp : PassesOwn (model X.prog X.w) X.A X.env X.xe) (hc : X.calm = true) (hg : Gl X "enumerate") (hm : X.mg "enumerate" = none) (hv : PE X (.Name y p1) (tVar i))
    (ht : ∀ a, SG X [a] (.Tuple elts kk tpos) vs g) (hb : ∀ a, SSs X W XM [a] body c) (hs2 : starEach [.Name y p1] X.env = [(false, eval (.Name y p1) X.env)] := by rfl) (hs : ∀ x, foldedSetIterable (.Call (.Name "enumerate" p) [.Name y p1] [] pos2) X.env x = pure x := by intro _; rfl) :
    SS X W XM [] (.For (.Tuple elts kk tpos) (.Call (.Name "enumerate" p) [.Name y p1] [] pos2) body [] pos) (forEnumOwnS i g c) := by
  have hgE : PG X (.Tuple elts kk tpos) (fun v σ H Q => ∃ a, tTg X.K [a] vs g v σ H Q) := ⟨fun pins s σ H v u Q I r q => by obtain ⟨a, q⟩ := q; exact (ht a).run pins s σ H v u Q I r q⟩
  have hbE : PSs X body (fun D σ H => ∃ a, tS X.K W XM [a] c D σ H) := ⟨fun pins s σ H D I q => by obtain ⟨a, q⟩ := q; exact (hb a).run pins s σ H D I q⟩
  refine (ps_for hp hc (pi_enumA hg hm (pa_cons hv pa_nil hs2) hs2) hgE hbE hs).imp fun E σ H q => ?_
  obtain ⟨G, F, τ, r0, q⟩ := q
  unfold forEnumOwnS at q
  split at q
  · rename_i ds e1
    obtain ⟨a, ha, ⟨xs, hx, hd⟩, hf, hg', _⟩ := r0.ownL i none ds e1
    have r1 := r0.name e1 ha
    have q1 := conv_at (p := a) q
    refine ⟨.ref a, ha, a, xs, rfl, .inl ⟨SqL.of hx, ?_⟩⟩
    refine ⟨fun j m σ' H' => m = ds.length - j ∧ j ≤ ds.length ∧ σ'.length = σ.length ∧ ∃ (F' : Hp) (τ' : Ev), Same F F' ∧ Rp X.K [a] G F' H' σ' τ' ∧ AtS X.K W XM [a] E G F' σ.length (loopO i ds (bodyS g c) ((enumD ds).drop j) τ'), ⟨_, rfl, Nat.zero_le _, rfl, F, _, Same.refl _, r1, q1⟩, ?_⟩
    rintro j m σ' H' ⟨rfl, hj, hl, F', τ', s', r', q'⟩
    have have_ : HoldsAt i ds τ' ∧ True := by
      refine ⟨Classical.byContradiction fun n => ?_, trivial⟩
      cases hh : (enumD ds).drop j with
      | nil => rw [hh] at q'; unfold loopO at q'; rw [if_neg n] at q'; exact q'.elim
      | cons d es => rw [hh] at q'; unfold loopO at q'; rw [if_neg n] at q'; exact q'.elim
    have hold := have_.1
    obtain ⟨b, g1, ⟨ys, g2, g3⟩, g4, g5, g6⟩ := r'.ownL i (some 0) ds hold
    have eb : b = a := by have := g6 0 rfl; simp at this; exact this.symm
    subst eb
    by_cases hlt : j < ds.length
    · right
      obtain ⟨d, hd'⟩ : ∃ d, ds[j]? = some d := ⟨ds[j], List.getElem?_eq_getElem hlt⟩
      obtain ⟨x, ex, hx'⟩ := g3.get hd'
      have le : j < (enumD ds).length := by rw [enumD_len]; exact hlt
      have ee : (enumD ds)[j] = .tuple [.int j, d] := by
        obtain ⟨x2, e2, e3⟩ := enumD_get (List.getElem?_eq_getElem le)
        rw [hd'] at e2
        cases e2
        exact e3
      have ed : (enumD ds).drop j = .tuple [.int j, d] :: (enumD ds).drop (j + 1) := by
        rw [List.drop_eq_getElem_cons le, ee]
      rw [ed] at q'
      refine ⟨⟨ys, x, SqL.of g2, ex⟩, fun σ2 H2 => ∃ m', m' < ds.length - j ∧ (m' = ds.length - (j + 1) ∧ j + 1 ≤ ds.length ∧ σ2.length = σ.length ∧ ∃ (F2 : Hp) (τ2 : Ev), Same F F2 ∧ Rp X.K [b] G F2 H2 σ2 τ2 ∧ AtS X.K W XM [b] E G F2 σ.length (loopO i ds (bodyS g c) ((enumD ds).drop (j + 1)) τ2)), fun σ2 H2 h => h, fun v H2 yl => ?_⟩
      obtain ⟨T, x', rfl, hT, rfl, gx⟩ := yl
      have q2 := gx ys (SqL.of g2)
      rw [ex] at q2
      cases q2
      obtain ⟨F2, ext, hv2⟩ := new_pair r'.z.fh hT (.int _) hx'
      have r2 := r'.ext ext
      have q3 := AtS.mono q' ext.ff
      unfold loopO at q3
      rw [if_pos hold] at q3
      have q4 : AtS X.K W XM [b] E G F2 σ.length ((R.ofOpt (g (.tuple [.int j, d]) τ')).bind fun τ2 => (c τ2).bind fun p => match p.1 with
        | .next => loopO i ds (bodyS g c) ((enumD ds).drop (j + 1)) p.2
        | .cont => loopO i ds (bodyS g c) ((enumD ds).drop (j + 1)) p.2
        | .brk => .ok (.next, p.2)
        | f => .ok (f, p.2)) := by
        unfold bodyS at q3
        cases e5 : g (.tuple [.int j, d]) τ' with
        | none => rw [e5] at q3; exact q3.elim
        | some τ2 => rw [e5] at q3; exact q3
      obtain ⟨τ2, e2, q5⟩ := AtS.opt q4
      refine ⟨b, G, F2, τ', _, r2, hv2, τ2, e2, fun σ3 l3 o3 r3 => ⟨b, tS.mk (K := X.K) r3 ?_⟩⟩
      have hl3 : σ3.length = σ.length := l3.trans hl
      rw [hl3]
      revert q5
      unfold AtS
      cases e5 : c τ2 with
      | exc x => exact fun q5 => q5
      | stuck => exact fun q5 => q5.elim
      | ok pq =>
        obtain ⟨fl, τ5⟩ := pq
        cases fl with
        | next => exact fun q5 σ5 F5 H5 l5 s5 r5 => ⟨ds.length - (j + 1), by omega, rfl, hlt, l5, F5, τ5, Same.trans (Same.trans s' ext.ff) s5, r5, AtS.mono (K := X.K) q5 s5⟩
        | cont => exact fun q5 σ5 F5 H5 l5 s5 r5 => ⟨ds.length - (j + 1), by omega, rfl, hlt, l5, F5, τ5, Same.trans (Same.trans s' ext.ff) s5, r5, AtS.mono (K := X.K) q5 s5⟩
        | brk => exact fun q5 => q5
        | ret d => exact fun q5 => q5
        | retO d => exact fun q5 => q5
        | retC d => exact fun q5 => q5
    · left
      have ej : j = ds.length := by omega
      refine ⟨⟨ys, SqL.of g2, by rw [g3.length]; omega⟩, ?_⟩
      have en : (enumD ds).drop j = [] := List.drop_eq_nil_of_le (by rw [enumD_len]; omega)
      rw [en] at q'
      unfold loopO at q'
      rw [if_pos hold] at q'
      exact q' σ' F' H' hl (Same.refl _) r'
  · exact q.elim
end
end Lin

/-! Lin20: a comprehension over enumerate(x), x a slot's own list that is not let go. -/
namespace Lin
open PySem L2
/-- a walk that leans on what others own -/
structure WalkG (K : PySem.W.Frag) (G F : Hp) (J : It) (ds : List D) : Prop where
  go : ∀ (F' H' : Hp) (i : Nat) (d : D), Same F F' → Same F' H' → Same G H' → ds[i]? = some d → J.go i H' ∧ ∀ x H2, J.yld i H' x H2 → ∃ F2, Ext F' H' F2 H2 ∧ Dp K F2 x d
  stop : ∀ (F' H' : Hp) (i : Nat), Same F F' → Same F' H' → Same G H' → ds.length = i → J.stop i H'
/-- what is asked of the walked thing J in a comprehension -/
def LcIn (K : PySem.W.Frag) (XM : Nat → Value) (pa : List Addr) (vs : List Nat) (g : D → Ev → Option Ev) (ct : CT) (ce : CE) (σ : L2.St) (Q : VK) (J : It) (H1 : Hp) : Prop := ∀ D, H1 D = none → ∃ W : Nat → Nat → Hp → Prop, (∃ m, W 0 m (upd H1 D (.lst []))) ∧ ∀ i m H, W i m H →
  (J.stop i H ∧ Q (.ref D) H) ∨ (J.go i H ∧ ∃ Nx : Hp → Prop, (∀ H', Nx H' → ∃ m', m' < m ∧ W (i + 1) m' H') ∧ ∀ x H', J.yld i H x H' → tTg K pa vs g x (wipe σ vs) H' fun σ2 H2 => wipe σ2 vs = wipe σ vs ∧ tG K W0 XM pa relB ct σ2 H2 fun b H3 =>
    if b = true then tG K W0 XM pa (relE K) ce σ2 H3 fun y H4 => ∃ acc, H4 D = some (.lst acc) ∧ acc.length < sizeLine ∧ Nx (upd H4 D (.lst (acc ++ [y]))) else Nx H3)
section
variable {X : Cx} {W : WX} {XM : Nat → Value} {pa : List Addr} {ce : CE} {ct : CT}
theorem lc_run {vs : List Nat} {g : D → Ev → Option Ev} {σ : L2.St} {G F1 H1 : Hp} {τ1 : Ev} {ds : List D} {J : It} {Q : VK} (r1 : Rp X.K pa G F1 H1 σ τ1) (wk : WalkG X.K G F1 J ds)
    (q1 : At X.K W XM pa (relO X.K) G F1 σ ((R.noexc (lcLoop vs g ct ce ds [] (wipeE τ1 vs))).bind fun q => .ok (q.1, wipeE q.2 vs)) Q) : LcIn X.K XM pa vs g ct ce σ Q J H1 := by
  intro L hL
  have fL : F1 L = none := Same.free r1.z.fh hL
  have gL : G L = none := Same.free r1.z.gh hL
  have wl : (wipe σ vs).length = σ.length := wipe_length σ vs
  -- what is wanted behind the last item
  let post : Hp → List D → Ev → Prop := fun F' es τ'' => ∀ (F2 H2 : Hp) (ys : List V), Same F' F2 → Rp X.K pa (upd G L (.lst ys)) F2 H2 (wipe σ vs) τ'' → DpAll X.K F2 ys es → Q (.ref L) H2
  have hm : ∀ F F1 a τ, Same F F1 → post F a τ → post F1 a τ := fun F F1 a τ s h F2 H2 ys s2 => h F2 H2 ys (Same.trans s s2)
  have gd : ∀ {G1 G2 F' : Hp} {r : R (List D × Ev)}, Gd W0 XM G1 F' σ.length r (post F') → (∀ e, r ≠ .exc e) → Gd W0 XM G2 F' σ.length r (post F') := fun {G1 G2 F' r} h hn => by
    cases r with
    | ok p => exact h
    | exc e => exact absurd rfl (hn e)
    | stuck => exact h
  -- behind i items: acc made so far, the rest still to come
  refine ⟨fun i m H' => m = ds.length - i ∧ i ≤ ds.length ∧ ∃ (F' : Hp) (τ' : Ev) (acc : List D) (xs : List V), Same F1 F' ∧ Rp X.K pa (upd G L (.lst xs)) F' H' (wipe σ vs) τ' ∧ DpAll X.K F' xs acc ∧
    Gd W0 XM (upd G L (.lst xs)) F' σ.length (R.noexc (lcLoop vs g ct ce (ds.drop i) acc τ')) (post F'), ?_, ?_⟩
  · refine ⟨ds.length, by simp, Nat.zero_le _, F1, wipeE τ1 vs, [], [], Same.refl _, ?_, .nil, ?_⟩
    · have r2 : Rp X.K pa G F1 (upd H1 L (.lst [])) σ τ1 := r1.ext (Ext.newH r1.z.fh hL)
      exact (r2.lend upd_same fL (r1.noOwn_new hL)).wipeSt vs
    · rw [List.drop_zero]
      revert q1
      show At X.K W XM pa (relO X.K) G F1 σ ((R.noexc (lcLoop vs g ct ce ds [] (wipeE τ1 vs))).bind fun q => .ok (q.1, wipeE q.2 vs)) Q → _
      cases lcLoop vs g ct ce ds [] (wipeE τ1 vs) with
      | exc x => exact fun z => z.elim
      | stuck => exact fun z => z.elim
      | ok pq =>
        intro q1 F2 H2 ys s2 r2 hd2
        have r3 : Rp X.K pa (upd G L (.lst ys)) F2 H2 σ (wipeE pq.2 vs) := r2.unwipeSt (wipe_wipe σ vs) wl
        obtain ⟨r4, h3, h4, h5⟩ := r3.back gL
        exact q1 _ F2 H2 s2 r4 ⟨L, rfl, ⟨ys, h3, hd2⟩, h4, gL, h5⟩
  · rintro i m H' ⟨rfl, hi, F', τ', acc, xs, s', r', hd', q'⟩
    by_cases hlt : i < ds.length
    · right
      obtain ⟨d, hd⟩ : ∃ d, ds[i]? = some d := ⟨ds[i], List.getElem?_eq_getElem hlt⟩
      have ed : ds.drop i = d :: ds.drop (i + 1) := by
        rw [List.drop_eq_getElem_cons hlt]
        rw [List.getElem?_eq_getElem hlt] at hd
        rw [Option.some.inj hd]
      obtain ⟨go, yl⟩ := wk.go F' H' i d s' r'.z.fh (Same.trans (same_new gL) r'.z.gh) hd
      rw [ed] at q'
      refine ⟨go, fun H2 => ∃ (F2 : Hp) (τ2 : Ev) (acc2 : List D) (xs2 : List V), Same F1 F2 ∧ Rp X.K pa (upd G L (.lst xs2)) F2 H2 (wipe σ vs) τ2 ∧ DpAll X.K F2 xs2 acc2 ∧
        Gd W0 XM (upd G L (.lst xs2)) F2 σ.length (R.noexc (lcLoop vs g ct ce (ds.drop (i + 1)) acc2 τ2)) (post F2), fun H2 h => ⟨ds.length - (i + 1), by omega, rfl, hlt, h⟩, fun x H2 y => ?_⟩
      obtain ⟨F2, ex, hx⟩ := yl x H2 y
      have r2 := r'.ext ex
      have q2 : Gd W0 XM (upd G L (.lst xs)) F2 σ.length (R.noexc (lcLoop vs g ct ce (d :: ds.drop (i + 1)) acc τ')) (post F2) := Gd.mono q' ex.ff fun a τ z => hm _ _ _ _ ex.ff z
      -- the loop's turn, without the look at exceptions
      have q3 : Gd W0 XM (upd G L (.lst xs)) F2 σ.length ((R.ofOpt (g d τ')).bind fun τ1 => (ct τ1).bind fun p => if p.1 = true then (ce p.2).bind fun q => if sized (acc.length + 1) = true then R.noexc (lcLoop vs g ct ce (ds.drop (i + 1)) (acc ++ [q.1]) (wipeE q.2 vs)) else .stuck
          else R.noexc (lcLoop vs g ct ce (ds.drop (i + 1)) acc (wipeE p.2 vs))) (post F2) := by
        revert q2
        show Gd W0 XM (upd G L (.lst xs)) F2 σ.length (R.noexc ((R.ofOpt (g d τ')).bind fun τ1 => (ct τ1).bind fun p => if p.1 = true then (ce p.2).bind fun q => if sized (acc.length + 1) = true then lcLoop vs g ct ce (ds.drop (i + 1)) (acc ++ [q.1]) (wipeE q.2 vs) else .stuck
          else lcLoop vs g ct ce (ds.drop (i + 1)) acc (wipeE p.2 vs))) (post F2) → _
        cases g d τ' with
        | none => exact fun z => z.elim
        | some τ1 =>
          show Gd W0 XM (upd G L (.lst xs)) F2 σ.length (R.noexc ((ct τ1).bind fun p => if p.1 = true then (ce p.2).bind fun q => if sized (acc.length + 1) = true then lcLoop vs g ct ce (ds.drop (i + 1)) (acc ++ [q.1]) (wipeE q.2 vs) else .stuck
            else lcLoop vs g ct ce (ds.drop (i + 1)) acc (wipeE p.2 vs))) (post F2) → Gd W0 XM (upd G L (.lst xs)) F2 σ.length ((ct τ1).bind fun p => if p.1 = true then (ce p.2).bind fun q => if sized (acc.length + 1) = true then R.noexc (lcLoop vs g ct ce (ds.drop (i + 1)) (acc ++ [q.1]) (wipeE q.2 vs)) else .stuck
            else R.noexc (lcLoop vs g ct ce (ds.drop (i + 1)) acc (wipeE p.2 vs))) (post F2)
          cases ct τ1 with
          | exc x => exact fun z => z.elim
          | stuck => exact fun z => z.elim
          | ok p =>
            obtain ⟨b, τ3⟩ := p
            cases b with
            | false => exact fun z => z
            | true =>
              show Gd W0 XM (upd G L (.lst xs)) F2 σ.length (R.noexc ((ce τ3).bind fun q => if sized (acc.length + 1) = true then lcLoop vs g ct ce (ds.drop (i + 1)) (acc ++ [q.1]) (wipeE q.2 vs) else .stuck)) (post F2) →
                Gd W0 XM (upd G L (.lst xs)) F2 σ.length ((ce τ3).bind fun q => if sized (acc.length + 1) = true then R.noexc (lcLoop vs g ct ce (ds.drop (i + 1)) (acc ++ [q.1]) (wipeE q.2 vs)) else .stuck) (post F2)
              cases ce τ3 with
              | exc x => exact fun z => z.elim
              | stuck => exact fun z => z.elim
              | ok pq =>
                show Gd W0 XM (upd G L (.lst xs)) F2 σ.length (R.noexc (if sized (acc.length + 1) = true then lcLoop vs g ct ce (ds.drop (i + 1)) (acc ++ [pq.1]) (wipeE pq.2 vs) else .stuck)) (post F2) →
                  Gd W0 XM (upd G L (.lst xs)) F2 σ.length (if sized (acc.length + 1) = true then R.noexc (lcLoop vs g ct ce (ds.drop (i + 1)) (acc ++ [pq.1]) (wipeE pq.2 vs)) else .stuck) (post F2)
                split
                · exact fun z => z
                · exact fun z => z.elim
      have nex : ∀ r : R (List D × Ev), ∀ e, R.noexc r ≠ .exc e := fun r e => by cases r <;> intro z <;> cases z
      have q4 : ∃ τ2, g d τ' = some τ2 ∧ Gd W0 XM (upd G L (.lst xs)) F2 σ.length ((ct τ2).bind fun p => if p.1 = true then (ce p.2).bind fun q => if sized (acc.length + 1) = true then R.noexc (lcLoop vs g ct ce (ds.drop (i + 1)) (acc ++ [q.1]) (wipeE q.2 vs)) else .stuck
          else R.noexc (lcLoop vs g ct ce (ds.drop (i + 1)) acc (wipeE p.2 vs))) (post F2) := by
        cases e1 : g d τ' with
        | none => rw [e1] at q3; exact q3.elim
        | some τ2 => rw [e1] at q3; exact ⟨τ2, rfl, q3⟩
      obtain ⟨τ2, e2, q5⟩ := q4
      refine ⟨upd G L (.lst xs), F2, τ', d, r2, hx, τ2, e2, fun σ3 l3 o3 r3 => ?_⟩
      have w3 : wipe σ3 vs = wipe (wipe σ vs) vs := wipe_eq l3 o3
      refine ⟨w3.trans (wipe_wipe σ vs), ?_⟩
      have l4 : σ3.length = σ.length := l3.trans wl
      refine Gd.step r3 σ.length l4 q5 hm fun F4 H4 b τ4 b' s4 r4 hb q6 => ?_
      cases hb
      cases b with
      | false =>
        rw [if_neg Bool.false_ne_true]
        exact ⟨F4, wipeE τ4 vs, acc, xs, Same.trans (Same.trans s' ex.ff) s4, r4.unwipeSt w3 l3, (hd'.up ex.ff).up s4, q6⟩
      | true =>
        rw [if_pos rfl]
        have q7 : Gd W0 XM (upd G L (.lst xs)) F4 σ.length ((ce τ4).bind fun q => if sized (acc.length + 1) = true then R.noexc (lcLoop vs g ct ce (ds.drop (i + 1)) (acc ++ [q.1]) (wipeE q.2 vs)) else .stuck) (post F4) := q6
        refine Gd.step r4 σ.length l4 q7 hm fun F5 H5 z τ5 v s5 r5 hz q8 => ?_
        by_cases hsz : sized (acc.length + 1) = true
        · simp only [hsz, if_true] at q8
          have hd5 : DpAll X.K F5 xs acc := ((hd'.up ex.ff).up s4).up s5
          refine ⟨xs, r5.z.gh _ _ upd_same, ?_, F5, wipeE τ5 vs, acc ++ [z], xs ++ [v], Same.trans (Same.trans (Same.trans s' ex.ff) s4) s5, (r5.lent).unwipeSt w3 l3, hd5.append (.cons hz .nil), gd q8 (nex _)⟩
          have := sized_line hsz
          rw [hd5.length]
          omega
        · simp only [hsz] at q8
          exact q8.elim
    · left
      have e : i = ds.length := by omega
      refine ⟨wk.stop F' H' i s' r'.z.fh (Same.trans (same_new gL) r'.z.gh) (by omega), ?_⟩
      rw [e, List.drop_length] at q'
      exact q' F' H' xs (Same.refl _) r' hd'
end
section
variable {K : PySem.W.Frag} {G F H : Hp} {σ : L2.St} {τ : Ev} {pa : List Addr}
theorem st_self {σ : L2.St} {i : Nat} {v : V} (h : σ[i]? = some (some v)) : σ.set i (some v) = σ := by
  apply List.ext_getElem?
  intro j
  by_cases hij : i = j
  · subst hij
    rw [List.getElem?_set_self (List.getElem?_eq_some_iff.mp h).1, h]
  · rw [List.getElem?_set_ne hij]
theorem walkG_enum {a : Addr} {xs : List V} {ds : List D} (hd : DpAll K F xs ds) : WalkG K (upd G a (.lst xs)) F (Ite K a) (enumD ds) where
  go := fun F' H' i d s s' sg e => by
    obtain ⟨dx, e1, rfl⟩ := enumD_get e
    obtain ⟨x, ex, hx⟩ := hd.get e1
    have ha : H' a = some (.lst xs) := sg _ _ upd_same
    refine ⟨⟨xs, x, SqL.of ha, ex⟩, fun v H2 yl => ?_⟩
    obtain ⟨T, x', rfl, hT, rfl, gx⟩ := yl
    have q1 := gx xs (SqL.of ha)
    rw [ex] at q1
    cases q1
    exact new_pair s' hT (.int _) (Dp.up hx s)
  stop := fun F' H' i s s' sg hi => by
    have hi := Nat.le_of_eq hi
    rw [enumD_len] at hi
    exact ⟨xs, SqL.of (sg _ _ upd_same), by rw [hd.length]; exact hi⟩
end
/-- a comprehension over enumerate of slot i's own list; slot i is not looked at in it -/
def lcEnumOwn (i : Nat) (vs : List Nat) (g : D → Ev → Option Ev) (ct : CT) (ce : CE) : CO := fun τ => match τ[i]? with
  | some (.own none (.lst ds)) => (R.noexc (lcLoop vs g ct ce (enumD ds) [] (wipeE (τ.set i .free) vs))).bind fun q => .ok (q.1, (wipeE q.2 vs).set i (.own none (.lst ds)))
  | _ => .stuck
section
variable {X : Cx} {W : WX} {XM : Nat → Value} {pa : List Addr} {ce : CE} {ct : CT}
theorem tLcEnum_of {i : Nat} {vs : List Nat} {g : D → Ev → Option Ev} {σ : L2.St} {H : Hp} {Q : VK} (q : tG X.K W XM pa (relO X.K) (lcEnumOwn i vs g ct ce) σ H Q) :
    tLc (iEnumA X.K (tCons (tVar i) tNil)) (tTg X.K pa vs g) (tG X.K W0 XM pa relB ct) (tG X.K W0 XM pa (relE X.K) ce) vs σ H Q := by
  obtain ⟨G, F, τ, r0, q⟩ := q
  unfold lcEnumOwn at q
  split at q
  · rename_i ds e1
    obtain ⟨a, ha, ⟨xs, hx, hd⟩, hf, hg, _⟩ := r0.ownL i none ds e1
    have li : i < τ.length := (List.getElem?_eq_some_iff.mp e1).1
    have r1 := (r0.drop i).lend hx hf (r0.noOwn_drop e1 ha)
    refine ⟨.ref a, ha, a, xs, rfl, .inl ⟨SqL.of hx, ?_⟩⟩
    refine lc_run (X := X) (W := W) r1 (walkG_enum hd) ?_
    revert q
    cases R.noexc (lcLoop vs g ct ce (enumD ds) [] (wipeE (τ.set i .free) vs)) with
    | exc e => exact fun q σ' F' H' l s z => q σ' F' H' l s (z.back hg)
    | stuck => exact fun q => q.elim
    | ok pq =>
      obtain ⟨es, τ'⟩ := pq
      intro q v F' H' s r' hv
      obtain ⟨r2, h2, h3, h4⟩ := r'.back hg
      have r3 := r2.setOwn (i := i) h2 (hd.up s) h3 hg h4
      rw [st_self ha] at r3
      obtain ⟨p, rfl, z⟩ := hv
      have ne : p ≠ a := fun e => by
        subst e
        have := z.hg
        rw [upd_same] at this
        cases this
      have hgp : G p = none := by have := z.hg; rwa [upd_ne ne] at this
      refine q (.ref p) F' H' s r3 ⟨p, rfl, z.at_, z.hf, hgp, fun j t c h e => ?_⟩
      rcases set_get h with ⟨rfl, _⟩ | ⟨_, h⟩
      · rw [ha] at e
        cases e
        exact ne rfl
      · exact z.no j t c h e
  · exact q.elim
variable {own : List (Str × Nat)} {vs : List Nat} {g : D → Ev → Option Ev} {elt : Expr} {ifs : List Expr} {scope : Scope} {pos pos2 tpos : Pos} {elts : List Expr} {kk : Nat}
/-- name = [.. for a, b in enumerate(x) ..] -/
theorem ss_lcEnumOwn (i k : Nat) {y x : Str} {p p1 py spos : Pos} (hc : X.calm = true) (hN : X.N.Nodup) (hge : Gl X "enumerate") (hme : X.mg "enumerate" = none) (hv : PE X (.Name x p1) (tVar k)) (ok : BlkOk X.N X.env.scope scope own) (ho : own.map (·.2) = vs)
    (hg : ∀ (s : Shared) (H : Hp) (C : Addr) (cl : List (Str × Addr)) (fp : List Addr), SG (X.blk s H scope (compEnvC scope cl C X.env) fp) pa (.Tuple elts kk tpos) vs g)
    (ht : ∀ (s : Shared) (H : Hp) (C : Addr) (cl : List (Str × Addr)) (fp : List Addr), STs (X.blk s H scope (compEnvC scope cl C X.env) fp) W0 XM pa ifs ct)
    (he : ∀ (s : Shared) (H : Hp) (C : Addr) (cl : List (Str × Addr)) (fp : List Addr), SE (X.blk s H scope (compEnvC scope cl C X.env) fp) W0 XM pa elt ce)
    (hsw : swapsWith (.ListComp elt [⟨.Tuple elts kk tpos, .Call (.Name "enumerate" p) [.Name x p1] [] pos2, ifs, 0⟩] scope pos) (some (.Name y py)) spos.line X.env = pure true) (hs2 : starEach [.Name x p1] X.env = [(false, eval (.Name x p1) X.env)] := by rfl) (hy : X.N[i]? = some y := by rfl) (hyl : X.env.scope.names.lookup y = some .local := by rfl) (hs : ∀ x', foldedSetIterable (.Call (.Name "enumerate" p) [.Name x p1] [] pos2) X.env x' = pure x' := by intro _; rfl) :
    SS X W XM pa (.Assign [.Name y py] (.ListComp elt [⟨.Tuple elts kk tpos, .Call (.Name "enumerate" p) [.Name x p1] [] pos2, ifs, 0⟩] scope pos) spos) (setS i (frzC (lcEnumOwn k vs g ct ce))) := by
  subst ho
  refine (ps_setLc hc hN hy hyl hsw (pi_enumA hge hme (pa_cons hv pa_nil hs2) hs2) ok hg ht he hs).imp fun E σ H q => tLcEnum_of (X := X) (W := W) ?_
  have q := tSet_of q
  obtain ⟨G, F, τ, r0, q⟩ := q
  refine At.step r0 q fun F1 H1 d1 τ1 x s1 r1 h1 q1 => ?_
  obtain ⟨p, rfl, ⟨xs, hx, hd⟩, hf, hg, no⟩ := h1
  obtain ⟨ff, r2⟩ := r1.settle hx hf hg no
  exact q1 _ _ _ ff r2 (.lst (SqL.of upd_same) (DpAll.up hd ff))
/-- isinstance(x, T), x a slot's own list -/
def isiOwn (T : String) (i : Nat) : CE := fun τ => match τ[i]? with
  | some (.own _ (.lst _)) => .ok (.bool (isT T (.list [])), τ)
  | _ => .stuck
theorem se_isiOwn (i : Nat) {T : String} {nT y : Str} {p p1 pT : Pos} (hk : KitT T) (hm : X.mg "isinstance" = none) (mT : X.mg nT = none) (vT : bootBuiltins nT = some (.type T)) (hv : PE X (.Name y p1) (tVar i)) (gT : Gl X nT := by rfl) (nT1 : nT ≠ "__name__" := by decide) (nT2 : (nT == ("__debug__" : Str)) = false := by decide)
    (hg : Gl X "isinstance" := by rfl) (hs : starEach ((.Name y p1) :: [.Name nT pT]) X.env = (false, eval (.Name y p1) X.env) :: starEach [.Name nT pT] X.env := by rfl)
    (hs2 : starEach (.Name nT pT :: []) X.env = (false, eval (.Name nT pT) X.env) :: starEach [] X.env := by rfl) (hpl : (backTo pos (starEach [.Name nT pT] X.env)).any (·.1) = false := by rfl) :
    SE X W XM pa (.Call (.Name "isinstance" p) [.Name y p1, .Name nT pT] [] pos) (isiOwn T i) := (pe_callB call_isi hg hm b_isinstance (pa_cons hv (pa_cons (pe_bltn (v := .ty T) gT mT vT rfl nT1 nT2) pa_nil hs2) hs) (by decide) (by decide) hs hpl).imp fun σ H Q q => by
  obtain ⟨G, F, τ, r0, q⟩ := q
  unfold isiOwn at q
  split at q
  · rename_i t ds e1
    obtain ⟨a, ha, ⟨xs, hx, hd⟩, hf, hg, _⟩ := r0.ownL i t ds e1
    exact ⟨.ref a, ha, .ref a, .ty T, _, .type T, isT T (.list []), rfl, .ty T, .base (.lst hx), kit_ty hk.2.2.2.2.1, q _ F H (Same.refl _) r0 (.bl _)⟩
  · exact q.elim
end
end Lin

/-! Lin21: a + b, two lists, as a new list. -/
namespace Lin
open PySem L2
def catL : D → D → Option (List D)
  | .list xs, .list ys => if sized (xs.length + ys.length) = true then some (xs ++ ys) else none
  | _, _ => none
@[simp] theorem catL_lst (xs ys : List D) : catL (.list xs) (.list ys) = if sized (xs.length + ys.length) = true then some (xs ++ ys) else none := rfl
@[simp] def catO (a b : CE) : CO := fun τ => (a τ).bind fun p => (b p.2).bind fun q => (R.ofOpt (catL p.1 q.1)).bind fun z => .ok (z, q.2)
section
variable {X : Cx} {W : WX} {XM : Nat → Value} {pa : List Addr} {pos : Pos} {a b : Expr} {ca cb : CE}
theorem so_cat (ha : SE X W XM pa a ca) (hb : SE X W XM pa b cb) : SO X W XM pa (.BinOp a .Add b pos) (catO ca cb) := (pe_op op_catL ha hb).imp fun σ H Q q => by
  obtain ⟨G, F, τ, r0, q⟩ := q
  refine At.step r0 q fun F1 H1 d1 τ1 x s1 r1 h1 q1 => At.step r1 q1 fun F2 H2 d2 τ2 y s2 r2 h2 q2 => ?_
  obtain ⟨z, e, q3⟩ := At.opt q2
  have h1' := Dp.up h1 s2
  cases d1 with
  | list xs =>
    cases d2 with
    | list ys =>
      rw [catL_lst] at e
      split at e
      · rename_i sz
        cases e
        cases h1' with
        | @lst p us _ g1 g2 =>
          cases h2 with
          | @lst p' us' _ g3 g4 =>
            refine ⟨p, p', us, us', rfl, rfl, same_sqL r2.z.fh g1, same_sqL r2.z.fh g3, by rw [g2.length, g4.length]; exact sized_line sz, fun l hl => ?_⟩
            obtain ⟨r3, lo⟩ := r2.looseC (o := .lst (us ++ us')) hl (.lst (g2.append g4))
            exact q3 _ F2 _ (Same.refl _) r3 ⟨l, rfl, ⟨_, upd_same, g2.append g4⟩, lo.hf, lo.hg, lo.no⟩
      · cases e
    | _ => cases e
  | _ => cases e
end
end Lin

/-! Lin22: while an error is handled: the ends of lists, tuples and zip. -/
namespace Lin
open PySem L2 PySem.Spec PyProof.Rows HotX
section
variable {prog : Program} {w : World} {A : Around} {E : Value → Shared → Prop} {s : Shared}
theorem HotAt.keep {x : Addr} {h h' : Heap} (t : HotAt A x h) (k : ∀ o, h.get? x = some o → h'.get? x = some o) : HotAt A x h' := by
  obtain ⟨t1, o, vs, t2, t3⟩ := t
  exact ⟨t1, o, vs, k _ t2, t3⟩
/-- a new StopIteration is raised; what stood stays -/
theorem stop_hot {α : Type} {x : Addr} {Q : α → Shared → Prop} (t : HotAt A x s.heap) (hE : ∀ h' e, (∀ b o, s.heap.get? b = some o → h'.get? b = some o) → (∃ o, h'.get? e = some o ∧ o.cls = .type "StopIteration") → E (.ref e) { s with heap := h' }) :
    wpAny (model prog w) A (do let e ← newExc (.type "StopIteration") []; (raiseNew e : Sem α)) Q E s := by
  refine wpAny_bind ?_
  simp only [newExc, newTuple]
  refine wpAny_bind (wpAny_newObj_type ?_ (by size_fits)); refine wpAny_bind (m := firstArgMember _ _) (wpAny_of_eq (a := Value.none) (by first | rfl | (simp only [firstArgMember]; rfl)) ?_); refine wpAny_newObj_type ?_ (by size_fits)
  obtain ⟨t1, ox, vx, q1, q2, q3⟩ := t
  have up : ∀ {b : Addr} {o o1 o2 : Obj}, s.heap.get? b = some o → ((s.heap.push o1).push o2).get? b = some o := fun q => Heap.get?_push_of_some _ (Heap.get?_push_of_some _ q)
  refine raiseNew_hot ⟨t1, ox, vx, up q1, q2, q3⟩ (Nat.ne_of_lt (Heap.lt_size (Heap.get?_push_of_some _ q1))) (Heap.get?_push_size _ rfl) rfl (by first | (simp; done) | (simp; omega)) (hE _ _ (fun b o q => ?_) ⟨_, Heap.get?_update_self _ (Heap.get?_push_size _ rfl) rfl, rfl⟩)
  rw [Heap.get?_update_other _ _ (Nat.ne_of_gt (Heap.lt_size (Heap.get?_push_of_some _ q)))]; exact up q
theorem nextOf_end {it l x : Addr} {i : Nat} {items : Array Value} {Q : Value → Shared → Prop} (t : HotAt A x s.heap) (ne : x ≠ it) (hit : s.heap.IsListIter it l i) (hl : s.heap.IsList l items) (hx : items[i]? = none)
    (hE : ∀ h' e, Heap.ExtBut it s.heap h' → (∃ o, h'.get? e = some o ∧ o.cls = .type "StopIteration") → E (.ref e) { s with heap := h' }) : wpAny (model prog w) A (Builtin.SmallTypes.nextOf (.ref it)) Q E s := by
  obtain ⟨o, ho, hc, hd⟩ := id hit
  obtain ⟨ol, hol, _, nl, hdl⟩ := hl
  unfold Builtin.SmallTypes.nextOf
  refine wpAny_bind (wpAny_callSpecial?_slot (name := Str.ofString "__next__") hit.typeIs slot_listiter_next (wpAny_call_entry slot_listiter_next hit.typeIs entry_listiter_next ?_ (args_listiter_next _)))
  show wpAny _ _ (field (.ref it) 0 >>= _) _ _ s
  refine wpAny_bind (wpAny_field ho hd (x := .ref l) rfl ?_); show wpAny _ _ (if (Value.ref l == Value.none) = true then _ else _) _ _ s
  rw [if_neg (show ¬ ((Value.ref l == Value.none) = true) by simp)]; show wpAny _ _ (field (.ref it) 1 >>= _) _ _ s
  refine wpAny_bind (wpAny_field ho hd (x := .int i 0) rfl ?_); show wpAny _ _ (seqItems? (.ref l) >>= _) _ _ s
  refine wpAny_bind (wpAny_seqItems hol hdl ?_); simp only [Int.toNat_natCast, hx]
  refine wpAny_bind (wpAny_rule (wpAny_bind (wpAny_setField ho hd (by simp) ?_)))
  exact stop_hot (HotAt.keep (A := A.in1) (h := s.heap) t fun o q => (Heap.get?_update_other _ _ (Ne.symm ne)).trans q) fun h' e k he => hE h' e (fun b o hb q => k b o ((Heap.get?_update_other _ _ (Ne.symm hb)).trans q)) he
theorem next_tup_end {it t x : Addr} {i : Nat} {items : Array Value} {Q : Option Value → Shared → Prop} (hot : HotAt A x s.heap) (ne : x ≠ it) (hit : IsTupIter s.heap it t i) (ht : IsTup s.heap t items) (hx : items[i]? = none)
    (hQ : ∀ h', Heap.ExtBut it s.heap h' → Q none { s with heap := h' }) : wpAny (model prog w) A (pyNext (.ref it)) Q E s := by
  obtain ⟨o, ho, hc, hd⟩ := id hit
  obtain ⟨ol, hol, _, nl, hdl⟩ := ht
  unfold pyNext
  refine wpAny_bind (wpAny_attempt (wpAny_callSpecial?_slot (name := Str.ofString "__next__") hit.typeIs slot_tupleiter_next (wpAny_call_entry slot_tupleiter_next hit.typeIs entry_tupleiter_next ?_ (args_tupleiter_next _))))
  show wpAny _ _ (field (.ref it) 0 >>= _) _ _ s
  refine wpAny_bind (wpAny_field ho hd (x := .ref t) rfl ?_); show wpAny _ _ (if (Value.ref t == Value.none) = true then _ else _) _ _ s
  rw [if_neg (show ¬ ((Value.ref t == Value.none) = true) by simp)]; show wpAny _ _ (field (.ref it) 1 >>= _) _ _ s
  refine wpAny_bind (wpAny_field ho hd (x := .int i 0) rfl ?_); show wpAny _ _ (seqItems? (.ref t) >>= _) _ _ s
  refine wpAny_bind (wpAny_seqItems hol hdl ?_); simp only [Int.toNat_natCast, hx]
  refine wpAny_bind (wpAny_rule (wpAny_bind (wpAny_setField ho hd (by simp) ?_)))
  refine stop_hot (HotAt.keep (A := A.in1) (h := s.heap) hot fun o q => (Heap.get?_update_other _ _ (Ne.symm ne)).trans q) fun h' e k he => ?_
  obtain ⟨o2, he, hc2⟩ := he
  exact wpAny_bind (wpAny_isInstance (T := "StopIteration") (b := true) ⟨o2, he, hc2⟩ isSubtype_stop (wpAny_pure (hQ _ fun b o hb q => k b o ((Heap.get?_update_other _ _ (Ne.symm hb)).trans q))))
theorem assign_tup {env : Env} {elts : List Expr} {kk : Nat} {pos : Pos} {t x : Addr} {items : Array Value} {Q : Unit → Shared → Prop} (hot : HotAt A x s.heap) (ht : IsTup s.heap t items) (hn : (assignEach elts env).length = items.size) (hstar : (assignEach elts env).findIdx? (·.1) = none)
    (h : ∀ h', Heap.ExtBut s.heap.objs.size s.heap h' → wpAny (model prog w) A (assignInOrder ((assignEach elts env).map (·.2)) items.toList) Q E { s with heap := h' }) : wpAny (model prog w) A (assign (.Tuple elts kk pos) env (.ref t)) Q E s := by
  have lt : ∀ {b : Addr} {o : Obj}, s.heap.get? b = some o → b ≠ s.heap.objs.size := fun q => Nat.ne_of_lt (Heap.lt_size q)
  obtain ⟨ot, hot1, _⟩ := id ht
  obtain ⟨_, ox, _, hx1, _⟩ := id hot
  rw [assign_Tuple]; refine wpAny_bind (wpAny_standAt ?_)
  unfold unpack
  rw [hn, hstar]
  refine wpAny_bind (wpAny_holding ?_)
  unfold unpackItems notIterableAtAll
  refine wpAny_bind (wpAny_bind (wpAny_specialOf ht.typeIs slot_tuple_iter.lookup (wpAny_pure ?_)))
  simp only [Bool.false_eq_true, if_false]
  refine wpAny_bind (wpAny_holding (iter_tuple ht (wpAny_bind (wpAny_holding (draw_tuple (lt hot1) items.size 0 _ _ ⟨_, Heap.get?_push_size _ rfl, rfl, rfl⟩ (ht.push _) (by omega) fun h₁ hit₁ hs₁ => ?_)))))
  rw [show List.take items.size (List.drop 0 items.toList) = items.toList by rw [List.drop_zero]; exact List.take_of_length_le (by simp), if_neg (by simp)]
  refine wpAny_bind (wpAny_holding (next_tup_end (HotAt.keep hot fun o q => hs₁.extBut _ o (lt hx1) (Heap.get?_push_of_some _ q)) (lt hx1) hit₁ ((ht.push _).extBut hs₁.extBut (lt hot1)) (by simp) fun h₂ he₂ => ?_))
  simp only [Option.isSome_none, Bool.false_eq_true, if_false]
  exact wpAny_pure (h h₂ fun b o hb q => he₂ b o hb (hs₁.extBut b o hb (Heap.get?_push_of_some _ q)))
end
theorem drawsHot {prog : Program} {w : World} {A : Around} (it l x : Addr) (hne : l ≠ it) (nx : x ≠ it) (items : Array Value) :
    Draws prog w A it [it, l, x] items.size (fun i v => items[i]? = some v) (fun i h => h.IsListIter it l i ∧ h.IsList l items ∧ HotAt A x h) where
  live := fun _ _ st => by
    obtain ⟨⟨o, ho, _⟩, _⟩ := st
    exact ⟨o, ho⟩
  frame := fun _ _ _ st k => ⟨st.1.at fun o e => k it (by simp) o e, st.2.1.at fun o e => k l (by simp) o e, HotAt.keep st.2.2 fun o e => k x (by simp) o e⟩
  item := fun i s Q E hi st hQ => wpAny_nextOf_list_item st.1 st.2.1 (x := items[i]) (by simp [hi]) fun h' a b => hQ _ h' s.toks (by simp [hi]) ⟨a, st.2.1.extBut b.extBut hne, HotAt.keep st.2.2 fun o e => b.extBut _ _ nx e⟩ b
  done := fun s Q E st hE => nextOf_end st.2.2 nx st.1 st.2.1 (by simp) hE
/-! ### contexts in which the error at x is handled -/
structure HotB (X : Cx) (x : Addr) : Prop where
  hd : X.A.handled = some (.ref x)
  ob : ∃ (o : Obj) (vs : Array Value), X.base.get? x = some o ∧ o.data = .fields vs ∧ vs[2]? = some .none
theorem HotB.at {X : Cx} {x : Addr} {pins : List (Addr × Obj)} {σ : L2.St} {H : Hp} {s : Shared} (c : HotB X x) (I : Inv X pins σ H s) : HotAt X.A x s.heap := by
  obtain ⟨o, vs, h1, h2⟩ := c.ob
  exact ⟨c.hd, o, vs, I.bk _ _ h1, h2⟩
theorem HotB.old {X : Cx} {x : Addr} {pins : List (Addr × Obj)} {σ : L2.St} {H : Hp} {s : Shared} (c : HotB X x) (I : Inv X pins σ H s) {b : Addr} (hb : FpOk X pins H b) (he : X.s_0.heap.objs.size ≤ b ∨ b ∈ X.ex) : x ≠ b := by
  obtain ⟨o, vs, h1, h2⟩ := c.ob
  rintro rfl
  rcases he with he | he
  · exact absurd (Nat.lt_of_lt_of_le (Heap.lt_size h1) (Nat.le_trans I.ok.bsz he)) (Nat.lt_irrefl _)
  · exact I.ok.noex _ _ h1 he
theorem pg_tupE {X : Cx} {x : Addr} {es : List Expr} {k : Nat} {t : TGs} {n : Nat} {pos : Pos} (hc : HotB X x) (h : PGs X es t) (hn : (assignEach es X.env).length = n := by rfl) (hst : (assignEach es X.env).findIdx? (·.1) = none := by rfl) : PG X (.Tuple es k pos) (gTup X.K n t) := by
  refine ⟨fun pins s σ H v u Q I r hw => ?_⟩
  obtain ⟨a, xs, e1, hq, hl, hw⟩ := hw
  subst e1
  cases r
  obtain ⟨its, rv, ht, hz⟩ := I.tuple hq
  exact assign_tup (hc.at I) ht (by simp [hn, ← hl, rv.length]) hst fun h' hx => h.run pins _ σ H xs _ Q (I.kept (t' := s.toks) fun b o e => hx b o (Nat.ne_of_lt (Heap.lt_size e)) e) (by simpa using rv) hw
end Lin

/-! Lin23: while an error is handled: zip of two lists walked, comprehensions. -/
namespace Lin
open PySem L2 PySem.Spec PyProof.Rows HotX
/-- an iterator that serves while the error at x is handled -/
structure TurnE (x : Addr) (P : Program) (w : World) (K : PySem.W.Frag) (tg : Expr) (J : It) (fp : List Addr) (it : Addr) (tn : Nat → Heap → Prop) : Prop where
  t : Turn P w K tg J fp it tn
  item : ∀ (X : Cx), X.prog = P → X.w = w → X.K = K → HotB X x → ∀ (i : Nat) (pins : List (Addr × Obj)) (s : Shared) (σ : L2.St) (H : Hp) (E : Value → Shared → Prop), Inv X pins σ H s → (∀ b ∈ fp, FpOk X pins H b) → tn i s.heap → J.go i H →
    wpAny (model P w) X.A (pyNext (.ref it)) (fun r s1 => ∃ u, r = some u ∧ wpAny (model P w) X.A (letOwnedTupleGo tg (.ref it) u) (fun _ s2 => ∃ y H', Inv X pins σ H' s2 ∧ RelV y u ∧ J.yld i H y H' ∧ tn (i + 1) s2.heap ∧ ∀ b ∈ fp, H' b = none) E s1) E s
  done : ∀ (X : Cx), X.prog = P → X.w = w → X.K = K → HotB X x → ∀ (i : Nat) (pins : List (Addr × Obj)) (s : Shared) (σ : L2.St) (H : Hp) (E : Value → Shared → Prop), Inv X pins σ H s → (∀ b ∈ fp, FpOk X pins H b) → tn i s.heap → J.stop i H →
    wpAny (model P w) X.A (pyNext (.ref it)) (fun r s1 => r = none ∧ Inv X pins σ H s1) E s
/-- zip of two lists of one length -/
def ItzE (K : PySem.W.Frag) (a b : Addr) : It := ⟨(Itz K a b).go, (Itz K a b).yld, fun i H => ∃ xs ys : List V, SqL K H a xs ∧ SqL K H b ys ∧ i = xs.length ∧ i = ys.length⟩
theorem in5 {c z TI TO i1 i2 : Addr} (h : c ∈ [z, TI, TO, i1, i2]) : c = z ∨ c = TI ∨ c = TO ∨ c = i1 ∨ c = i2 := by simpa using h
theorem turn_zipE {P : Program} {w : World} {K : PySem.W.Frag} {elts : List Expr} {kk : Nat} {tpos : Pos} {x a b z TI TO i1 i2 : Addr} (D : ZipApart z TI TO i1 i2 a b) (nx : x ∉ [z, TI, TO, i1, i2]) :
    TurnE x P w K (.Tuple elts kk tpos) (ItzE K a b) [z, TI, TO, i1, i2] z (fun i h => IsZip h z TI TO .none ∧ IsPair h TI (.ref i1) (.ref i2) ∧ (∃ x y, IsPair h TO x y) ∧ h.IsListIter i1 a i ∧ h.IsListIter i2 b i) where
  t := by
    have T := turn_zip (P := P) (w := w) (K := K) (elts := elts) (kk := kk) (tpos := tpos) D
    refine ⟨T.mem, T.obj, T.keep, T.item, fun X e1 e2 e3 hc i pins s σ H E I hf st hg => ?_, T.self⟩
    obtain ⟨xs, ys, q1, q2, rfl, _⟩ := hg
    exact T.done X e1 e2 e3 hc _ pins s σ H E I hf st ⟨xs, ys, q1, q2, .inl (Nat.le_refl _)⟩
  item := by
    intro X hP hw hK hc i pins s σ H E I hf st hg
    subst hP hw hK
    obtain ⟨hz, hTI, ⟨x0, y0, hTO⟩, h1, h2⟩ := st
    obtain ⟨xs, ys, y1, y2, hqx, hqy, hx, hy⟩ := hg
    obtain ⟨its, rv, p, _⟩ := I.list hqx
    obtain ⟨its2, rv2, p2, _⟩ := I.list hqy
    obtain ⟨u, hu, ru⟩ := rv.get hx
    obtain ⟨u2, hu2, ru2⟩ := rv2.get hy
    have lt : ∀ c ∈ [z, TI, TO, i1, i2], c < s.heap.objs.size := fun c hcm => by
      rcases in5 hcm with q | q | q | q | q <;> subst q
      · exact Heap.lt_size hz
      · exact Heap.lt_size hTI
      · exact Heap.lt_size hTO
      · obtain ⟨_, e, _⟩ := h1; exact Heap.lt_size e
      · obtain ⟨_, e, _⟩ := h2; exact Heap.lt_size e
    refine wpAny_pyNext_zip_item D hz hTI hTO h1 h2 p.isList p2.isList (x := u) (y := u2) (by simpa using hu) (by simpa using hu2) fun h' z1 TO1 k1 k2 hT hsz hk => ⟨_, rfl, wpAny_letOwnedTupleGo_zip (s := { s with heap := h' }) z1 fun h2' z2 sb => ?_⟩
    have hT2 : h2'.get? s.heap.objs.size = some { cls := .type "tuple", data := .seq #[u, u2] } := (sb.2 _ (Nat.ne_of_gt (lt z (by simp)))).trans hT
    have ok : ObjOk X.prog X.w (upd H s.heap.objs.size (.tup [y1, y2])) h2' s.heap.objs.size (.tup [y1, y2]) := ⟨by show 2 ≤ sizeLine; decide, [u, u2], .cons ru (.cons ru2 .nil), ⟨_, hT2, rfl, _, rfl⟩⟩
    have kp : ∀ c o, c ∉ [z, TI, TO, i1, i2] → s.heap.get? c = some o → h2'.get? c = some o := fun c o hb q => by
      simp only [List.mem_cons, List.not_mem_nil, or_false, not_or] at hb
      exact (sb.2 c hb.1).trans (hk c o hb.1 hb.2.2.1 hb.2.2.2.1 hb.2.2.2.2 q)
    have I1 := I.turnedNew (t' := s.toks) (ch := [z, TI, TO, i1, i2]) kp hf (Nat.le_refl _) ok
    refine ⟨.ref s.heap.objs.size, _, I1, rfl, ⟨_, y1, y2, rfl, I.hok.fresh (Nat.le_refl _), rfl, fun l hl => by rw [I.list_inj hl hqx]; exact hx, fun l hl => by rw [I.list_inj hl hqy]; exact hy⟩, ⟨z2, (sb.2 _ D.TIz).trans (hk _ _ D.TIz D.TITO D.TIi1 D.TIi2 hTI), ⟨u, u2, (sb.2 _ D.TOz).trans TO1⟩, k1.at fun o q => (sb.2 _ D.i1z).trans q, k2.at fun o q => (sb.2 _ D.i2z).trans q⟩, fun c hcm => ?_⟩
    rw [upd_ne (Nat.ne_of_lt (lt c hcm))]; exact (hf c hcm).1
  done := by
    intro X hP hw hK hc i pins s σ H E I hf st hg
    subst hP hw hK
    obtain ⟨hz, hTI, ⟨x0, y0, hTO⟩, h1, h2⟩ := st
    obtain ⟨xs, ys, hqx, hqy, n1, n2⟩ := hg
    obtain ⟨its, rv, p, _⟩ := I.list hqx
    obtain ⟨its2, rv2, p2, _⟩ := I.list hqy
    have l1 := rv.length
    have l2 := rv2.length
    have hot : HotAt X.A.in1 x s.heap := hc.at I
    simp only [List.mem_cons, List.not_mem_nil, or_false, not_or] at nx
    have S : ZipSep2 z TI TO i1 i2 [i1, a, x] [i2, b, x] := ⟨D.TIz, D.TOz, D.TITO, D.TIi1, by simp, by simp [D.i1z.symm, D.l1z.symm, Ne.symm nx.1], by simp [D.TOi1, D.l1TO.symm, Ne.symm nx.2.2.1], D.TIi2, by simp, by simp [D.i2z.symm, D.l2z.symm, Ne.symm nx.1], by simp [D.TOi2, D.l2TO.symm, Ne.symm nx.2.2.1], by simp [D.i12, D.l2i1.symm, Ne.symm nx.2.2.2.1], by simp [D.i12.symm, D.l1i2.symm, Ne.symm nx.2.2.2.2]⟩
    refine wpAny_pyNext_zipD2_end S (drawsHot i1 a x D.l1i1 nx.2.2.2.1 its.toArray) (drawsHot i2 b x D.l2i2 nx.2.2.2.2 its2.toArray) hz hTI hTO ⟨h1, p.isList, hot⟩ ⟨h2, p2.isList, hot⟩ (by simp; omega) (by simp; omega) (.inl (by simp; omega)) fun h' tk hk => ⟨rfl, I.turnedL (t' := tk) (ch := [z, TI, TO, i1, i2]) (fun c o hb q => ?_) hf⟩
    simp only [List.mem_cons, List.not_mem_nil, or_false, not_or] at hb
    exact hk c o hb.1 hb.2.2.1 hb.2.2.2.1 hb.2.2.2.2 q
/-- what is walked, while the error at x is handled -/
def PIEe (x : Addr) (X : Cx) (pins : List (Addr × Obj)) (σ : L2.St) (tg : Expr) (R : It → Hp → Prop) (itv : Value) (s2 : Shared) : Prop :=
  ∃ (it : Addr) (fp : List Addr) (tn : Nat → Heap → Prop) (J : It) (H' : Hp), itv = .ref it ∧ Inv X pins σ H' s2 ∧ TurnE x X.prog X.w X.K tg J fp it tn ∧ tn 0 s2.heap ∧ (∀ b ∈ fp, FpOk X pins H' b) ∧ R J H'
structure PIe (x : Addr) (X : Cx) (tg iter : Expr) (wi : TI) : Prop where
  run : ∀ (pins : List (Addr × Obj)) (s : Shared) (σ : L2.St) (H : Hp) (R : It → Hp → Prop), Inv X pins σ H s → wi σ H R → wpAny (model X.prog X.w) X.A (eval iter X.env) (fun v s1 => wpAny (model X.prog X.w) X.A (pyIter v) (PIEe x X pins σ tg R) X.xe s1) X.xe s
def iZipE (K : PySem.W.Frag) (ta : TA) : TI := fun σ H R => ta σ H fun vs H1 => ∃ a b xs ys, vs = [.ref a, .ref b] ∧ SqL K H1 a xs ∧ SqL K H1 b ys ∧ R (ItzE K a b) H1
theorem pi_zipE {X : Cx} {x : Addr} {e e2 : Expr} {ta : TA} {p pos tpos : Pos} {elts : List Expr} {kk : Nat} (hc : HotB X x) (hg : Gl X "zip") (hm : X.mg "zip" = none) (ha : PA X [e, e2] ta)
    (hs : starEach [e, e2] X.env = (false, eval e X.env) :: starEach [e2] X.env := by rfl) (hpl : (backTo pos (starEach [e2] X.env)).any (·.1) = false := by rfl) : PIe x X (.Tuple elts kk tpos) (.Call (.Name "zip" p) [e, e2] [] pos) (iZipE X.K ta) := by
  refine ⟨fun pins s σ H R I h => ?_⟩
  refine Call_ (ld_blt I hg hm PyProof.Rows.boot_zip (PyProof.Rows.callWith_type1 (thn (ha.run pos pins s σ H _ I h) fun us s1 hh => ?_) hs hpl))
  obtain ⟨vs, H1, I1, r1, a, b, xs, ys, ex, hqx, hqy, q⟩ := hh
  subst ex
  cases r1 with
  | cons ra rr =>
    cases rr with
    | cons rb rr =>
      cases rr
      cases ra
      cases rb
      have up : ∀ c, c ∈ [s1.heap.objs.size + 4, s1.heap.objs.size + 2, s1.heap.objs.size + 3, s1.heap.objs.size, s1.heap.objs.size + 1] → s1.heap.objs.size ≤ c := fun c h => by
        rcases in5 h with z | z | z | z | z <;> subst z <;> omega
      obtain ⟨o, _, hb1, _⟩ := hc.ob
      have nx : x ∉ [s1.heap.objs.size + 4, s1.heap.objs.size + 2, s1.heap.objs.size + 3, s1.heap.objs.size, s1.heap.objs.size + 1] := fun h => absurd (Nat.lt_of_lt_of_le (Heap.lt_size (I1.bk _ _ hb1)) (up x h)) (Nat.lt_irrefl _)
      obtain ⟨its, _, p1, _⟩ := I1.list hqx
      obtain ⟨its2, _, p2, _⟩ := I1.list hqy
      refine call_zip_2 p1.isList p2.isList fun h' hz hTI hTO h1 h2 hsz hk => wpAny_pyIter_zip hz ?_
      exact ⟨_, _, _, _, H1, rfl, I1.kept (t' := s1.toks) hk, turn_zipE (PySem.W.ktu_apart s1.heap.objs.size a b p1.lt p2.lt) nx, ⟨hz, hTI, ⟨_, _, hTO⟩, h1, h2⟩, fun c h => I1.fpOk (up c h) (I1.hok.fresh (up c h)), q⟩
theorem HotB.blk {X : Cx} {x : Addr} {s : Shared} {H : Hp} {scope : Scope} {cenv : Env} {fp : List Addr} (c : HotB X x) : HotB (X.blk s H scope cenv fp) x := ⟨c.hd, c.ob⟩
/-- a comprehension while the error at x is handled -/
theorem lc_hot {X : Cx} {x : Addr} {pins : List (Addr × Obj)} {s0 : Shared} {σ : L2.St} {H : Hp} {Q : VK} {elt tg iter : Expr} {ifs : List Expr} {scope : Scope} {own : List (Str × Nat)} {pos pos' : Pos} {wi : TI} {g : TG} {tt : TT} {te : TE} {use : Option (Value → Sem Unit)} {Qf : Value → Shared → Prop}
    (hc : HotB X x) (hN : X.N.Nodup) (I0 : Inv X pins σ H s0) (hi : PIe x X tg iter wi) (ok : BlkOk X.N X.env.scope scope own)
    (hg : ∀ (s : Shared) (H : Hp) (C : Addr) (cl : List (Str × Addr)) (fp : List Addr), HotB (X.blk s H scope (compEnvC scope cl C X.env) fp) x → PG (X.blk s H scope (compEnvC scope cl C X.env) fp) tg g)
    (ht : ∀ (s : Shared) (H : Hp) (C : Addr) (cl : List (Str × Addr)) (fp : List Addr), HotB (X.blk s H scope (compEnvC scope cl C X.env) fp) x → PTs (X.blk s H scope (compEnvC scope cl C X.env) fp) ifs tt)
    (he : ∀ (s : Shared) (H : Hp) (C : Addr) (cl : List (Str × Addr)) (fp : List Addr), HotB (X.blk s H scope (compEnvC scope cl C X.env) fp) x → PE (X.blk s H scope (compEnvC scope cl C X.env) fp) elt te) (hs : ∀ z, foldedSetIterable iter X.env z = pure z)
    (h : tLc wi g tt te (own.map (·.2)) σ H Q)
    (out : ∀ L C s' m H', Inv X pins σ H' s' → Q (.ref L) H' → s'.heap.Ns C m → FpOk X pins H' C → compPost (model X.prog X.w) X.A X.xe use Qf (.ref L) C (.ok .next) s') :
    wpAny (model X.prog X.w) X.A (comprehension (.ListComp elt [⟨tg, iter, ifs, 0⟩] scope pos) scope X.env pos' (newList []) false (eval iter X.env) use) Qf X.xe s0 := by
  have frees : ∀ y ∈ scope.names, y.2 = .free → ∃ c, X.env.cells.lookup y.1 = some c := fun y hy e => (ok.free y hy e).elim (fun k => I0.ok.has _ (.inl k)) fun k => I0.ok.has _ (.inr k)
  refine wpAny_comprehension_free (use := use) rfl hs (closure_ok frees) ok.kind (fun y hy e => by rw [ok.uniq y hy, e]) (thn (hi.run pins s0 σ H _ I0 h) fun xv sA hx => thn hx fun itv sB hB => ?_)
  obtain ⟨it, fp, tn, J, H2, e, IB, T, stB, fB, q⟩ := hB
  subst e
  refine wpAny_newObj_type (newEnv_comp ?_) (by show 0 ≤ sizeLine; decide)
  generalize hL : sB.heap.objs.size = L
  have fresh : H2 L = none := IB.hok.fresh (Nat.le_of_eq hL)
  obtain ⟨W, ⟨m0, w0⟩, turn⟩ := q L fresh
  generalize hsC : ({ sB with heap := sB.heap.push { cls := .type "list", data := .seq ([] : List Value).toArray } } : Shared) = sC
  have heapC : sC.heap = sB.heap.push { cls := .type "list", data := .seq ([] : List Value).toArray } := by rw [← hsC]
  have IC : Inv X pins σ (upd H2 L (.lst [])) sC := by
    rw [← hsC]; exact IB.laid (t' := sB.toks) (fun b o e => Heap.get?_push_of_some _ e) (Nat.le_of_eq hL) ⟨Nat.zero_le _, [], 0, .nil, by rw [← hL]; exact Heap.get?_push_size _ rfl⟩
  have below : ∀ b ∈ fp, b < sB.heap.objs.size := fun b hb => by
    obtain ⟨o, e, _⟩ := T.t.obj _ _ stB b hb; exact Heap.lt_size e
  have fC : ∀ b ∈ fp, FpOk X pins (upd H2 L (.lst [])) b ∧ b < sC.heap.objs.size := fun b hb =>
    ⟨⟨by rw [upd_ne (by rw [← hL]; exact Nat.ne_of_lt (below b hb))]; exact (fB b hb).1, (fB b hb).2⟩, by rw [heapC, Heap.size_push]; exact Nat.lt_succ_of_lt (below b hb)⟩
  have stC : tn 0 sC.heap := T.t.keep _ _ _ stB fun b _ o e => by rw [heapC]; exact Heap.get?_push_of_some _ e
  have ID := block_start IC ok hN fC
  have pg := hg sC (upd H2 L (.lst [])) sC.heap.objs.size (cellsFrom (sC.heap.objs.size + 1) scope.names (cloFrom X.env.cells scope.names [])) fp hc.blk
  have pt := ht sC (upd H2 L (.lst [])) sC.heap.objs.size (cellsFrom (sC.heap.objs.size + 1) scope.names (cloFrom X.env.cells scope.names [])) fp hc.blk
  have pe := he sC (upd H2 L (.lst [])) sC.heap.objs.size (cellsFrom (sC.heap.objs.size + 1) scope.names (cloFrom X.env.cells scope.names [])) fp hc.blk
  show codeAny _ _ (.compStart (.ListComp elt [⟨tg, iter, ifs, 0⟩] scope pos) 0 (.ref it) (.ref L) (compEnvC scope (cellsFrom (sC.heap.objs.size + 1) scope.names (cloFrom X.env.cells scope.names [])) sC.heap.objs.size X.env)) (compPost (model X.prog X.w) X.A X.xe use Qf (.ref L) sC.heap.objs.size) { sC with heap := pushCells (sC.heap.push { cls := .type "dict", data := .dict #[] }) scope.names }
  have nofp : ∀ b ∈ fp, (upd H2 L (.lst [])) b = none := fun b hb => (fC b hb).1.1
  have hb : ∀ ce : Env, HotB (X.blk sC (upd H2 L (.lst [])) scope ce fp) x := fun ce => hc.blk
  generalize hce : compEnvC scope (cellsFrom (sC.heap.objs.size + 1) scope.names (cloFrom X.env.cells scope.names [])) sC.heap.objs.size X.env = ce at ID pg pt pe ⊢
  have loc : ce.locals = sC.heap.objs.size := by subst hce; rfl
  generalize hH3 : upd H2 L (.lst []) = H3 at IC ID pg pt pe w0 nofp fC hb
  generalize hsD : ({ sC with heap := pushCells (sC.heap.push { cls := .type "dict", data := .dict #[] }) scope.names } : Shared) = sD at ID ⊢
  have stD : tn 0 sD.heap := T.t.keep _ _ _ stC fun b _ o e => by rw [← hsD]; exact pushCells_keeps _ _ _ _ (Heap.get?_push_of_some _ e)
  have good : ∀ {σ' : L2.St} {H' : Hp} {s' : Shared}, Inv (X.blk sC H3 scope ce fp) [] σ' H' s' → (∀ b ∈ fp, H' b = none) → ∀ b ∈ fp, FpOk (X.blk sC H3 scope ce fp) [] H' b := fun {σ' H' s'} I' hn b hb =>
    ⟨hn b hb, (I'.ok.exf b hb).1, I'.ok.exfs b hb, .inl hb, fun y c e => (I'.ok.exf b hb).2 y c e, fun p hp => nomatch (show p ∈ ([] : List (Addr × Obj)) from by simpa using hp)⟩
  have loop : codeAny (model X.prog X.w) X.A (.compLoop (.ListComp elt [⟨tg, iter, ifs, 0⟩] scope pos) 0 (.ref it) (.ref L) ce) (compPost (model X.prog X.w) X.A X.xe use Qf (.ref L) sC.heap.objs.size) sD := by
    refine compLoop_any (fun n z => ∃ i H', Inv (X.blk sC H3 scope ce fp) [] (wipe σ (own.map (·.2))) H' z ∧ tn i z.heap ∧ (∀ b ∈ fp, H' b = none) ∧ W i n H') ?_ m0 ⟨0, H3, ID, stD, nofp, w0⟩
    rintro n sE ⟨i, HE, IE, stE, nE, wE⟩
    rcases turn i n HE wE with ⟨stop, q1⟩ | ⟨go, Nx, hNx, step⟩
    · refine thnF (T.done (X.blk sC H3 scope ce fp) rfl rfl rfl (hb ce) i [] sE _ HE (fun _ _ => False) IE (good IE nE) stE stop) fun r sF ⟨hr, IF⟩ => ?_
      subst hr
      have IG : Inv X pins σ HE sF := IC.call' (ch := fp) IF.os IF.base IF.hok IF.bare fun b hb => ⟨(fC b hb).1.2.2.2.1, (fC b hb).1.2.1, (fC b hb).1.2.2.2.2.1, (fC b hb).1.2.2.2.2.2⟩
      have none_ : HE sC.heap.objs.size = none := by
        have z := IF.free
        rw [show (X.blk sC H3 scope ce fp).env.locals = ce.locals from rfl, loc] at z; exact z
      obtain ⟨m, hn, _⟩ := IF.loc
      rw [show (X.blk sC H3 scope ce fp).env.locals = ce.locals from rfl, loc] at hn
      exact out L sC.heap.objs.size sF m HE IG q1 hn (IC.fpOk (Nat.le_refl _) none_)
    · refine thnF (T.item (X.blk sC H3 scope ce fp) rfl rfl rfl (hb ce) i [] sE _ HE (fun _ _ => False) IE (good IE nE) stE go) fun r sF ⟨u, hr, hF⟩ => ?_
      subst hr
      refine thnF hF fun _ sG ⟨y, HG, IG, rG, yG, stG, nG⟩ => ?_
      have IG2 := IG.pinned (good IG nG) (T.t.obj _ _ stG)
      refine thnF (pg.run _ sG _ HG y u _ IG2 rG (step y HG yG)) fun _ sH ⟨σH, HH, IH, hwH, qH⟩ => thnF (pt.run _ sH σH HH _ IH qH) fun b sI ⟨HI, II, qI⟩ => ?_
      -- the turn's end
      have again : ∀ {s' : Shared} {H' : Hp}, Inv (X.blk sC H3 scope ce fp) ([] ++ pinsAt fp sG.heap) σH H' s' → Nx H' → ∃ m, m < n ∧ ∃ i H', Inv (X.blk sC H3 scope ce fp) [] (wipe σ (own.map (·.2))) H' s' ∧ tn i s'.heap ∧ (∀ b ∈ fp, H' b = none) ∧ W i m H' := fun {s' H'} I' nx => by
        obtain ⟨m', hm, w'⟩ := hNx H' nx
        have kept : ∀ b ∈ fp, ∀ o, sG.heap.get? b = some o → s'.heap.get? b = some o ∧ H' b = none := fun b hb o e => by
          have z := I'.pin (b, o) (List.mem_append_right _ (List.mem_append_right _ (mem_pinsAt hb e))); exact ⟨z.1, z.2.1⟩
        refine ⟨m', hm, i + 1, H', (I'.unpinned (pins := [])).weak (by rw [← hwH, wipe_length]) (fun j v e => by rw [← hwH] at e; exact (wipe_some e).1), T.t.keep _ _ _ stG fun b hb o e => (kept b hb o e).1, fun b hb => ?_, w'⟩
        obtain ⟨o, e, _⟩ := T.t.obj _ _ stG b hb; exact (kept b hb o e).2
      cases b with
      | false =>
        simp only [Bool.false_eq_true, if_false] at qI ⊢; exact again II qI
      | true =>
        simp only [if_true] at qI ⊢
        exact thnF (pe.run _ sI σH HI _ II qI) fun z sJ ⟨yv, HJ, IJ, rJ, acc, hL2, hz, nx⟩ => app_ok (X := X.blk sC H3 scope ce fp) IJ hL2 hz rJ fun sK IK => again IK nx
  exact codeAny_compStart_list loop (T.t.self X.A 0 _ _ _ stD loop)
/-- name = [..], while the error at x is handled -/
theorem ps_setLcE {X : Cx} {x : Addr} {i : Nat} {y : Str} {py : Pos} {elt tg iter : Expr} {ifs : List Expr} {scope : Scope} {own : List (Str × Nat)} {pos spos : Pos} {wi : TI} {g : TG} {tt : TT} {te : TE} (hc : HotB X x) (hN : X.N.Nodup) (hy : X.N[i]? = some y) (hyl : X.env.scope.names.lookup y = some .local)
    (hsw : swapsWith (.ListComp elt [⟨tg, iter, ifs, 0⟩] scope pos) (some (.Name y py)) spos.line X.env = pure true) (hi : PIe x X tg iter wi) (ok : BlkOk X.N X.env.scope scope own)
    (hg : ∀ (s : Shared) (H : Hp) (C : Addr) (cl : List (Str × Addr)) (fp : List Addr), HotB (X.blk s H scope (compEnvC scope cl C X.env) fp) x → PG (X.blk s H scope (compEnvC scope cl C X.env) fp) tg g)
    (ht : ∀ (s : Shared) (H : Hp) (C : Addr) (cl : List (Str × Addr)) (fp : List Addr), HotB (X.blk s H scope (compEnvC scope cl C X.env) fp) x → PTs (X.blk s H scope (compEnvC scope cl C X.env) fp) ifs tt)
    (he : ∀ (s : Shared) (H : Hp) (C : Addr) (cl : List (Str × Addr)) (fp : List Addr), HotB (X.blk s H scope (compEnvC scope cl C X.env) fp) x → PE (X.blk s H scope (compEnvC scope cl C X.env) fp) elt te) (hs : ∀ z, foldedSetIterable iter X.env z = pure z := by intro _; rfl) :
    PS X (.Assign [.Name y py] (.ListComp elt [⟨tg, iter, ifs, 0⟩] scope pos) spos) (tAsg (tLc wi g tt te (own.map (·.2))) (gName i)) := by
  refine ⟨fun pins s σ H D I h => ?_⟩
  rw [exec_Assign_Name_used _ _ _ _ hsw]; refine wpAny_bind (wpAny_standAt (wpAny_bind ?_))
  show wpAny _ X.A (do let _ ← comprehension (.ListComp elt [⟨tg, iter, ifs, 0⟩] scope pos) scope X.env (firstIterPos [⟨tg, iter, ifs, 0⟩] pos) (newList []) false (eval iter X.env) (some (assign (.Name y py) X.env)); _) _ _ s
  have h2 : tLc wi g tt te (own.map (·.2)) σ H (fun v H1 => gName i v σ H1 D.nx) := h
  refine wpAny_bind (thn (lc_hot (Qf := fun _ z => L2.SP X pins D .next z) hc hN I hi ok hg ht he hs h2 fun L C s' m H' I' q hn f => ?_) fun _ s' hq => wpAny_pure (wpAny_pure hq))
  show wpAny _ _ (assign (.Name y py) X.env (.ref L)) _ _ _
  obtain ⟨f0, f1, f2, f3, f4, f5⟩ := f
  refine wpAny_assign_Name (store_ok2 (v := V.ref L) I' hN hy (.inl hyl) rfl (fun s2 I2 ⟨a, sb, ha⟩ => ⟨m, hn.sameBut sb ?_, fun h3 sb3 => ⟨_, H', I2.turned (t' := s2.toks) (fun b o hb e => (sb3.2 b hb).trans e) f0 f1 f3 f4 f5, q⟩⟩) (.inr hyl))
  rcases ha with z | z
  · rw [z]; exact f1
  · exact fun e => f4 y a z e.symm
end Lin

/-! Lin24: try: .. except X as e: return f(e). -/
namespace Lin
open PySem L2 PySem.Spec PyProof.Rows HotX
/-- a def's promise where the error at x is handled -/
structure FnE (P : Program) (w : World) (K : PySem.W.Frag) (mg : Str → Option Value) (base : Heap) (CX : CXT) (k : Nat) (x f : Addr) (fd : FuncData) (ps : List Str) (sp : Sp) : Prop where
  len : ∀ vs H Q E, sp vs H Q E → vs.length = ps.length
  run : ∀ (A : Around) (outer : List Env) (s : Shared) (H : Hp) (args : Args) (us : List Value) (vs : List V) (Q : VK) (E : XK), L2H.RoomH k A → A.handled = some (.ref x) → Env0 P w K mg base A outer s H → BindsTo s fd args (ps.zip us) → Vals vs us → sp vs H Q E →
    codeAny (model P w) A (.call (.ref f) args) (CR CX outer P w H s Q E) s
/-- the context of such a def's body -/
abbrev bodyE (CX : CXT) (P : Program) (w : World) (K : PySem.W.Frag) (mg : Str → Option Value) (base : Heap) (N : List Str) (x : Str) (scope : Scope) (f : Addr) (cd : Value) (A : Around) (outer : List Env) (s : Shared) (H : Hp) (E : XK) (p : Addr × Obj) : Cx := L2H.cxH CX P w K mg base N x scope f cd A outer s H E p
theorem fn_E {CX : CXT} {P : Program} {w : World} {K : PySem.W.Frag} {mg : Str → Option Value} {base : Heap} {k : Nat} {x f : Addr} {nm qual : Str} {st : Stmt} {fd : FuncData} {N ps : List Str} {sp : Sp} {ox : Obj} {ws : Array Value} (ho : base.get? x = some ox) (hd : ox.data = .fields ws) (hw : ws[2]? = some .none)
    (F : Fun K nm qual st f fd) (S : FnScope N ps (defScope st)) (len : ∀ vs H Q E, sp vs H Q E → vs.length = ps.length)
    (hb : ∀ (cdv : Value) (A : Around) (outer : List Env) (s : Shared) (H : Hp) (vs : List V) (Q : VK) (E : XK), HotB (bodyE CX P w K mg base N qual (defScope st) f cdv A outer s H E (x, ox)) x → L2H.RoomH k (A.deeper (envOfC qual (defScope st) s.heap.objs.size f cdv)) → sp vs H Q E →
      ∃ t, PSs (bodyE CX P w K mg base N qual (defScope st) f cdv A outer s H E (x, ox)) (defBody st) t ∧ t { nx := fun _ H' => Q .non H', rt := Q } (L2.start N vs) H) :
    FnE P w K mg base CX (k + 1) x f fd ps sp := by
  obtain ⟨oc, od, kV, doc, pm, an, cdv, ct, osl, e, lk, hcd⟩ := F.ex
  subst e
  refine ⟨len, fun A outer s H args us vs Q E hr hh e0 bt r hsp => ?_⟩
  have KX : K.In s.heap := e0.mod.kin.keeps fun b o e => (e0.bs b o e).1
  have kinds : ∀ y ∈ ps.zip us, (defScope st).names.lookup y.1 = some .local ∨ ((defScope st).names.lookup y.1 = some .cell ∧ ((cellsFrom (s.heap.objs.size + 1) (defScope st).names []).lookup y.1).isSome = true) := fun ⟨n, v⟩ hy => (S.par n (List.of_mem_zip hy).1).imp id fun q => ⟨q, PySem.W.cellsFrom_some _ _ _ (.inl q)⟩
  refine codeAny_call_function hr.depth (KX _ _ lk) rfl S.co S.gen rfl (PySem.W.codeRec_of KX hcd) (bt _ _ _ _ (wpAny_newFunctionEnv_cells S.kind kinds fun env he s1 y => ?_))
  subst he
  refine ⟨(e0.mod.nolimit.keeps fun b o e => (e0.bs b o e).1).keeps y.toInCall.keep, codeAny_func ?_⟩
  have hot : HotB (bodyE CX P w K mg base N qual (defScope st) f cdv A outer s H E (x, ox)) x := ⟨hh, ox, ws, ho, hd, hw⟩
  obtain ⟨t, ht, hq⟩ := hb cdv A outer s H vs Q E hot (hr.deeper _) hsp
  have pin : L2H.PinOk outer H s (x, ox) := ⟨(e0.bs x ox ho).1, (e0.bs x ox ho).2, fun hm => (by
    have z := (e0.funs.mem hm).1
    rw [ho] at z
    exact nomatch z), fun v z => (by
    rw [show ox.data = .cell v from z] at hd
    exact nomatch hd)⟩
  have I : Inv (bodyE CX P w K mg base N qual (defScope st) f cdv A outer s H E (x, ox)) [] (L2.start N vs) H s1 := L2H.inv_startH S pin e0 (len _ _ _ _ hsp) r y
  refine wpAny_mono (ht.run [] s1 (L2.start N vs) H _ I hq) (fun fl s' hs => ?_) fun e s' hs => hs
  have fin : ∀ {σ' : L2.St} {H' : Hp} {v : V} {u : Value}, Inv (bodyE CX P w K mg base N qual (defScope st) f cdv A outer s H E (x, ox)) [] σ' H' s' → RelV v u → Q v H' → L2.CE outer P w H s Q u s' := fun {σ' H' v u} J rv q => ⟨v, H', J.os, J.bare, J.base, J.hok, rv, q⟩
  cases fl with
  | ret u => obtain ⟨v, σ', H', J, rv, q⟩ := hs; exact fin J rv q
  | next => obtain ⟨σ', H', J, q⟩ := hs; exact fin (v := V.non) (u := Value.none) J rfl q
  | brk => obtain ⟨_, _, _, q⟩ := hs; exact q.elim
  | cont => obtain ⟨_, _, _, q⟩ := hs; exact q.elim
/-- h where p holds -/
def sieve (h : Heap) (p : Addr → Bool) : Heap := PySem.W.hideAll h ((List.range h.objs.size).filter fun b => !p b)
theorem sieve_yes {h : Heap} {p : Addr → Bool} {b : Addr} {o : Obj} (e : h.get? b = some o) (hp : p b = true) : (sieve h p).get? b = some o := PySem.W.hideAll_get _ e fun hm => by
  have z := (List.mem_filter.mp hm).2
  simp [hp] at z
theorem sieve_of {h : Heap} {p : Addr → Bool} {b : Addr} {o : Obj} (e : (sieve h p).get? b = some o) : h.get? b = some o ∧ p b = true := by
  have e1 := PySem.W.of_hideAll _ e
  refine ⟨e1, ?_⟩
  cases q : p b with
  | true => rfl
  | false =>
    have z : (sieve h p).get? b = none := PySem.W.hideAll_none _ (List.mem_filter.mpr ⟨List.mem_range.mpr (Heap.lt_size e1), by simp [q]⟩)
    rw [e] at z; cases z
/-- f(n) in an except suite, n the error -/
theorem pe_nameE {X : Cx} {a f : Addr} {oe : Obj} {pn : List (Addr × Obj)} {CX : CXT} {k i : Nat} {fd : FuncData} {x n q : Str} {sp : Sp} {p p2 pos : Pos} (hoe : ∃ vs : Array Value, oe.data = .fields vs)
    (F : ∀ base : Heap, X.K.In base → base.Ns mainGlobals X.mg → base.get? a = some oe → FnE X.prog X.w X.K X.mg base CX k a f fd [q] sp) (hr : L2H.RoomH k X.A) (hg : Gl X x) (hm : X.mg x = some (.ref f)) (hk : PySem.W.keepIn X.K (.ref f) = true) (hb : Binds X.K fd [q] [])
    (hn : PE (X.suite a ((a, oe) :: pn)) (.Name n p2) (tVar i)) (hE : ∀ (outer : List Env) (H : Hp) (s s' : Shared) (e : Value), ¬ CX outer H s (fun _ _ _ => False) e s') (hdb : (x == ("__debug__" : Str)) = false := by decide)
    (he : starEach [.Name n p2] X.env = [(false, eval (.Name n p2) X.env)] := by rfl) : PE (X.suite a ((a, oe) :: pn)) (.Call (.Name x p) [.Name n p2] [] pos) (fun σ H Q => σ[i]? = some (some (.ref a)) ∧ sp [.ref a] H Q fun _ _ _ => False) := by
  refine ⟨fun pins s σ H Q I h => ?_⟩
  obtain ⟨h1, h2⟩ := h
  refine wpAny_Call_Name_kw (ld_glob I hg hm ?_ hdb)
  have hA : PA (X.suite a ((a, oe) :: pn)) [.Name n p2] (tCons (tVar i) tNil) := pa_cons hn pa_nil
  refine PySem.W.callWith_K (h₀ := X.base) I.ok.mod.kin hk (thn (hA.run pos pins s σ H (fun vs H1 => vs = [.ref a] ∧ H = H1) I ⟨_, h1, rfl, rfl⟩) fun us s1 hh => ?_) he rfl
  obtain ⟨vs, H1, I1, r1, ev, eH⟩ := hh
  subst ev eH
  refine ⟨I1.kIn, ?_⟩
  obtain ⟨pa, na, nL, nF, _⟩ := I1.pin (a, oe) (List.mem_append_left _ List.mem_cons_self)
  have E0 := I1.env0
  have kp : ∀ b o, X.base.get? b = some o → (sieve s1.heap fun b => (X.base.get? b).isSome || decide (b = a)).get? b = some o := fun b o e => sieve_yes (I1.bk _ _ e) (by simp [e])
  have ha : (sieve s1.heap fun b => (X.base.get? b).isSome || decide (b = a)).get? a = some oe := sieve_yes pa (by simp)
  have fr : ∀ L ∈ frs X.stack, (sieve s1.heap fun b => (X.base.get? b).isSome || decide (b = a)).get? L = none := fun L hL => by
    cases e : (sieve s1.heap fun b => (X.base.get? b).isSome || decide (b = a)).get? L with
    | none => rfl
    | some o =>
      obtain ⟨_, z⟩ := sieve_of e
      simp only [Bool.or_eq_true, decide_eq_true_eq] at z
      rcases z with z | z
      · have z2 := (E0.funs.mem hL).1
        rw [show (X.suite a ((a, oe) :: pn)).base = X.base from rfl] at z2
        rw [z2] at z; cases z
      · subst z
        rcases List.mem_cons.mp (I1.stkSub _ hL) with z | z
        · exact absurd z nL
        · exact absurd z nF
  have mod2 : Mod X.K X.mg (sieve s1.heap fun b => (X.base.get? b).isSome || decide (b = a)) := by
    obtain ⟨m1, m2, ⟨mb, m3, m4⟩, m5⟩ := E0.mod
    exact ⟨m1.keeps kp, m2.keeps kp, ⟨mb, m3.keeps kp, m4⟩, m5.keeps kp⟩
  have E2 : Env0 X.prog X.w X.K X.mg (sieve s1.heap fun b => (X.base.get? b).isSome || decide (b = a)) (X.suite a ((a, oe) :: pn)).A X.stack s1 H := by
    refine ⟨E0.frames, mod2, fun b o e => ?_, ?_, funFrames_none E0.funs fr, E0.frf, E0.hok, E0.bare⟩
    · obtain ⟨e1, z⟩ := sieve_of e
      refine ⟨e1, ?_⟩
      simp only [Bool.or_eq_true, decide_eq_true_eq] at z
      rcases z with z | z
      · obtain ⟨o2, z⟩ := Option.isSome_iff_exists.mp z
        exact (I1.bs _ _ z).2
      · subst z; exact na
    · show (PySem.W.hideAll s1.heap _).objs.size ≤ _
      rw [PySem.W.hideAll_size]; exact Nat.le_refl _
  have FE := F _ mod2.kin mod2.glob ha
  have b := hb s1 us I1.kIn (by rw [List.append_nil, ← r1.length]; rfl)
  rw [List.append_nil] at b
  refine wpAny_call (codeAny_mono (FE.run (X.suite a ((a, oe) :: pn)).A X.stack s1 H ⟨us, []⟩ us [.ref a] Q (fun _ _ _ => False) ⟨hr.dp, hr.un⟩ rfl E2 b r1 h2) fun r s' hq => ?_)
  cases r with
  | error e => exact (hE _ _ _ _ _ hq).elim
  | ok fl =>
    cases fl with
    | ret u => exact I1.after hq
    | next => exact hq.elim
    | brk => exact hq.elim
    | cont => exact hq.elim
/-- the error at x comes in, its word goes out -/
def spE (x : Addr) (w : Str) : Sp := fun vs H Q _ => vs = [.ref x] ∧ ∀ H', Same H H' → Q (.str w) H'
/-- a def that tells an error's word; nm: the words by the classes' numbers -/
structure HasE (C : Ctx) (x : Str) (k : Nat) (nm : Nat → Option Str) : Prop where
  ex : ∃ (f : Addr) (fd : FuncData) (q : Str), C.mg x = some (.ref f) ∧ PySem.W.keepIn C.K (.ref f) = true ∧ Binds C.K fd [q] [] ∧ ∀ (n : Nat) (w : Str) (a : Addr) (oe : Obj) (base : Heap), nm n = some w → C.K.In base → base.Ns mainGlobals C.mg → base.get? a = some oe → L2N.Zn (C.XM n) none oe → (∃ vs : Array Value, oe.data = .fields vs) →
    FnE C.P C.w C.K C.mg base (L2N.CX C.P C.w) k a f fd [q] (spE a w)
/-- the class that the clause names takes all of these errors -/
def Caught (C : Ctx) (x : Str) (nm : Nat → Option Str) : Prop := ∃ a, C.mg x = some (.ref a) ∧ ∀ n w, nm n = some w → PySem.W.exmOne C.K (C.XM n) (.ref a) = some true
@[simp] def tryErrS (i : Nat) (nm : Nat → Option Str) (b : CS) : CS := fun τ => match b τ with
  | .exc e => (match nm e with
    | some w => if i < τ.length then .ok (.ret (.str w), List.replicate τ.length .free) else .stuck
    | none => .stuck)
  | .ok p => .ok p
  | .stuck => .stuck
theorem rp_free {K : PySem.W.Frag} {pa : List Addr} {G F H : Hp} {σ : L2.St} (z : Rp0 G F H) : Rp K pa G F H σ (List.replicate σ.length .free) := by
  have no : ∀ {i : Nat} {s : Lin.Slot}, (List.replicate σ.length (Slot.free : Lin.Slot))[i]? = some s → s = .free := fun {i s} h => by
    rw [List.getElem?_replicate] at h
    split at h
    · exact (Option.some.inj h).symm
    · cases h
  exact ⟨z, by simp, fun i d h => (nomatch no h), fun i t c h => (nomatch no h), fun i j t c u e a h => (nomatch no h)⟩
theorem tTry_of {K : PySem.W.Frag} {W : WX} {XM : Nat → Value} {pa : List Addr} {i : Nat} {nm : Nat → Option Str} {cb : CS} {c : Value} {E : Ends} {σ : L2.St} {H : Hp} (hx : ∀ n w, nm n = some w → PySem.W.exmOne K (XM n) c = some true) (q : tS K W XM pa (tryErrS i nm cb) E σ H) :
    tS K (wAs K c i (fun a cls d D σ H => σ[i]? = some (some (.ref a)) ∧ ∃ n w, nm n = some w ∧ cls = XM n ∧ d = none ∧ ∀ H', Same H H' → D.rt (.str w) H') W E) XM pa cb E σ H := by
  obtain ⟨G, F, τ, r, q⟩ := q
  refine ⟨G, F, τ, r, ?_⟩
  unfold AtS at q ⊢
  unfold tryErrS at q
  cases e : cb τ with
  | ok p => rw [e] at q; exact q
  | stuck => rw [e] at q; exact q.elim
  | exc n =>
    rw [e] at q
    simp only at q
    cases hn : nm n with
    | none => rw [hn] at q; exact q.elim
    | some w =>
      rw [hn] at q
      by_cases hi : i < τ.length
      · simp only [hi, if_true] at q
        intro σ' F' H' l s z
        refine ⟨true, hx n w hn, fun _ a na => ⟨List.getElem?_set_self (by rw [l, r.len]; exact hi), n, w, hn, rfl, rfl, fun H2 s2 => ?_⟩, fun h => nomatch h⟩
        have z2 : Rp0 G F' H2 := ⟨Same.trans z.fh s2, Same.trans z.gh s2, z.fg⟩
        have r2 := rp_free (K := K) (pa := pa) (σ := σ') z2
        rw [l, r.len] at r2
        exact q (.str w) σ' F' H2 l s r2 (.str w)
      · simp only [hi, if_false] at q; exact q.elim
theorem ss_tryE {X : Cx} {W : WX} {C : Ctx} {pa : List Addr} {k : Nat} {body : List Stmt} {cb : CS} {xb n f : Str} {np p p2 pc pr pos pos' : Pos} {nm : Nat → Option Str} (i : Nat) (hE : HasE C f k nm) (hC : Caught C xb nm) (ic : In C X) (tk : L2N.Takes X W) (hr : Room k X.A) (hN : X.N.Nodup)
    (hb : ∀ (W : WX) (pn : List (Addr × Obj)) (xe : Value → Shared → Prop), L2N.Takes (X.tr pn xe) W → PassesOwn (model X.prog X.w) X.A X.env xe → SSs (X.tr pn xe) W C.XM pa body cb) (hv : ∀ (a : Addr) (pn : List (Addr × Obj)), PE (X.suite a pn) (.Name n p2) (tVar i))
    (hi : X.N[i]? = some n := by rfl) (hln : X.env.kindOf n = some .local := by rfl) (hg : Gl X xb := by rfl) (hgf : Gl X f := by rfl) (hs : X.stack = X.env :: X.outer := by rfl) (hf : X.env.frame = some X.env.locals := by rfl) (hdb : (xb == ("__debug__" : Str)) = false := by decide) (hdf : (f == ("__debug__" : Str)) = false := by decide)
    (he : starEach [.Name n p2] X.env = [(false, eval (.Name n p2) X.env)] := by rfl) :
    SS X W C.XM pa (.Try body [.ExceptHandler (some (.Name xb np)) (some n) [.Return (some (.Call (.Name f p) [.Name n p2] [] pc)) pr] pos'] [] [] pos) (tryErrS i nm cb) := by
  obtain ⟨fa, fd, q, m, kp, bd, FE⟩ := hE.ex
  obtain ⟨ca, mc, hx⟩ := hC
  obtain ⟨e1, e2, e3, e4, e5⟩ := ic
  obtain ⟨P, w, K, mg, base, XM⟩ := C
  simp only at e1 e2 e3 e4 e5 hx FE m kp bd mc
  subst e1 e2 e3 e4 e5
  refine (L2N.ps_try_as (tb := fun W => tS X.K W XM pa cb) (ts := fun a cls d D σ H => σ[i]? = some (some (.ref a)) ∧ ∃ n w, nm n = some w ∧ cls = XM n ∧ d = none ∧ ∀ H', Same H H' → D.rt (.str w) H') hs hf hN hi hln ⟨hg, hdb, .inl mc⟩ tk hb fun a oe cls d pn hz hd => ?_).imp fun E σ H h => tTry_of hx h
  refine ⟨fun pins s σ H D I h => ?_⟩
  obtain ⟨h1, n', w', hn, rfl, rfl, hq⟩ := h
  have PX := pe_nameE (X := X) (pn := pn) (CX := L2N.CX X.prog X.w) (sp := spE a w') (pos := pc) (p := p) hd (fun base k1 k2 k3 => FE n' w' a oe base hn k1 k2 k3 hz hd) ⟨hr.dp, hr.un⟩ hgf m kp bd (hv a _) (fun outer H s s' e z => by
    obtain ⟨_, _, _, _, _, _, _, _, _, _, _, _, z⟩ := z
    exact z) hdf he
  exact (pss_one (ps_ret PX)).run pins s σ H D I ⟨h1, rfl, hq⟩
end Lin

/-! Lin25: a def that tells an error's word: isinstance of the error, split, a comprehension over zip. -/
namespace Lin
open PySem L2 PySem.Spec PyProof.Rows HotX
section
variable {X : Cx} {W : WX} {XM : Nat → Value} {pa : List Addr} {pos : Pos}
def relIE (K : PySem.W.Frag) : Rel (List D) It := fun G F _ _ _ J ds => WalkG K G F J ds
theorem PIe.imp {x : Addr} {tg iter : Expr} {t t' : TI} (h : PIe x X tg iter t) (i : ∀ σ H Q, t' σ H Q → t σ H Q) : PIe x X tg iter t' := ⟨fun pins s σ H R I q => h.run pins s σ H R I (i σ H R q)⟩
abbrev SIe (x : Addr) (X : Cx) (W : WX) (XM : Nat → Value) (pa : List Addr) (tg iter : Expr) (c : CA) : Prop := PIe x X tg iter (tG X.K W XM pa (relIE X.K) c)
def zip2E : List D → Option (List D)
  | [.list a, .list b] => if a.length = b.length then some (zipD a b) else none
  | _ => none
@[simp] theorem zip2E_lst (a b : List D) : zip2E [.list a, .list b] = if a.length = b.length then some (zipD a b) else none := rfl
theorem zip2E_some {ds z : List D} (h : zip2E ds = some z) : ∃ a b, ds = [.list a, .list b] ∧ a.length = b.length ∧ z = zipD a b := by
  unfold zip2E at h
  split at h
  · split at h
    · rename_i e
      exact ⟨_, _, rfl, e, (Option.some.inj h).symm⟩
    · cases h
  · cases h
@[simp] def zipIE (c : CA) : CA := fun τ => (c τ).bind fun p => (R.ofOpt (zip2E p.1)).bind fun ds => .ok (ds, p.2)
theorem walk_zipE {K : PySem.W.Frag} {G F : Hp} {a b : Addr} {xs ys : List V} {ds es : List D} (ha : SqL K F a xs) (hb : SqL K F b ys) (hd : DpAll K F xs ds) (he : DpAll K F ys es) (hl : ds.length = es.length) : WalkG K G F (ItzE K a b) (zipD ds es) where
  go := fun F' H' i d s s' _ e => (walk_zipL ha hb hd he).go F' H' i d s s' e
  stop := fun F' H' i s s' _ hi => by
    have sH := Same.trans s s'
    rw [zipD_len] at hi
    exact ⟨xs, ys, same_sqL sH ha, same_sqL sH hb, by rw [hd.length]; omega, by rw [he.length]; omega⟩
theorem si_zipE {x : Addr} {e e2 : Expr} {cr : CA} {p tpos : Pos} {elts : List Expr} {kk : Nat} (hc : HotB X x) (hg : Gl X "zip") (hm : X.mg "zip" = none) (ha : SA X W XM pa [e, e2] cr)
    (hs : starEach [e, e2] X.env = (false, eval e X.env) :: starEach [e2] X.env := by rfl) (hpl : (backTo pos (starEach [e2] X.env)).any (·.1) = false := by rfl) : SIe x X W XM pa (.Tuple elts kk tpos) (.Call (.Name "zip" p) [e, e2] [] pos) (zipIE cr) := (pi_zipE hc hg hm ha hs hpl).imp fun σ H Q q => by
  obtain ⟨G, F, τ, r0, q⟩ := q
  refine At.step r0 q fun F1 H1 d1 τ1 x s1 r1 h1 q1 => ?_
  obtain ⟨z, e1, q3⟩ := At.opt q1
  obtain ⟨a, b, e2, el, rfl⟩ := zip2E_some (ds := d1) (z := z) e1
  subst e2
  cases h1 with
  | cons ha h2 =>
    cases h2 with
    | cons hb h3 =>
      cases h3
      cases ha with
      | lst qa da =>
        cases hb with
        | lst qb db => exact ⟨_, _, _, _, rfl, same_sqL r1.z.fh qa, same_sqL r1.z.fh qb, q3 _ F1 H1 (Same.refl _) r1 (walk_zipE qa qb da db el)⟩
theorem sg_tupE {x : Addr} {es : List Expr} {k : Nat} {vs : List Nat} {g : List D → Ev → Option Ev} {n : Nat} (hc : HotB X x) (h : SGs X pa es vs g) (hl : ∀ ds τ τ', g ds τ = some τ' → ds.length = n)
    (hn : (assignEach es X.env).length = n := by rfl) (hst : (assignEach es X.env).findIdx? (·.1) = none := by rfl) : SG X pa (.Tuple es k pos) vs (tupG g) := (pg_tupE hc h hn hst).imp fun v σ H Q q => by
  obtain ⟨G, F, τ, d, r, h, τ', e, q⟩ := q
  cases h with
  | @tup a xs ds hs ha => exact ⟨a, xs, rfl, same_sqT r.z.fh (SqT.of hs), (DpAll.length ha).trans (hl _ _ _ e), G, F, τ, ds, r, ha, τ', e, q⟩
  | _ => cases e
theorem tLcE_of {vs : List Nat} {ci : CA} {g : D → Ev → Option Ev} {ct : CT} {ce : CE} {σ : L2.St} {H : Hp} {Q : VK} (q : tG X.K W XM pa (relO X.K) (lcO vs ci g ct ce) σ H Q) :
    tLc (tG X.K W XM pa (relIE X.K) ci) (tTg X.K pa vs g) (tG X.K W0 XM pa relB ct) (tG X.K W0 XM pa (relE X.K) ce) vs σ H Q := by
  obtain ⟨G, F, τ, r0, q⟩ := q
  exact At.step r0 q fun F1 H1 d1 τ1 J s1 r1 h1 q1 => lc_run r1 h1 q1
theorem ss_lcFE {x : Addr} (i : Nat) {elt tg iter : Expr} {ifs : List Expr} {scope : Scope} {own : List (Str × Nat)} {ci : CA} {g : D → Ev → Option Ev} {ct : CT} {ce : CE} {vs : List Nat} {y : Str} {py spos : Pos} (hc : HotB X x) (hN : X.N.Nodup) (hi : SIe x X W XM pa tg iter ci) (ok : BlkOk X.N X.env.scope scope own) (hv : own.map (·.2) = vs)
    (hg : ∀ (s : Shared) (H : Hp) (C : Addr) (cl : List (Str × Addr)) (fp : List Addr), HotB (X.blk s H scope (compEnvC scope cl C X.env) fp) x → SG (X.blk s H scope (compEnvC scope cl C X.env) fp) pa tg vs g)
    (ht : ∀ (s : Shared) (H : Hp) (C : Addr) (cl : List (Str × Addr)) (fp : List Addr), STs (X.blk s H scope (compEnvC scope cl C X.env) fp) W0 XM pa ifs ct)
    (he : ∀ (s : Shared) (H : Hp) (C : Addr) (cl : List (Str × Addr)) (fp : List Addr), SE (X.blk s H scope (compEnvC scope cl C X.env) fp) W0 XM pa elt ce)
    (hsw : swapsWith (.ListComp elt [⟨tg, iter, ifs, 0⟩] scope pos) (some (.Name y py)) spos.line X.env = pure true) (hy : X.N[i]? = some y := by rfl) (hyl : X.env.scope.names.lookup y = some .local := by rfl) (hs : ∀ x, foldedSetIterable iter X.env x = pure x := by intro _; rfl) :
    SS X W XM pa (.Assign [.Name y py] (.ListComp elt [⟨tg, iter, ifs, 0⟩] scope pos) spos) (setS i (frzC (lcO vs ci g ct ce))) := by
  subst hv
  refine (ps_setLcE hc hN hy hyl hsw hi ok hg (fun s H C cl fp _ => ht s H C cl fp) (fun s H C cl fp _ => he s H C cl fp) hs).imp fun E σ H q => tLcE_of (X := X) (W := W) ?_
  have q := tSet_of q
  obtain ⟨G, F, τ, r0, q⟩ := q
  refine At.step r0 q fun F1 H1 d1 τ1 x s1 r1 h1 q1 => ?_
  obtain ⟨p, rfl, ⟨xs, hx, hd⟩, hf, hg, no⟩ := h1
  obtain ⟨ff, r2⟩ := r1.settle hx hf hg no
  exact q1 _ _ _ ff r2 (.lst (SqL.of upd_same) (DpAll.up hd ff))
end
section
variable {X : Cx} {W : WX} {XM : Nat → Value} {pa : List Addr} {pos : Pos}
def splitD : D → D → Option (List D)
  | .str a, .str b => if (b.length == 0) = false ∧ a.length ≤ 1000000 then some ((Txt.split a b).map PyData.str) else none
  | _, _ => none
theorem DpAll.of_strs {K : PySem.W.Frag} {H : Hp} : ∀ (ns : List Str), DpAll K H (ns.map V.str) (ns.map PyData.str)
  | [] => .nil
  | n :: ns => .cons (.str n) (DpAll.of_strs ns)
@[simp] def isStrD : D → Bool
  | .str _ => true
  | _ => false
@[simp] def splitC (a b : CE) : CO := fun τ => (a τ).bind fun p => if isStrD p.1 = true then (b p.2).bind fun q => (R.ofOpt (splitD p.1 q.1)).bind fun z => .ok (z, q.2) else .stuck
theorem so_split {o e : Expr} {co ce : CE} {apos : Pos} (ho : SE X W XM pa o co) (he : SE X W XM pa e ce) (hs : starEach [e] X.env = [(false, eval e X.env)] := by rfl) (hb : attributeBase o "split" X.env (eval o X.env) = eval o X.env := by rfl) (hl : (apos.endLine == pos.line) = true := by rfl) :
    SO X W XM pa (.Call (.Attribute o "split" apos) [e] [] pos) (splitC co ce) := (pe_split ho he hs hb hl).imp fun σ H Q q => by
  obtain ⟨G, F, τ, r0, q⟩ := q
  refine At.step r0 q fun F1 H1 d1 τ1 x s1 r1 h1 q1 => ?_
  by_cases hz : isStrD d1 = true
  · simp only [hz, if_true] at q1
    cases d1 with
    | str a =>
      cases h1
      refine ⟨⟨_, rfl⟩, At.step r1 q1 fun F2 H2 d2 τ2 y s2 r2 h2 q2 => ?_⟩
      obtain ⟨z, e1, q3⟩ := At.opt q2
      cases d2 with
      | str b =>
        cases h2
        simp only [splitD] at e1
        by_cases hc : (b.length == 0) = false ∧ a.length ≤ 1000000
        · rw [if_pos hc] at e1
          cases e1
          refine ⟨a, b, rfl, rfl, hc.1, by rw [sizeLine_eq]; omega, fun p hp => ?_⟩
          obtain ⟨r3, l3⟩ := r2.loose hp (DpAll.of_strs (K := X.K) (H := F2) (Txt.split a b))
          exact q3 _ _ _ (Same.refl _) r3 ⟨p, rfl, l3⟩
        · rw [if_neg hc] at e1
          cases e1
      | _ => cases e1
    | _ => cases hz
  · simp only [hz] at q1
    exact q1.elim
/-! ### isinstance of the handled error -/
abbrev adrD (a : Addr) : D := .dict [(.str "adr", .int (a : Nat))]
theorem adr_of {K : PySem.W.Frag} {H : Hp} {v : V} {a : Addr} (h : Dp K H v (adrD a)) : v = .ref a := by
  unfold adrD at h
  generalize e : [((PyData.str "adr" : D), (PyData.int ((a : Nat) : Int) : D))] = kvs at h
  cases h with
  | dcK h1 h2 => subst e; cases h2
  | dcT h1 h2 => subst e; cases h2
  | adr b =>
    simp at e
    rw [Int.ofNat.inj e]
  | obj _ _ _ _ =>
    simp at e
  | fn _ _ =>
    simp at e
    exact absurd e.1 (by decide)
/-- slot i holds the place a, and its thing is of the asked class just if b -/
@[simp] def isEC (i : Nat) (a : Addr) (b : Bool) : CE := fun τ => match τ[i]? with
  | some (.val (.dict [(.str s, .int z)])) => if s = "adr" ∧ z = ((a : Nat) : Int) then .ok (.bool b, τ) else .stuck
  | _ => .stuck
theorem call_isB {a D : Addr} {oe : Obj} (C : ExcC X.K D) (hb : X.base.get? a = some oe) (hz : L2N.Zn (.ref D) none oe) (hf : ∃ vs : Array Value, oe.data = .fields vs) : CallR X (.builtin "isinstance") (rIsE X.K D a) := by
  intro pins s σ H xs us Q I r h
  obtain ⟨c, cv, b, rfl, hcv, e, q⟩ := h
  cases r with
  | cons rx rr =>
    cases rr with
    | cons rt rr =>
      cases rr
      cases rx
      have ec := hcv _ rt
      subst ec
      obtain ⟨vs, hv⟩ := hf
      have J : PySem.W.InstAt s.heap a oe D none := by
        obtain ⟨oc, od, oda, osl⟩ := oe
        obtain ⟨h1, h2, _⟩ := hz
        dsimp only at h1 h2 hv
        subst h1 h2 hv
        exact ⟨I.bk _ _ hb, rfl, rfl, trivial⟩
      exact PySem.W.kia_one (PySem.W.handS_kitx_exc C.hg C.hk C.hs C.hd C.ha C.hn C.ht C.hm) I.kIn J e (fun z => nomatch z) fun tk => ⟨.bl b, H, I.kept (t' := tk) fun _ _ z => z, rfl, q⟩
theorem tIsE_of {i : Nat} {a D : Addr} {b : Bool} {v2 : V} {cv : Value} (hv : ∀ u, RelV v2 u → u = cv) (e : PySem.W.kitOne X.K (.ref D) cv = some b) {σ : L2.St} {H : Hp} {Q : VK} (q : tG X.K W XM pa (relE X.K) (isEC i a b) σ H Q) : tCB (rIsE X.K D a) (tCons (tVar i) (tCons (tC v2) tNil)) σ H Q := by
  obtain ⟨G, F, τ, r, q⟩ := q
  unfold isEC at q
  split at q
  · rename_i s z e1
    split at q
    · rename_i hh
      obtain ⟨rfl, rfl⟩ := hh
      obtain ⟨v, h1, h2⟩ := r.val i _ e1
      cases adr_of h2
      exact ⟨_, h1, v2, cv, b, rfl, hv, e, q _ F H (Same.refl _) r (.bl b)⟩
    · exact q.elim
  · exact q.elim
theorem se_isE (i : Nat) {a D Ca : Addr} {b : Bool} {oe : Obj} {x y : Str} {p p1 p2 : Pos} (C : ExcC X.K D) (hb : X.base.get? a = some oe) (hz : L2N.Zn (.ref D) none oe) (hf : ∃ vs : Array Value, oe.data = .fields vs) (hm : X.mg "isinstance" = none) (hv : PE X (.Name x p1) (tVar i)) (my : X.mg y = some (.ref Ca)) (e : PySem.W.kitOne X.K (.ref D) (.ref Ca) = some b)
    (hg : Gl X "isinstance" := by rfl) (hgy : Gl X y := by rfl) (hdy : (y == ("__debug__" : Str)) = false := by decide) (hs : starEach [.Name x p1, .Name y p2] X.env = (false, eval (.Name x p1) X.env) :: starEach [.Name y p2] X.env := by rfl) (hs2 : starEach [.Name y p2] X.env = [(false, eval (.Name y p2) X.env)] := by rfl) (hpl : (backTo pos (starEach [.Name y p2] X.env)).any (·.1) = false := by rfl) :
    SE X W XM pa (.Call (.Name "isinstance" p) [.Name x p1, .Name y p2] [] pos) (isEC i a b) := (pe_callB (call_isB C hb hz hf) hg hm b_isinstance (pa_cons hv (pa_cons (pe_glob (v := .ref Ca) hgy my rfl hdy) pa_nil hs2) hs) (by decide) (by decide) hs hpl).imp fun σ H Q q => tIsE_of (v2 := .ref Ca) (cv := .ref Ca) (fun u h => h) e q
theorem se_isET (i : Nat) {a D : Addr} {b : Bool} {oe : Obj} {x y : Str} {T : String} {p p1 p2 : Pos} (C : ExcC X.K D) (hb : X.base.get? a = some oe) (hz : L2N.Zn (.ref D) none oe) (hf : ∃ vs : Array Value, oe.data = .fields vs) (hm : X.mg "isinstance" = none) (hv : PE X (.Name x p1) (tVar i)) (my : X.mg y = none) (by_ : bootBuiltins y = some (.type T)) (e : PySem.W.kitOne X.K (.ref D) (.type T) = some b)
    (hg : Gl X "isinstance" := by rfl) (hgy : Gl X y := by rfl) (hny : y ≠ "__name__" := by decide) (hdy : (y == ("__debug__" : Str)) = false := by decide) (hs : starEach [.Name x p1, .Name y p2] X.env = (false, eval (.Name x p1) X.env) :: starEach [.Name y p2] X.env := by rfl) (hs2 : starEach [.Name y p2] X.env = [(false, eval (.Name y p2) X.env)] := by rfl) (hpl : (backTo pos (starEach [.Name y p2] X.env)).any (·.1) = false := by rfl) :
    SE X W XM pa (.Call (.Name "isinstance" p) [.Name x p1, .Name y p2] [] pos) (isEC i a b) := (pe_callB (call_isB C hb hz hf) hg hm b_isinstance (pa_cons hv (pa_cons (pe_bltn (v := .ty T) hgy my by_ rfl hny hdy) pa_nil hs2) hs) (by decide) (by decide) hs hpl).imp fun σ H Q q => tIsE_of (v2 := .ty T) (cv := .type T) (fun u h => h) e q
end
end Lin

/-! Lin26: a def that tells an error's word, by its body; what the text says of the error classes. -/
namespace Lin
open PySem L2 PySem.Spec PyProof.Rows HotX
/-- what is known of the handled error -/
structure ErrAt (C : Ctx) (n : Nat) (a : Addr) (oe : Obj) (base : Heap) : Prop where
  at_ : base.get? a = some oe
  zn : L2N.Zn (C.XM n) none oe
  fl : ∃ vs : Array Value, oe.data = .fields vs
abbrev bodyEX (C : Ctx) (base : Heap) (N : List Str) (x : Str) (st : Stmt) (f : Addr) (cdv : Value) (A : Around) (outer : List Env) (s : Shared) (H : Hp) (E : XK) (p : Addr × Obj) : Cx := bodyE (L2N.CX C.P C.w) C.P C.w C.K C.mg base N x (defScope st) f cdv A outer s H E p
theorem mkE {C : Ctx} {x q : Str} {st : Stmt} {f : Addr} {fd : FuncData} {k : Nat} {N : List Str} {nm : Nat → Option Str} {c : Nat → Addr → CS} (d : Def C x st [q] f fd) (S : FnScope N [q] (defScope st))
    (body : ∀ (n : Nat) (w : Str) (a : Addr) (oe : Obj) (base : Heap), nm n = some w → ErrAt C n a oe base → ∀ (cdv : Value) (A : Around) (outer : List Env) (s : Shared) (H : Hp) (E : XK), HotB (bodyEX C base N x st f cdv A outer s H E (a, oe)) a → L2H.RoomH k (bodyEX C base N x st f cdv A outer s H E (a, oe)).A →
      SSs (bodyEX C base N x st f cdv A outer s H E (a, oe)) W0 C.XM [] (defBody st) (c n a))
    (val : ∀ n w a, nm n = some w → (c n a (start0 N.length [adrD a])).bind (fun p => R.ok p.1) = .ok (.ret (.str w))) : HasE C x (k + 1) nm := by
  refine ⟨f, fd, q, d.at_, d.fn.kp, d.bind, fun n w a oe base hn hK hG ha hz hf => ?_⟩
  obtain ⟨vs, hv⟩ := id hf
  refine fn_E ha hv (hz.2.2 vs hv) d.fn S (fun vs H Q E h => by obtain ⟨rfl, _⟩ := h; rfl) fun cdv A outer s H us Q E hot hr h => ?_
  obtain ⟨rfl, hq⟩ := h
  refine ⟨_, body n w a oe base hn ⟨ha, hz, hf⟩ cdv A outer s H E hot hr, GoF (fun _ => none) H, fun _ => none, start0 N.length [adrD a], start_rp (GoF.rp0 (fun _ _ z => by cases z)) (.cons (.adr a) .nil), ?_⟩
  obtain ⟨τ, e⟩ : ∃ τ, c n a (start0 N.length [adrD a]) = .ok (.ret (.str w), τ) := by
    have v := val n w a hn
    cases q : c n a (start0 N.length [adrD a]) with
    | ok p =>
      obtain ⟨fl, τ⟩ := p
      rw [q] at v
      cases v
      exact ⟨τ, rfl⟩
    | exc x => rw [q] at v; cases v
    | stuck => rw [q] at v; cases v
  unfold AtS
  rw [e]
  intro v σ' F' H' _ s' r hd
  cases hd
  exact hq H' (GoF.ext (fun _ _ z => by cases z) s' r.z).hh
/-! ### the error classes -/
/-- the asked class j takes an error of class n -/
def takesE (n j : Nat) : Bool := decide (n = j) || decide (j = 10)
/-- what the text says of class n -/
structure ErrT (C : Ctx) (n : Nat) : Prop where
  ex : ∃ D, C.XM n = .ref D ∧ ExcC C.K D ∧ PySem.W.kitOne C.K (.ref D) (.type "ValueError") = some true ∧ (∀ j x, excNames[j]? = some x → ∃ a, C.mg x = some (.ref a) ∧ PySem.W.kitOne C.K (.ref D) (.ref a) = some (takesE n j)) ∧ ∃ a, C.mg "ScrollError" = some (.ref a) ∧ PySem.W.exmOne C.K (.ref D) (.ref a) = some true
theorem kit_ref {K : PySem.W.Frag} {D Ca : Addr} {b : Bool} (h1 : PySem.W.hasDictIn K Ca = true) (h2 : PySem.W.typeIn K (.ref Ca) = some (.type "type")) (h3 : PySem.W.subIn K (.ref D) (.ref Ca) = some b) (h4 : PySem.W.subIn K (.ref D) (.ref D) = some true) : PySem.W.kitOne K (.ref D) (.ref Ca) = some b := by
  obtain ⟨cd, hc, _⟩ := PySem.W.any_some h1
  unfold PySem.W.kitOne
  by_cases e : D = Ca
  · subst e
    rw [h4] at h3
    rw [if_pos (beq_self_eq_true _)]
    exact h3
  · have ne : ¬ ((Value.ref D == Value.ref Ca) = true) := fun z => e (Value.ref.inj (beq_iff_eq.mp z))
    rw [if_neg ne]
    show (if ((PySem.W.clsIn K Ca).isSome && PySem.W.typeIn K (.ref Ca) == some (.type "type")) = true then PySem.W.subIn K (.ref D) (.ref Ca) else none) = some b
    rw [hc, h2, if_pos (by rfl)]
    exact h3
theorem kit_val {K : PySem.W.Frag} {D : Addr} (h : PySem.W.subIn K (.ref D) (.type "ValueError") = some true) : PySem.W.kitOne K (.ref D) (.type "ValueError") = some true := by
  unfold PySem.W.kitOne
  rw [if_neg (by simp)]
  show (if PySem.W.kitMeta "ValueError" = true then PySem.W.subIn K (.ref D) (.type "ValueError") else none) = some true
  rw [if_pos (by decide +kernel)]
  exact h
theorem caught_of {C : Ctx} {nm : Nat → Option Str} (h : ∀ n w, nm n = some w → ErrT C n) (hs : ∃ a, C.mg "ScrollError" = some (.ref a)) : Caught C "ScrollError" nm := by
  obtain ⟨a, ha⟩ := hs
  refine ⟨a, ha, fun n w hn => ?_⟩
  obtain ⟨D, h1, _, _, _, a', h2, h3⟩ := (h n w hn).ex
  rw [h1]
  rw [ha] at h2
  cases h2
  exact h3
/-- the class facts, as the head tells them -/
structure ClsF (K : PySem.W.Frag) (a : Addr) (x : Str) : Prop where
  ns : PySem.W.nsIn K mainGlobals x = some (some (.ref a))
  hd : PySem.W.hasDictIn K a = true
  ty : PySem.W.typeIn K (.ref a) = some (.type "type")
/-- .. of class n at the place D; as: the places of all eleven -/
structure RaisedF (K : PySem.W.Frag) (D : Addr) (n : Nat) (as : List Addr) : Prop where
  hg : PySem.W.findIn K (.ref D) "__getattribute__" = some (some (.builtin "BaseException.__getattribute__"))
  hk : PySem.W.findIn K (.ref D) "__getattr__" = some none
  hs : PySem.W.subIn K (.ref D) (.type "BaseException") = some true
  ha : PySem.W.findIn K (.ref D) "__class__" = some (some (.builtin "object.__class__"))
  hm : PySem.W.mroIn K D (.type "object") = some true
  hv : PySem.W.subIn K (.ref D) (.type "ValueError") = some true
  su : ∀ j a, as[j]? = some a → PySem.W.subIn K (.ref D) (.ref a) = some (takesE n j)
theorem mk_err {P : Program} {w : World} {K : PySem.W.Frag} {mg : Str → Option Value} {base h : Heap} (X : K.In h) (G : h.Ns mainGlobals mg) {as : List Addr} (hl : as.length = 11) (cf : ∀ (j : Nat) (x : Str) (a : Addr), excNames[j]? = some x → as[j]? = some a → ClsF K a x) (hn : PySem.W.specialIn K (.builtin "object.__class__") "__get__" = some (some (.builtin "getset_descriptor.__get__")))
    (ht : PySem.W.takesIn K (.builtin "object.__class__") = some true) (hb : ∀ a, as[10]? = some a → PySem.W.subIn K (.ref a) (.type "BaseException") = some true) {n : Nat} {D : Addr} (hD : as[n]? = some D) (r : RaisedF K D n as) : ErrT ⟨P, w, K, mg, base, xmOf mg⟩ n := by
  have hlt : n < 11 := by rw [← hl]; exact (List.getElem?_eq_some_iff.mp hD).1
  obtain ⟨x, hx⟩ : ∃ x, excNames[n]? = some x := ⟨excNames[n], List.getElem?_eq_getElem hlt⟩
  have c := cf n x D hx hD
  have self : PySem.W.subIn K (.ref D) (.ref D) = some true := by
    have z := r.su n D hD
    rw [z]
    unfold takesE
    simp
  refine ⟨D, ?_, ⟨r.hg, r.hk, r.hs, c.hd, r.ha, hn, ht, r.hm⟩, kit_val r.hv, fun j y hy => ?_, ?_⟩
  · show xmOf mg n = .ref D
    unfold xmOf
    rw [hx]
    simp only [PySem.W.mg_of X G c.ns]
    rfl
  · have hj : j < 11 := (List.getElem?_eq_some_iff.mp hy).1
    obtain ⟨a, ha⟩ : ∃ a, as[j]? = some a := ⟨as[j], List.getElem?_eq_getElem (by omega)⟩
    have cj := cf j y a hy ha
    exact ⟨a, PySem.W.mg_of X G cj.ns, kit_ref cj.hd cj.ty (r.su j a ha) self⟩
  · obtain ⟨a, ha⟩ : ∃ a, as[10]? = some a := ⟨as[10], List.getElem?_eq_getElem (by omega)⟩
    have cj := cf 10 "ScrollError" a rfl ha
    have z := r.su 10 a ha
    refine ⟨a, PySem.W.mg_of X G cj.ns, PySem.W.exm_ref (hb a ha) cj.hd cj.ty ?_⟩
    rw [z]
    unfold takesE
    simp
/-! ### words for the terms -/
section
variable {X : Cx} {W : WX} {XM : Nat → Value} {pa : List Addr} {pos : Pos} {a b : Expr} {ca cb : CE} {k : Nat}
theorem t_eqE (r : L2H.RoomH k X.A) (ha : SE X W XM pa a ca) (hb : SE X W XM pa b cb) : ST X W XM pa (.Compare a [.Eq] [b] pos) (bvC (op2C eqD ca cb)) := st_cmp (op_eqD (by have := r.un; omega)) os_eq ha hb (nomark _)
end
theorem split_names : Txt.split ("view item position row items heights sightings other undo number base value" : Str) " " = (["view", "item", "position", "row", "items", "heights", "sightings", "other", "undo", "number", "base", "value"] : List Str) := by decide +kernel
theorem err_split : splitD (.str "view item position row items heights sightings other undo number base value") (.str " ") = some [.str "view", .str "item", .str "position", .str "row", .str "items", .str "heights", .str "sightings", .str "other", .str "undo", .str "number", .str "base", .str "value"] := by
  show (if ((" " : Str).length == 0) = false ∧ ("view item position row items heights sightings other undo number base value" : Str).length ≤ 1000000 then some ((Txt.split ("view item position row items heights sightings other undo number base value" : Str) " ").map PyData.str) else none) = _
  rw [if_pos ⟨by decide +kernel, by decide +kernel⟩, split_names]
  rfl
end Lin

/-! Lin27: defs as values, called; a list times an int. -/
namespace Lin
open PySem L2 PySem.Spec PyProof.Rows
section
variable {X : Cx} {W : WX} {pa : List Addr} {C : Ctx} {pos : Pos}
abbrev funD (n : Nat) : D := .dict [(.str "fn", .int (n : Nat))]
theorem se_fn {XM : Nat → Value} (n : Nat) {x : Str} {a : Addr} {p : Pos} (hn : fnNames[n]? = some x) (hk : PySem.W.nsIn X.K mainGlobals x = some (some (.ref a))) (hm : X.mg x = some (.ref a)) (hg : Gl X x := by rfl) (hd : (x == ("__debug__" : Str)) = false := by decide) : SE X W XM pa (.Name x p) (litC (funD n)) := (pe_glob (v := .ref a) hg hm rfl hd).imp fun σ H Q q => by
  obtain ⟨G, F, τ, r, q⟩ := q
  exact q (.ref a) F H (Same.refl _) r (.fn hn hk)
@[simp] def asV (fn : List D → R (List D)) : List D → R D := fun ds => (fn ds).bind fun l => .ok (.list l)
theorem HasO.v {x : Str} {k : Nat} {fn : List D → R (List D)} (h : HasO C x k fn) : HasV C x k (asV fn) := by
  obtain ⟨f, fd, ps, F, m, kp, b, hl⟩ := h.ex
  refine ⟨f, fd, ps, F.imp fun vs H Q E q => ?_, m, kp, b, fun ds h => hl ds fun z => h (by unfold asV; rw [z]; rfl)⟩
  obtain ⟨F0, ds, h1, h2, h3, h4⟩ := q
  refine ⟨F0, ds, h1, h2, h3, ?_⟩
  unfold asV at h4
  cases e : fn ds with
  | stuck => rw [e] at h4; exact h4
  | exc n => rw [e] at h4; exact h4
  | ok es =>
    rw [e] at h4
    intro p ys F' H' ex fp hp hx hd
    have ff : Same F' (upd F' p (.lst ys)) := same_new fp
    refine h4 _ _ _ ⟨Same.trans ex.ff ff, fun b o z => ?_, ex.hh, fun b hb => ?_⟩ (.lst (SqL.of upd_same) (hd.up ff))
    · by_cases hb : b = p
      · subst hb
        rw [upd_same] at z
        cases z
        exact hx
      · rw [upd_ne hb] at z
        exact ex.fh b o z
    · by_cases hb2 : b = p
      · subst hb2
        exact .inr hp
      · unfold NT at hb
        rw [upd_ne hb2] at hb
        exact ex.nw b hb
theorem HasV.up {x : Str} {j k : Nat} {fn : List D → R D} (h : HasV C x j fn) (hj : j ≤ k) : HasV C x k fn := by
  obtain ⟨f, fd, ps, F, r⟩ := h.ex
  exact ⟨f, fd, ps, F.mono hj, r⟩
/-- a call's reading -/
theorem tCallV_of {k : Nat} {x : Str} {fn : List D → R D} {cr : CA} {f : Addr} {fd : FuncData} {ps : List Str} (hl : ∀ ds, fn ds ≠ .stuck → ds.length = ps.length) {K : PySem.W.Frag} {XM : Nat → Value} {σ : L2.St} {H : Hp} {Q : VK} (q : tG K W XM pa (relE K) (fnC fn cr) σ H Q) : tCallS (spV K XM ps.length fn) (WE W) (tG K W XM pa (relA K) cr) σ H Q := by
  obtain ⟨G, F0, τ, r0, q⟩ := q
  refine At.step r0 q fun F1 H1 d1 τ1 v s1 r1 h1 q1 => ?_
  have ne : fn d1 ≠ .stuck := fun z => by
    simp only [z] at q1
    exact q1.elim
  refine ⟨F1, d1, r1.z.fh, h1, hl d1 ne, ?_⟩
  revert q1
  unfold At
  simp only
  cases fn d1 with
  | stuck => exact fun q1 => q1.elim
  | exc x =>
    intro q1 H' s'
    exact q1 σ F1 H' rfl (Same.refl _) (r1.z.ext (Ext.mk (Same.refl _) (Same.trans r1.z.fh s') s' fun b hb => .inl hb))
  | ok d =>
    intro q1 u F' H' ex hu
    exact q1 u F' H' ex.ff (r1.ext ex) hu
def fnOf : D → Option Nat
  | .dict [(.str s, .int z)] => if s = "fn" then some z.toNat else none
  | _ => none
@[simp] theorem fnOf_fn (n : Nat) : fnOf (funD n) = some n := by
  show (if ("fn" : Str) = "fn" then some ((n : Int).toNat) else none) = some n
  rw [if_pos rfl]
  rfl
/-- the called thing is a def of the table T -/
@[simp] def callF (T : Nat → Option (List D → R D)) (cf : CE) (ca : CA) : CE := fun τ => (cf τ).bind fun p => match (fnOf p.1).bind T with
  | some fn => fnC fn ca p.2
  | none => .stuck
theorem fn_of_dp {K : PySem.W.Frag} {F : Hp} {v : V} {d : D} {n : Nat} (h : Dp K F v d) (e : fnOf d = some n) : ∃ a x, v = .ref a ∧ fnNames[n]? = some x ∧ PySem.W.nsIn K mainGlobals x = some (some (.ref a)) := by
  cases h with
  | @fn a m x h1 h2 =>
    rw [fnOf_fn] at e
    cases e
    exact ⟨a, x, rfl, h1, h2⟩
  | dcK h1 h2 =>
    cases h2 with
    | nil => cases e
    | cons _ _ => cases e
  | dcT h1 h2 =>
    cases h2 with
    | nil => cases e
    | cons _ _ => cases e
  | adr a =>
    have z : fnOf (.dict [(.str "adr", .int (a : Nat))]) = none := by
      show (if ("adr" : Str) = "fn" then some (((a : Nat) : Int).toNat) else none) = none
      rw [if_neg (by decide)]
    rw [z] at e
    cases e
  | obj _ _ _ _ => cases e
  | non => cases e
  | bl _ => cases e
  | int _ => cases e
  | str _ => cases e
  | lst _ _ => cases e
  | tup _ _ => cases e
theorem se_callF {k : Nat} {T : Nat → Option (List D → R D)} {fe e : Expr} {es : List Expr} {cf : CE} {cr : CA} (hT : ∀ n x fn, fnNames[n]? = some x → T n = some fn → HasV C x k fn) (ic : In C X) (tk : L2N.Takes X W) (hr : Room k X.A) (hf : SE X W C.XM pa fe cf) (ha : SA X W C.XM pa (e :: es) cr)
    (he : starEach (e :: es) X.env = (false, eval e X.env) :: starEach es X.env := by rfl) (hpl : (backTo pos (starEach es X.env)).any (·.1) = false := by rfl)
    (hc : eval (.Call fe (e :: es) [] pos) X.env = (do callWith pos (← eval fe X.env) [] (backTo pos (starEach (e :: es) X.env)) (backToKw pos (keywordEach [] X.env))) := by rfl) : SE X W C.XM pa (.Call fe (e :: es) [] pos) (callF T cf cr) := by
  obtain ⟨e1, e2, e3, e4, e5⟩ := ic
  obtain ⟨P, w, K, mg, base, XM⟩ := C
  simp only at e1 e2 e3 e4 e5
  subst e1 e2 e3 e4 e5
  refine ⟨fun pins s σ H Q I h => ?_⟩
  obtain ⟨G, F0, τ, r0, q⟩ := h
  have key : tG X.K W XM pa (relE X.K) cf σ H fun v H1 => ∃ n x fn a, fnNames[n]? = some x ∧ PySem.W.nsIn X.K mainGlobals x = some (some (.ref a)) ∧ v = .ref a ∧ T n = some fn ∧ tG X.K W XM pa (relE X.K) (fnC fn cr) σ H1 Q := by
    refine At.step r0 q fun F1 H1 d1 τ1 v s1 r1 h1 q1 => ?_
    cases hn : (fnOf d1).bind T with
    | none =>
      simp only [hn] at q1
      exact q1.elim
    | some fn =>
      simp only [hn] at q1
      cases ho : fnOf d1 with
      | none => rw [ho] at hn; cases hn
      | some n =>
        rw [ho] at hn
        obtain ⟨a, x, rfl, h2, h3⟩ := fn_of_dp h1 ho
        exact ⟨n, x, fn, a, h2, h3, rfl, hn, G, F1, τ1, r1, q1⟩
  refine Call_ (thn (hf.run pins s σ H _ I key) fun u s1 hh => ?_) hc
  obtain ⟨v, H1, I1, rv, n, x, fn, a, h2, h3, rfl, h4, q1⟩ := hh
  cases rv
  obtain ⟨f, fd, ps, F, m, kp, b, hl⟩ := (hT n x fn h2 h4).ex
  have ma : X.mg x = some (.ref a) := PySem.W.mg_of I1.mod.kin I1.mod.glob h3
  simp only at m kp b F
  rw [ma] at m
  cases m
  refine PySem.W.callWith_K (h₀ := X.base) I1.ok.mod.kin kp (thn (ha.run pos pins s1 σ H1 _ I1 (tCallV_of (x := x) (k := k) (f := a) (fd := fd) hl q1)) fun us s2 ⟨vs, H2, I2, r, q2⟩ => ⟨I2.kIn, ?_⟩) he hpl
  exact run_fnS F hr b (L2N.passAt tk σ) I2 r q2
/-! ### xs * n -/
@[simp] def repO (n : Int) (c : CO) : CO := fun τ => (c τ).bind fun p => if decide (-1000 ≤ n ∧ n ≤ 1000) = true ∧ p.1.length ≤ 1000 then .ok ((List.replicate n.toNat p.1).flatten, p.2) else .stuck
theorem so_rep {XM : Nat → Value} {a : Expr} {ca : CO} {n : Int} {j : Nat} {p2 : Pos} (ha : SO X W XM pa a ca) : SO X W XM pa (.BinOp a .Mult (.Constant (.int n) j p2) pos) (repO n ca) := (pe_op op_rep ha pe_int).imp fun σ H Q q => by
  obtain ⟨G, F, τ, r0, q⟩ := q
  refine At.step r0 q fun F1 H1 d1 τ1 x s1 r1 h1 q1 => ?_
  obtain ⟨p, rfl, ⟨xs, hx, hd⟩, hf, hg, no⟩ := h1
  by_cases hc : decide (-1000 ≤ n ∧ n ≤ 1000) = true ∧ d1.length ≤ 1000
  · simp only [hc, and_self, if_true] at q1
    have hn : -1000 ≤ n ∧ n ≤ 1000 := of_decide_eq_true hc.1
    have hl : xs.length = d1.length := hd.length
    refine ⟨p, n, xs, rfl, rfl, hx, by omega, by omega, ?_, fun p' hp => ?_⟩
    · have h1 : xs.length * n.toNat ≤ 1000 * 1000 := Nat.mul_le_mul (by omega) (by omega)
      rw [sizeLine_eq]
      omega
    · obtain ⟨r2, l2⟩ := r1.loose hp (L2.DpAll.rep hd n.toNat)
      exact q1 _ _ _ (Same.refl _) r2 ⟨p', rfl, l2⟩
  · simp only [hc] at q1
    exact q1.elim
/-- the text has the def x, as a value -/
def FunV (C : Ctx) (x : Str) : Prop := ∃ a, PySem.W.nsIn C.K mainGlobals x = some (some (.ref a)) ∧ C.mg x = some (.ref a)
theorem se_fnX {XM : Nat → Value} (n : Nat) {x : Str} {p : Pos} (hn : fnNames[n]? = some x) (h : FunV C x) (ic : In C X) (hg : Gl X x := by rfl) (hd : (x == ("__debug__" : Str)) = false := by decide) : SE X W XM pa (.Name x p) (litC (funD n)) := by
  obtain ⟨a, h1, h2⟩ := h
  exact se_fn n hn (by rw [ic.K]; exact h1) (by rw [ic.mg]; exact h2) hg hd
/-- f() -/
theorem se_call0 {k : Nat} {x : Str} {p : Pos} {fn : List D → R D} (h : HasV C x k fn) (i : In C X) (tk : L2N.Takes X W) (hr : Room k X.A) (hg : Gl X x) (hdb : (x == ("__debug__" : Str)) = false := by decide) : SE X W C.XM pa (.Call (.Name x p) [] [] pos) (fnC fn nilA) := by
  obtain ⟨f, fd, ps, F, m, kp, b, hl⟩ := h.ex
  obtain ⟨e1, e2, e3, e4, e5⟩ := i
  obtain ⟨P, w, K, mg, base, XM⟩ := C
  simp only at e1 e2 e3 e4 e5
  subst e1 e2 e3 e4 e5
  refine ⟨fun pins s σ H Q I q => wpAny_Call_Name_kw (ld_glob I hg m ?_ hdb)⟩
  have q2 : spV X.K XM ps.length fn [] H Q (WE W σ) := by
    obtain ⟨G, F, τ, r, q⟩ := q
    have ne : fn [] ≠ .stuck := fun z => by
      simp only [fnC, nilA, R.bind_ok, z, R.bind_stuck] at q
      exact q.elim
    refine ⟨F, [], r.z.fh, .nil, hl _ ne, ?_⟩
    revert q
    unfold At
    simp only [fnC, nilA, R.bind_ok]
    cases fn [] with
    | stuck => exact fun q1 => q1.elim
    | exc x =>
      intro q1 H' s'
      exact q1 σ F H' rfl (Same.refl _) (r.z.ext (Ext.mk (Same.refl _) (Same.trans r.z.fh s') s' fun b hb => .inl hb))
    | ok d =>
      intro q1 u F' H' ex hu
      exact q1 u F' H' ex.ff (r.ext ex) hu
  exact PySem.W.callWith_K0 I.kIn kp (run_fnS (us := []) F hr b (L2N.passAt tk σ) I .nil q2)
end
end Lin

/-! Lin28: the word of an error. -/
namespace Lin
open PySem L2 PySem.Spec PyProof.Rows
/-- the def's computation -/
def errC (n : Nat) (a : Addr) : CS := (seqS (setOS 1 (lstO (consA (isEC 0 a (takesE n 0)) (consA (isEC 0 a (takesE n 1)) (consA (isEC 0 a (takesE n 2)) nilA)))))
    (seqS (preS 1 (setOS 1 (catO (varC 1) (frzC (lstO (consA (isEC 0 a (takesE n 3)) (consA (isEC 0 a (takesE n 4)) (consA (isEC 0 a (takesE n 5)) nilA))))))))
    (seqS (preS 1 (setOS 1 (catO (varC 1) (frzC (lstO (consA (isEC 0 a (takesE n 7)) (consA (isEC 0 a (takesE n 8)) (consA (isEC 0 a (takesE n 9)) nilA))))))))
    (seqS (appS 1 (isEC 0 a (takesE n 6)))
    (seqS (preS 1 (setOS 1 (catO (varC 1) (frzC (lstO (consA (isEC 0 a (takesE n 10)) (consA (isEC 0 a true) nilA)))))))
    (seqS (setS 2 (litC (.str "view item position row items heights sightings other undo number base value")))
    (seqS (preS 1 (setS 3 (frzC (lcO [5, 4] (zipIE (consA (frzC (splitC (varC 2) (litC (.str " ")))) (consA (varC 1) nilA))) (tupG (consG (setG 5) (consG (setG 4) nilG))) (bvC (varC 4)) (varC 5)))))
    (retS (ifC (bvC (op2C eqD (sliceC slD (varC 3) (partP (litC (.int 1))) noP) (frzC (lstO (consA (litC (.str "base")) (consA (litC (.str "value")) nilA)))))) (op2C ixD (varC 3) (litC (.int 0))) (litC (.str "else")))))))))))
def errW (n : Nat) : Option Str := (["view", "item", "position", "row", "items", "heights", "number", "sightings", "other", "undo"] : List Str)[n]?
theorem seqS_ok {s r : CS} {τ τ' : Ev} (h : s τ = .ok (.next, τ')) : seqS s r τ = r τ' := by
  unfold seqS
  rw [h]
  rfl
theorem isEC_ok {a : Addr} {b : Bool} {τ : Ev} (h : τ[0]? = some (.val (adrD a))) : isEC 0 a b τ = .ok (.bool b, τ) := by
  unfold isEC
  rw [h]
  simp
abbrev bt (n j : Nat) : D := .bool (takesE n j)
theorem err_pre (n : Nat) (a : Addr) : errC n a (start0 6 [adrD a]) = (seqS (preS 1 (setS 3 (frzC (lcO [5, 4] (zipIE (consA (frzC (splitC (varC 2) (litC (.str " ")))) (consA (varC 1) nilA))) (tupG (consG (setG 5) (consG (setG 4) nilG))) (bvC (varC 4)) (varC 5)))))
    (retS (ifC (bvC (op2C eqD (sliceC slD (varC 3) (partP (litC (.int 1))) noP) (frzC (lstO (consA (litC (.str "base")) (consA (litC (.str "value")) nilA)))))) (op2C ixD (varC 3) (litC (.int 0))) (litC (.str "else")))))
    [.val (adrD a), .own none (.lst [bt n 0, bt n 1, bt n 2, bt n 3, bt n 4, bt n 5, bt n 7, bt n 8, bt n 9, bt n 6, bt n 10, .bool true]), .val (.str "view item position row items heights sightings other undo number base value"), .free, .free, .free] := by
  unfold errC
  rw [seqS_ok (τ' := [.val (adrD a), .own none (.lst [bt n 0, bt n 1, bt n 2]), .free, .free, .free, .free]) (by simp [isEC_ok, sized, -isEC])]
  rw [seqS_ok (τ' := [.val (adrD a), .own none (.lst [bt n 0, bt n 1, bt n 2, bt n 3, bt n 4, bt n 5]), .free, .free, .free, .free]) (by simp [isEC_ok, sized, catL, -isEC])]
  rw [seqS_ok (τ' := [.val (adrD a), .own none (.lst [bt n 0, bt n 1, bt n 2, bt n 3, bt n 4, bt n 5, bt n 7, bt n 8, bt n 9]), .free, .free, .free, .free]) (by simp [isEC_ok, sized, catL, -isEC])]
  rw [seqS_ok (τ' := [.val (adrD a), .own none (.lst [bt n 0, bt n 1, bt n 2, bt n 3, bt n 4, bt n 5, bt n 7, bt n 8, bt n 9, bt n 6]), .free, .free, .free, .free]) (by simp [isEC_ok, sized, catL, -isEC])]
  rw [seqS_ok (τ' := [.val (adrD a), .own none (.lst [bt n 0, bt n 1, bt n 2, bt n 3, bt n 4, bt n 5, bt n 7, bt n 8, bt n 9, bt n 6, bt n 10, .bool true]), .free, .free, .free, .free]) (by simp [isEC_ok, sized, catL, -isEC])]
  rw [seqS_ok (τ' := [.val (adrD a), .own none (.lst [bt n 0, bt n 1, bt n 2, bt n 3, bt n 4, bt n 5, bt n 7, bt n 8, bt n 9, bt n 6, bt n 10, .bool true]), .val (.str "view item position row items heights sightings other undo number base value"), .free, .free, .free]) (by simp)]
theorem err_word0 (n : Nat) (w : Str) (a : Addr) (h : errW n = some w) : (errC n a (start0 6 [adrD a])).bind (fun p => R.ok p.1) = .ok (.ret (.str w)) := by
  have hn : n < 10 := by
    have := (List.getElem?_eq_some_iff.mp h).1
    simpa using this
  rw [err_pre]
  rcases n with _ | _ | _ | _ | _ | _ | _ | _ | _ | _ | n
  · cases h; kernel_rfl
  · cases h; kernel_rfl
  · cases h; kernel_rfl
  · cases h; kernel_rfl
  · cases h; kernel_rfl
  · cases h; kernel_rfl
  · cases h; kernel_rfl
  · cases h; kernel_rfl
  · cases h; kernel_rfl
  · cases h; kernel_rfl
  · omega
end Lin

namespace Rv
open PySem L2 Lin
def c_is_integer : CS := (retS (andC (isC "int" (varC 0)) (andC (notC (isC "bool" (varC 0))) (chainC leD leD (varC 1) (varC 0) (varC 2)))))
def m_is_integer : List D → R D := fnV 3 3 c_is_integer
def c_is_heights : CS := (seqS (ifS (orT (notT (bvC (isC "tuple" (varC 0)))) (notT (bvC (chainC leD leD (litC (.int 1)) (callC lenD (consA (varC 0) nilA)) (litC (.int 20)))))) (retS (litC (.bool false))) nextS)
    (retS (callC allD (consA (frzC (lcO [1] (seqI (varC 0)) (setG 1) yesT (fnC m_is_integer (consA (varC 1) (consA (litC (.int 1)) (consA (litC (.int 100)) nilA)))))) nilA))))
def m_is_heights : List D → R D := fnV 1 2 c_is_heights
def c_is_view : CS := (seqS (ifS (orT (notT (bvC (isC "tuple" (varC 0)))) (orT (bvC (op2C neD (callC lenD (consA (varC 0) nilA)) (litC (.int 2)))) (notT (bvC (fnC m_is_heights (consA (op2C ixD (varC 0) (litC (.int 0))) nilA)))))) (retS (litC (.bool false))) nextS)
    (retS (fnC m_is_integer (consA (op2C ixD (varC 0) (litC (.int 1))) (consA (litC (.int 1)) (consA (litC (.int 500)) nilA))))))
def m_is_view : List D → R D := fnV 1 1 c_is_view
def c_require_view : CS := (ifS (notT (bvC (fnC m_is_view (consA (varC 0) nilA)))) (raiseS 0) nextS)
def m_require_view : List D → R D := fnV 1 1 c_require_view
def c_top_of : CS := (retS (callC maxD (consA (litC (.int 0)) (consA (op2C subD (callC sumD (consA (op2C ixD (varC 0) (litC (.int 0))) nilA)) (op2C ixD (varC 0) (litC (.int 1)))) nilA))))
def m_top_of : List D → R D := fnV 1 1 c_top_of
def c_begin_of : CS := (retS (callC sumD (consA (sliceC slD (op2C ixD (varC 0) (litC (.int 0))) noP (partP (varC 1))) nilA)))
def m_begin_of : List D → R D := fnV 2 2 c_begin_of
def c_range_of : CS := (seqS (setS 2 (fnC m_begin_of (consA (varC 0) (consA (varC 1) nilA))))
    (seqS (parS [3, 4] (valM (op2C subD (op2C addD (varC 2) (op2C ixD (op2C ixD (varC 0) (litC (.int 0))) (varC 1))) (op2C ixD (varC 0) (litC (.int 1)))) (valM (fnC m_top_of (consA (varC 0) nilA)) nilM)))
    (retS (tupC (consA (callC maxD (consA (litC (.int 0)) (consA (callC minD (consA (varC 2) (consA (varC 3) nilA))) nilA))) (consA (callC minD (consA (varC 4) (consA (callC maxD (consA (varC 2) (consA (varC 3) nilA))) nilA))) nilA))))))
def m_range_of : List D → R D := fnV 2 5 c_range_of
def c_require_item : CS := (ifS (notT (bvC (fnC m_is_integer (consA (varC 1) (consA (litC (.int 0)) (consA (op2C subD (callC lenD (consA (op2C ixD (varC 0) (litC (.int 0))) nilA)) (litC (.int 1))) nilA)))))) (raiseS 1) nextS)
def m_require_item : List D → R D := fnV 2 2 c_require_item
def c_require_position : CS := (ifS (notT (bvC (fnC m_is_integer (consA (varC 1) (consA (litC (.int 0)) (consA (fnC m_top_of (consA (varC 0) nilA)) nilA)))))) (raiseS 2) nextS)
def m_require_position : List D → R D := fnV 2 2 c_require_position
def c_all_seen : CS := (seqS (setS 2 (frzC (lcO [3] (rng1I (consA (callC lenD (consA (op2C ixD (varC 0) (litC (.int 0))) nilA)) nilA)) (setG 3) yesT (tupC (consA (varC 3) (consA (fnC m_range_of (consA (varC 0) (consA (varC 3) nilA))) nilA))))))
    (retOS (lcO [3, 4] (seqI (varC 2)) (tupG (consG (setG 3) (consG (setG 4) nilG))) (bvC (chainC leD leD (op2C ixD (varC 4) (litC (.int 0))) (varC 1) (op2C ixD (varC 4) (litC (.int 1))))) (varC 3))))
def m_all_seen : List D → R (List D) := fnO 2 5 c_all_seen
def c_top : CS := (seqS (exprS (fnC m_require_view (consA (varC 0) nilA)))
    (retS (fnC m_top_of (consA (varC 0) nilA))))
def m_top : List D → R D := fnV 1 1 c_top
def c_item_range : CS := (seqS (exprS (fnC m_require_view (consA (varC 0) nilA)))
    (seqS (exprS (fnC m_require_item (consA (varC 0) (consA (varC 1) nilA))))
    (retS (fnC m_range_of (consA (varC 0) (consA (varC 1) nilA))))))
def m_item_range : List D → R D := fnV 2 2 c_item_range
def c_seen_at : CS := (seqS (exprS (fnC m_require_view (consA (varC 0) nilA)))
    (seqS (exprS (fnC m_require_position (consA (varC 0) (consA (varC 1) nilA))))
    (retOS (fnCO m_all_seen (consA (varC 0) (consA (varC 1) nilA))))))
def m_seen_at : List D → R (List D) := fnO 2 2 c_seen_at
def c_is_row : CS := (seqS (ifS (orT (notT (bvC (isC "tuple" (varC 1)))) (bvC (op2C gtD (callC lenD (consA (varC 1) nilA)) (litC (.int 30))))) (retS (litC (.bool false))) nextS)
    (retS (callC allD (consA (frzC (lcO [2] (seqI (varC 1)) (setG 2) yesT (fnC m_is_integer (consA (varC 2) (consA (litC (.int 0)) (consA (op2C subD (callC lenD (consA (op2C ixD (varC 0) (litC (.int 0))) nilA)) (litC (.int 1))) nilA)))))) nilA))))
def m_is_row : List D → R D := fnV 2 3 c_is_row
def c_require_row : CS := (ifS (notT (bvC (fnC m_is_row (consA (varC 0) (consA (varC 1) nilA))))) (raiseS 3) nextS)
def m_require_row : List D → R D := fnV 2 2 c_require_row
def c_nearest : CS := (retS (callC maxD (consA (op2C ixD (varC 1) (litC (.int 0))) (consA (callC minD (consA (op2C ixD (varC 1) (litC (.int 1))) (consA (varC 0) nilA))) nilA))))
def m_nearest : List D → R D := fnV 2 2 c_nearest
def c_end_of : CS := (seqS (forS (seqI (varC 2)) (setG 3) (setS 1 (fnC m_nearest (consA (varC 1) (consA (fnC m_range_of (consA (varC 0) (consA (varC 3) nilA))) nilA)))))
    (retS (varC 1)))
def m_end_of : List D → R D := fnV 3 4 c_end_of
def c_distance_of : CS := (seqS (setS 3 (litC (.int 0)))
    (seqS (forS (seqI (varC 2)) (setG 4) (seqS (setS 5 (fnC m_nearest (consA (varC 1) (consA (fnC m_range_of (consA (varC 0) (consA (varC 4) nilA))) nilA))))
    (parS [3, 1] (valM (op2C addD (varC 3) (callC absD (consA (op2C subD (varC 5) (varC 1)) nilA))) (valM (varC 5) nilM)))))
    (retS (varC 3))))
def m_distance_of : List D → R D := fnV 3 6 c_distance_of
def c_reveal : CS := (seqS (exprS (fnC m_require_view (consA (varC 0) nilA)))
    (seqS (exprS (fnC m_require_position (consA (varC 0) (consA (varC 1) nilA))))
    (seqS (exprS (fnC m_require_item (consA (varC 0) (consA (varC 2) nilA))))
    (retS (fnC m_nearest (consA (varC 1) (consA (fnC m_range_of (consA (varC 0) (consA (varC 2) nilA))) nilA)))))))
def m_reveal : List D → R D := fnV 3 3 c_reveal
def c_after : CS := (seqS (exprS (fnC m_require_view (consA (varC 0) nilA)))
    (seqS (exprS (fnC m_require_position (consA (varC 0) (consA (varC 1) nilA))))
    (seqS (exprS (fnC m_require_row (consA (varC 0) (consA (varC 2) nilA))))
    (retS (fnC m_end_of (consA (varC 0) (consA (varC 1) (consA (varC 2) nilA))))))))
def m_after : List D → R D := fnV 3 3 c_after
def c_scrolled : CS := (seqS (exprS (fnC m_require_view (consA (varC 0) nilA)))
    (seqS (exprS (fnC m_require_position (consA (varC 0) (consA (varC 1) nilA))))
    (seqS (exprS (fnC m_require_row (consA (varC 0) (consA (varC 2) nilA))))
    (retS (fnC m_distance_of (consA (varC 0) (consA (varC 1) (consA (varC 2) nilA))))))))
def m_scrolled : List D → R D := fnV 3 3 c_scrolled
def c_effect_of : CS := (retS (tupC (consA (fnC m_end_of (consA (varC 0) (consA (litC (.int 0)) (consA (varC 1) nilA)))) (consA (fnC m_end_of (consA (varC 0) (consA (fnC m_top_of (consA (varC 0) nilA)) (consA (varC 1) nilA)))) nilA))))
def m_effect_of : List D → R D := fnV 2 2 c_effect_of
def c_short_rows : CS := (seqS (setS 1 (frzC (lrg1O (callC lenD (consA (op2C ixD (varC 0) (litC (.int 0))) nilA)))))
    (retS (op2C addD (op2C addD (frzC (lstO (consA (tupC nilA) nilA))) (frzC (lcO [2] (seqI (varC 1)) (setG 2) yesT (tupC (consA (varC 2) nilA))))) (frzC (lc2O [3, 4] (seqI (varC 1)) (setG 3) yesT (seqI (varC 1)) [4] (setG 4) yesT (tupC (consA (varC 3) (consA (varC 4) nilA))))))))
def m_short_rows : List D → R D := fnV 1 5 c_short_rows
def c_shortest_with : CS := (seqS (forS (seqI (fnC m_short_rows (consA (varC 0) nilA))) (setG 2) (ifS (bvC (op2C eqD (fnC m_effect_of (consA (varC 0) (consA (varC 2) nilA))) (varC 1))) (retS (varC 2)) nextS))
    (retS (litC .none)))
def m_shortest_with : List D → R D := fnV 2 3 c_shortest_with
def c_effects_of : CS := (seqS (setS 1 (frzC (lcO [7] (rng1I (consA (callC lenD (consA (op2C ixD (varC 0) (litC (.int 0))) nilA)) nilA)) (setG 7) yesT (fnC m_range_of (consA (varC 0) (consA (varC 7) nilA))))))
    (seqS (setOS 2 (catO (frzC (lstO (consA (tupC (consA (litC (.int 0)) (consA (fnC m_top_of (consA (varC 0) nilA)) nilA))) nilA))) (varC 1)))
    (seqS (forS (seqI (varC 1)) (setG 3) (forS (seqI (varC 1)) (setG 4) (seqS (parS [5, 6] (valM (callC maxD (consA (op2C ixD (varC 3) (litC (.int 0))) (consA (op2C ixD (varC 4) (litC (.int 0))) nilA))) (valM (callC minD (consA (op2C ixD (varC 3) (litC (.int 1))) (consA (op2C ixD (varC 4) (litC (.int 1))) nilA))) nilM)))
    (ifS (bvC (op2C leD (varC 5) (varC 6))) (appS 2 (tupC (consA (varC 5) (consA (varC 6) nilA)))) (ifS (bvC (op2C gtD (op2C ixD (varC 4) (litC (.int 0))) (op2C ixD (varC 3) (litC (.int 1))))) (appS 2 (tupC (consA (op2C ixD (varC 4) (litC (.int 0))) (consA (op2C ixD (varC 4) (litC (.int 0))) nilA)))) (appS 2 (tupC (consA (op2C ixD (varC 4) (litC (.int 1))) (consA (op2C ixD (varC 4) (litC (.int 1))) nilA)))))))))
    (preS 2 (retOS (callO sortSetD (consA (varC 2) nilA)))))))
def m_effects_of : List D → R (List D) := fnO 1 8 c_effects_of
def c_effect : CS := (seqS (exprS (fnC m_require_view (consA (varC 0) nilA)))
    (seqS (exprS (fnC m_require_row (consA (varC 0) (consA (varC 1) nilA))))
    (retS (fnC m_effect_of (consA (varC 0) (consA (varC 1) nilA))))))
def m_effect : List D → R D := fnV 2 2 c_effect
def c_is_sure : CS := (seqS (exprS (fnC m_require_view (consA (varC 0) nilA)))
    (seqS (exprS (fnC m_require_row (consA (varC 0) (consA (varC 1) nilA))))
    (seqS (asgS (fnC m_effect_of (consA (varC 0) (consA (varC 1) nilA))) (tupG (consG (setG 2) (consG (setG 3) nilG))))
    (retS (op2C eqD (varC 2) (varC 3))))))
def m_is_sure : List D → R D := fnV 2 4 c_is_sure
def c_same_effect : CS := (seqS (exprS (fnC m_require_view (consA (varC 0) nilA)))
    (seqS (exprS (fnC m_require_row (consA (varC 0) (consA (varC 1) nilA))))
    (seqS (exprS (fnC m_require_row (consA (varC 0) (consA (varC 2) nilA))))
    (retS (op2C eqD (fnC m_effect_of (consA (varC 0) (consA (varC 1) nilA))) (fnC m_effect_of (consA (varC 0) (consA (varC 2) nilA))))))))
def m_same_effect : List D → R D := fnV 3 3 c_same_effect
def c_needless : CS := (seqS (exprS (fnC m_require_view (consA (varC 0) nilA)))
    (seqS (exprS (fnC m_require_row (consA (varC 0) (consA (varC 1) nilA))))
    (seqS (setS 2 (fnC m_effect_of (consA (varC 0) (consA (varC 1) nilA))))
    (retOS (lcO [3] (rng1I (consA (callC lenD (consA (varC 1) nilA)) nilA)) (setG 3) (bvC (op2C eqD (fnC m_effect_of (consA (varC 0) (consA (op2C addD (sliceC slD (varC 1) noP (partP (varC 3))) (sliceC slD (varC 1) (partP (op2C addD (varC 3) (litC (.int 1)))) noP)) nilA))) (varC 2))) (varC 3))))))
def m_needless : List D → R (List D) := fnO 2 4 c_needless
def c_shortest_row : CS := (seqS (exprS (fnC m_require_view (consA (varC 0) nilA)))
    (seqS (exprS (fnC m_require_row (consA (varC 0) (consA (varC 1) nilA))))
    (retS (fnC m_shortest_with (consA (varC 0) (consA (fnC m_effect_of (consA (varC 0) (consA (varC 1) nilA))) nilA))))))
def m_shortest_row : List D → R D := fnV 2 2 c_shortest_row
def c_all_effects : CS := (seqS (exprS (fnC m_require_view (consA (varC 0) nilA)))
    (retOS (fnCO m_effects_of (consA (varC 0) nilA))))
def m_all_effects : List D → R (List D) := fnO 1 1 c_all_effects
def c_require_items : CS := (seqS (ifS (orT (notT (bvC (isC "tuple" (varC 1)))) (notT (bvC (chainC leD leD (litC (.int 1)) (callC lenD (consA (varC 1) nilA)) (litC (.int 6)))))) (raiseS 4) nextS)
    (seqS (ifS (notT (bvC (callC allD (consA (frzC (lcO [2] (seqI (varC 1)) (setG 2) yesT (fnC m_is_integer (consA (varC 2) (consA (litC (.int 0)) (consA (op2C subD (callC lenD (consA (op2C ixD (varC 0) (litC (.int 0))) nilA)) (litC (.int 1))) nilA)))))) nilA)))) (raiseS 4) nextS)
    (ifS (notT (bvC (callC allD (consA (frzC (lcO [3, 4] (zipI (consA (varC 1) (consA (sliceC slD (varC 1) (partP (litC (.int 1))) noP) nilA))) (tupG (consG (setG 3) (consG (setG 4) nilG))) yesT (op2C ltD (varC 3) (varC 4)))) nilA)))) (raiseS 4) nextS)))
def m_require_items : List D → R D := fnV 2 5 c_require_items
def c_common : CS := (seqS (setS 2 (frzC (lcO [5] (seqI (varC 1)) (setG 5) yesT (fnC m_range_of (consA (varC 0) (consA (varC 5) nilA))))))
    (seqS (parS [3, 4] (valM (callC maxD (consA (frzC (lcO [6] (seqI (varC 2)) (setG 6) yesT (op2C ixD (varC 6) (litC (.int 0))))) nilA)) (valM (callC minD (consA (frzC (lcO [6] (seqI (varC 2)) (setG 6) yesT (op2C ixD (varC 6) (litC (.int 1))))) nilA)) nilM)))
    (retS (ifC (bvC (op2C leD (varC 3) (varC 4))) (tupC (consA (varC 3) (consA (varC 4) nilA))) (litC .none)))))
def m_common : List D → R D := fnV 2 7 c_common
def c_all_orders : CS := (seqS (setS 1 (frzC (lstO (consA (tupC nilA) nilA))))
    (seqS (forS (seqI (varC 0)) (setG 2) (seqS (setS 3 (frzC (lstO nilA)))
    (seqS (forS (seqI (varC 1)) (setG 4) (setS 3 (op2C addD (varC 3) (frzC (lcO [5] (rng1I (consA (op2C addD (callC lenD (consA (varC 4) nilA)) (litC (.int 1))) nilA)) (setG 5) yesT (op2C addD (op2C addD (sliceC slD (varC 4) noP (partP (varC 5))) (tupC (consA (varC 2) nilA))) (sliceC slD (varC 4) (partP (varC 5)) noP)))))))
    (setS 1 (varC 3)))))
    (retS (varC 1))))
def m_all_orders : List D → R D := fnV 1 6 c_all_orders
def c_best_for : CS := (retS (callC minT (consA (frzC (lcO [3] (seqI (fnC m_all_orders (consA (varC 2) nilA))) (setG 3) yesT (tupC (consA (fnC m_distance_of (consA (varC 0) (consA (varC 1) (consA (varC 3) nilA)))) (consA (varC 3) nilA))))) nilA)))
def m_best_for : List D → R D := fnV 3 4 c_best_for
def c_together : CS := (seqS (exprS (fnC m_require_view (consA (varC 0) nilA)))
    (seqS (exprS (fnC m_require_items (consA (varC 0) (consA (varC 1) nilA))))
    (retS (fnC m_common (consA (varC 0) (consA (varC 1) nilA))))))
def m_together : List D → R D := fnV 2 2 c_together
def c_least_scroll : CS := (seqS (exprS (fnC m_require_view (consA (varC 0) nilA)))
    (seqS (exprS (fnC m_require_position (consA (varC 0) (consA (varC 1) nilA))))
    (seqS (exprS (fnC m_require_items (consA (varC 0) (consA (varC 2) nilA))))
    (retS (op2C ixD (fnC m_best_for (consA (varC 0) (consA (varC 1) (consA (varC 2) nilA)))) (litC (.int 0)))))))
def m_least_scroll : List D → R D := fnV 3 3 c_least_scroll
def c_fewest_until_seen : CS := (seqS (exprS (fnC m_require_view (consA (varC 0) nilA)))
    (seqS (exprS (fnC m_require_position (consA (varC 0) (consA (varC 1) nilA))))
    (seqS (exprS (fnC m_require_items (consA (varC 0) (consA (varC 2) nilA))))
    (seqS (setS 3 (fnC m_common (consA (varC 0) (consA (varC 2) nilA))))
    (seqS (ifS (bvC (op2C isNoneD (varC 3) (litC .none))) (retS (litC .none)) nextS)
    (retS (ifC (bvC (chainC leD leD (op2C ixD (varC 3) (litC (.int 0))) (varC 1) (op2C ixD (varC 3) (litC (.int 1))))) (litC (.int 0)) (litC (.int 1)))))))))
def m_fewest_until_seen : List D → R D := fnV 3 4 c_fewest_until_seen
def c_starts_for : CS := (seqS (exprS (fnC m_require_view (consA (varC 0) nilA)))
    (seqS (exprS (fnC m_require_row (consA (varC 0) (consA (varC 1) nilA))))
    (seqS (exprS (fnC m_require_position (consA (varC 0) (consA (varC 2) nilA))))
    (seqS (setS 3 (frzC (lcO [4] (rng1I (consA (op2C addD (fnC m_top_of (consA (varC 0) nilA)) (litC (.int 1))) nilA)) (setG 4) (bvC (op2C eqD (fnC m_end_of (consA (varC 0) (consA (varC 4) (consA (varC 1) nilA)))) (varC 2))) (varC 4))))
    (retS (ifC (bvC (op2C neD (varC 3) (frzC (lstO nilA)))) (tupC (consA (op2C ixD (varC 3) (litC (.int 0))) (consA (op2C ixD (varC 3) (op1C negD (litC (.int 1)))) nilA))) (litC .none)))))))
def m_starts_for : List D → R D := fnV 3 5 c_starts_for
def c_lost_reveals : CS := (seqS (exprS (fnC m_require_view (consA (varC 0) nilA)))
    (seqS (exprS (fnC m_require_position (consA (varC 0) (consA (varC 1) nilA))))
    (seqS (exprS (fnC m_require_row (consA (varC 0) (consA (varC 2) nilA))))
    (seqS (ifS (bvC (op2C eqD (callC lenD (consA (varC 2) nilA)) (litC (.int 30)))) (raiseS 3) nextS)
    (seqS (exprS (fnC m_require_position (consA (varC 0) (consA (varC 3) nilA))))
    (seqS (setOS 4 (lstO nilA))
    (seqS (forS (rng1I (consA (op2C addD (callC lenD (consA (varC 2) nilA)) (litC (.int 1))) nilA)) (setG 5) (forS (rng1I (consA (callC lenD (consA (op2C ixD (varC 0) (litC (.int 0))) nilA)) nilA)) (setG 6) (ifS (bvC (op2C eqD (fnC m_end_of (consA (varC 0) (consA (varC 1) (consA (op2C addD (op2C addD (sliceC slD (varC 2) noP (partP (varC 5))) (tupC (consA (varC 6) nilA))) (sliceC slD (varC 2) (partP (varC 5)) noP)) nilA)))) (varC 3))) (appS 4 (tupC (consA (varC 5) (consA (varC 6) nilA)))) nextS)))
    (retOS (mvO 4)))))))))
def m_lost_reveals : List D → R (List D) := fnO 4 7 c_lost_reveals
def c_law_source : CS := (seqS (setS 2 (litC (.int 0)))
    (seqS (ifS (bvC (op2C ltD (varC 1) (callC lenD (consA (varC 0) nilA)))) (setS 2 (op2C ixD (varC 0) (varC 1))) nextS)
    (seqS (setS 3 (frzC (lstO (consA (litC (.int 2147483647)) (consA (litC (.int 2147483629)) (consA (litC (.int 2147483587)) (consA (litC (.int 2147483579)) (consA (litC (.int 2147483563)) (consA (litC (.int 2147483549)) (consA (litC (.int 2147483543)) (consA (litC (.int 2147483497)) nilA)))))))))))
    (seqS (setS 4 (op2C modD (op2C mulD (op2C addD (op2C modD (varC 2) (litC (.int 2147483489))) (litC (.int 1))) (op2C addD (litC (.int 48271)) (op2C mulD (litC (.int 2)) (varC 1)))) (litC (.int 2147483489))))
    (seqS (setS 4 (op2C addD (op2C addD (op2C modD (op2C mulD (varC 4) (varC 4)) (litC (.int 2147483477))) (varC 1)) (litC (.int 1))))
    (seqS (ifS (bvC (op2C geD (varC 2) (op2C powD (litC (.int 10)) (litC (.int 18))))) (retOS (lstO (consA (varC 2) (consA (varC 4) (consA (op2C ixD (varC 3) (op2C modD (varC 1) (litC (.int 8)))) nilA))))) nextS)
    (retOS (lstO (consA (litC (.int 0)) (consA (varC 4) (consA (op2C ixD (varC 3) (op2C modD (varC 1) (litC (.int 8)))) nilA)))))))))))
def m_law_source : List D → R (List D) := fnO 2 5 c_law_source
def c_law_pick : CS := (seqS (ifS (bvC (op2C gtD (ixOwn 0 (litC (.int 0))) (litC (.int 0)))) (seqS (setS 2 (op2C modD (ixOwn 0 (litC (.int 0))) (varC 1)))
    (seqS (setItS 0 (litC (.int 0)) (op2C fdivD (ixOwn 0 (litC (.int 0))) (varC 1)))
    (retS (varC 2)))) nextS)
    (seqS (setItS 0 (litC (.int 1)) (op2C addD (op2C modD (op2C mulD (ixOwn 0 (litC (.int 1))) (litC (.int 48271))) (ixOwn 0 (litC (.int 2)))) (litC (.int 1))))
    (retS (op2C modD (op2C fdivD (op2C modD (op2C mulD (ixOwn 0 (litC (.int 1))) (ixOwn 0 (litC (.int 1)))) (litC (.int 2147483423))) (litC (.int 7))) (varC 1)))))
def m_law_pick : List D → List D → R (D × List D) := fnM 2 3 c_law_pick
def c_law_is_bool : CS := (retS (andC (isC "bool" (varC 0)) (op2C eqD (varC 0) (varC 1))))
def m_law_is_bool : List D → R D := fnV 2 2 c_law_is_bool
def c_law_is_integer : CS := (retS (andC (isC "int" (varC 0)) (andC (notC (isC "bool" (varC 0))) (andC (op2C leD (varC 1) (varC 0)) (op2C leD (varC 0) (varC 2))))))
def m_law_is_integer : List D → R D := fnV 3 3 c_law_is_integer
def c_law_view : CS := (seqS (parS [3, 4] (valM (tupC nilA) (valM (op2C addD (litC (.int 1)) (fnCM 0 m_law_pick (consA (varC 2) nilA))) nilM)))
    (seqS (setS 5 (fnCM 0 m_law_pick (consA (litC (.int 3)) nilA)))
    (seqS (forS (rng1I (consA (op2C addD (litC (.int 1)) (fnCM 0 m_law_pick (consA (varC 1) nilA))) nilA)) (setG 6) (seqS (setS 7 (ifC (bvC (op2C eqD (varC 5) (litC (.int 0)))) (varC 4) (op2C addD (litC (.int 1)) (fnCM 0 m_law_pick (consA (varC 2) nilA)))))
    (seqS (ifS (andT (bvC (op2C eqD (varC 5) (litC (.int 2)))) (bvC (op2C eqD (fnCM 0 m_law_pick (consA (litC (.int 4)) nilA)) (litC (.int 0))))) (setS 7 (callC minD (consA (litC (.int 100)) (consA (op2C mulD (litC (.int 4)) (varC 2)) nilA)))) nextS)
    (setS 3 (op2C addD (varC 3) (tupC (consA (varC 7) nilA)))))))
    (seqS (setS 8 (op2C addD (litC (.int 1)) (fnCM 0 m_law_pick (consA (op2C ixD (frzC (lstO (consA (varC 2) (consA (op2C mulD (litC (.int 3)) (varC 2)) (consA (op2C mulD (litC (.int 6)) (varC 2)) nilA))))) (fnCM 0 m_law_pick (consA (litC (.int 3)) nilA))) nilA))))
    (retS (tupC (consA (varC 3) (consA (callC minD (consA (litC (.int 500)) (consA (varC 8) nilA))) nilA))))))))
def m_law_view : List D → List D → R (D × List D) := fnM 3 9 c_law_view
def c_law_last : CS := (retS (callC maxD (consA (litC (.int 0)) (consA (op2C subD (callC sumD (consA (op2C ixD (varC 0) (litC (.int 0))) nilA)) (op2C ixD (varC 0) (litC (.int 1)))) nilA))))
def m_law_last : List D → R D := fnV 1 1 c_law_last
def c_law_is_good : CS := (seqS (ifS (orT (notT (bvC (isC "tuple" (varC 0)))) (orT (bvC (op2C neD (callC lenD (consA (varC 0) nilA)) (litC (.int 2)))) (notT (bvC (isC "tuple" (op2C ixD (varC 0) (litC (.int 0)))))))) (retS (litC (.bool false))) nextS)
    (seqS (ifS (orT (notT (bvC (chainC leD leD (litC (.int 1)) (callC lenD (consA (op2C ixD (varC 0) (litC (.int 0))) nilA)) (litC (.int 20))))) (notT (bvC (fnC m_law_is_integer (consA (op2C ixD (varC 0) (litC (.int 1))) (consA (litC (.int 1)) (consA (litC (.int 500)) nilA))))))) (retS (litC (.bool false))) nextS)
    (retS (op2C eqD (frzC (lcO [1] (seqI (op2C ixD (varC 0) (litC (.int 0)))) (setG 1) (notT (bvC (fnC m_law_is_integer (consA (varC 1) (consA (litC (.int 1)) (consA (litC (.int 100)) nilA)))))) (varC 1))) (frzC (lstO nilA))))))
def m_law_is_good : List D → R D := fnV 1 2 c_law_is_good
def c_law_edges : CS := (seqS (setS 2 (litC (.int 0)))
    (seqS (forS (seqI (sliceC slD (op2C ixD (varC 0) (litC (.int 0))) noP (partP (varC 1)))) (setG 3) (setS 2 (op2C addD (varC 2) (varC 3))))
    (retOS (lstO (consA (varC 2) (consA (op2C addD (varC 2) (op2C ixD (op2C ixD (varC 0) (litC (.int 0))) (varC 1))) nilA))))))
def m_law_edges : List D → R (List D) := fnO 2 4 c_law_edges
def c_law_is_seen : CS := (seqS (asgS (frzC (fnCO m_law_edges (consA (varC 0) (consA (varC 2) nilA)))) (lstG (consG (setG 3) (consG (setG 4) nilG))))
    (retS (orC (andC (op2C leD (varC 1) (varC 3)) (op2C leD (varC 4) (op2C addD (varC 1) (op2C ixD (varC 0) (litC (.int 1)))))) (andC (op2C leD (varC 3) (varC 1)) (op2C leD (op2C addD (varC 1) (op2C ixD (varC 0) (litC (.int 1)))) (varC 4))))))
def m_law_is_seen : List D → R D := fnV 3 5 c_law_is_seen
def c_law_to : CS := (retS (ifC (bvC (op2C ltD (varC 0) (op2C ixD (varC 1) (litC (.int 0))))) (op2C ixD (varC 1) (litC (.int 0))) (callC minD (consA (op2C ixD (varC 1) (litC (.int 1))) (consA (varC 0) nilA)))))
def m_law_to : List D → R D := fnV 2 2 c_law_to
def c_law_row : CS := (seqS (setS 3 (frzC (lcO [5] (rng1I (consA (litC (.int 3)) nilA)) (setG 5) yesT (fnCM 0 m_law_pick (consA (callC lenD (consA (op2C ixD (varC 1) (litC (.int 0))) nilA)) nilA)))))
    (seqS (setS 4 (tupC nilA))
    (seqS (forS (rng1I (consA (fnCM 0 m_law_pick (consA (op2C addD (varC 2) (litC (.int 1))) nilA)) nilA)) (setG 5) (seqS (setS 6 (op2C ixD (varC 3) (fnCM 0 m_law_pick (consA (litC (.int 3)) nilA))))
    (seqS (ifS (bvC (op2C eqD (fnCM 0 m_law_pick (consA (litC (.int 2)) nilA)) (litC (.int 0)))) (setS 6 (fnCM 0 m_law_pick (consA (callC lenD (consA (op2C ixD (varC 1) (litC (.int 0))) nilA)) nilA))) nextS)
    (setS 4 (op2C addD (varC 4) (tupC (consA (varC 6) nilA)))))))
    (retS (varC 4)))))
def m_law_row : List D → List D → R (D × List D) := fnM 3 7 c_law_row
def c_law_pair : CS := (seqS (asgS (frzC (fnCO m_law_edges (consA (varC 0) (consA (varC 1) nilA)))) (lstG (consG (setG 2) (consG (setG 3) nilG))))
    (seqS (parS [4, 5] (valM (op2C subD (varC 3) (op2C ixD (varC 0) (litC (.int 1)))) (valM (varC 2) nilM)))
    (seqS (ifS (bvC (op2C gtD (op2C subD (varC 3) (varC 2)) (op2C ixD (varC 0) (litC (.int 1))))) (parS [4, 5] (valM (varC 2) (valM (op2C subD (varC 3) (op2C ixD (varC 0) (litC (.int 1)))) nilM))) nextS)
    (retS (tupC (consA (callC maxD (consA (litC (.int 0)) (consA (varC 4) nilA))) (consA (callC minD (consA (fnC m_law_last (consA (varC 0) nilA)) (consA (varC 5) nilA))) nilA)))))))
def m_law_pair : List D → R D := fnV 2 6 c_law_pair
def c_law_behind : CS := (seqS (forS (seqI (varC 2)) (setG 3) (setS 1 (fnC m_law_to (consA (varC 1) (consA (fnC m_law_pair (consA (varC 0) (consA (varC 3) nilA))) nilA)))))
    (retS (varC 1)))
def m_law_behind : List D → R D := fnV 3 4 c_law_behind
def c_law_last_ones : CS := (retS (callC tupleD (consA (frzC (lcO [1, 2] (enumI (varC 0)) (tupG (consG (setG 1) (consG (setG 2) nilG))) (bvC (op2C notInD (varC 2) (sliceC slD (varC 0) (partP (op2C addD (varC 1) (litC (.int 1)))) noP))) (varC 2))) nilA)))
def m_law_last_ones : List D → R D := fnV 1 3 c_law_last_ones
def c_law_read : CS := (seqS (parS [2, 3] (valM (litC (.int 0)) (valM (fnC m_law_last (consA (varC 0) nilA)) nilM)))
    (seqS (forS (enumI (op1C revD (varC 1))) (tupG (consG (setG 4) (consG (setG 5) nilG))) (seqS (setS 6 (fnC m_law_pair (consA (varC 0) (consA (varC 5) nilA))))
    (seqS (ifS (bvC (op2C ltD (op2C ixD (varC 6) (litC (.int 1))) (varC 2))) (retOS (lstO (consA (tupC (consA (varC 2) (consA (varC 2) nilA))) (consA (op2C addD (varC 4) (litC (.int 1))) nilA)))) nextS)
    (seqS (ifS (bvC (op2C gtD (op2C ixD (varC 6) (litC (.int 0))) (varC 3))) (retOS (lstO (consA (tupC (consA (varC 3) (consA (varC 3) nilA))) (consA (op2C addD (varC 4) (litC (.int 1))) nilA)))) nextS)
    (parS [2, 3] (valM (callC maxD (consA (varC 2) (consA (op2C ixD (varC 6) (litC (.int 0))) nilA))) (valM (callC minD (consA (varC 3) (consA (op2C ixD (varC 6) (litC (.int 1))) nilA))) nilM)))))))
    (retOS (lstO (consA (tupC (consA (varC 2) (consA (varC 3) nilA))) (consA (callC lenD (consA (varC 1) nilA)) nilA))))))
def m_law_read : List D → R (List D) := fnO 2 7 c_law_read
def c_law_effect : CS := (retS (tupC (consA (fnC m_law_behind (consA (varC 0) (consA (litC (.int 0)) (consA (varC 1) nilA)))) (consA (fnC m_law_behind (consA (varC 0) (consA (fnC m_law_last (consA (varC 0) nilA)) (consA (varC 1) nilA)))) nilA))))
def m_law_effect : List D → R D := fnV 2 2 c_law_effect
def c_law_chosen : CS := (seqS (parS [3, 4] (valM (fnCM 0 m_law_pick (consA (callC lenD (consA (op2C ixD (varC 1) (litC (.int 0))) nilA)) nilA)) (ownM (lstO nilA) nilM)))
    (seqS (forS (rng1I (consA (op2C addD (litC (.int 1)) (fnCM 0 m_law_pick (consA (varC 2) nilA))) nilA)) (setG 5) (seqS (setS 6 (op2C ixD (frzC (lstO (consA (fnCM 0 m_law_pick (consA (callC lenD (consA (op2C ixD (varC 1) (litC (.int 0))) nilA)) nilA)) (consA (callC minD (consA (op2C subD (callC lenD (consA (op2C ixD (varC 1) (litC (.int 0))) nilA)) (litC (.int 1))) (consA (op2C addD (varC 3) (varC 5)) nilA))) nilA)))) (fnCM 0 m_law_pick (consA (litC (.int 2)) nilA))))
    (ifS (bvC (look2R notInD 4 (varC 6))) (appS 4 (varC 6)) nextS)))
    (preS 4 (retS (callC tupleD (consA (frzC (callO sortedD (consA (varC 4) nilA))) nilA))))))
def m_law_chosen : List D → List D → R (D × List D) := fnM 3 7 c_law_chosen
def c_order_effects : CS := (seqS (exprS (fnC m_require_view (consA (varC 0) nilA)))
    (seqS (exprS (fnC m_require_items (consA (varC 0) (consA (varC 1) nilA))))
    (retOS (callO sortSetD (consA (frzC (lcO [2] (seqI (fnC m_all_orders (consA (varC 1) nilA))) (setG 2) yesT (fnC m_effect_of (consA (varC 0) (consA (varC 2) nilA))))) nilA)))))
def m_order_effects : List D → R (List D) := fnO 2 3 c_order_effects
def c_law_orders : CS := (seqS (setS 1 (frzC (lstO (consA (tupC nilA) nilA))))
    (seqS (forS (seqI (varC 0)) (setG 2) (seqS (setS 3 (frzC (lstO nilA)))
    (seqS (forS (seqI (varC 1)) (setG 4) (setS 3 (op2C addD (varC 3) (frzC (lcO [5] (rng1I (consA (op2C addD (callC lenD (consA (varC 4) nilA)) (litC (.int 1))) nilA)) (setG 5) yesT (op2C addD (op2C addD (sliceC slD (varC 4) noP (partP (varC 5))) (tupC (consA (varC 2) nilA))) (sliceC slD (varC 4) (partP (varC 5)) noP)))))))
    (setS 1 (varC 3)))))
    (retS (varC 1))))
def m_law_orders : List D → R D := fnV 1 6 c_law_orders
def c_best_order : CS := (seqS (exprS (fnC m_require_view (consA (varC 0) nilA)))
    (seqS (exprS (fnC m_require_position (consA (varC 0) (consA (varC 1) nilA))))
    (seqS (exprS (fnC m_require_items (consA (varC 0) (consA (varC 2) nilA))))
    (retS (op2C ixD (fnC m_best_for (consA (varC 0) (consA (varC 1) (consA (varC 2) nilA)))) (litC (.int 1)))))))
def m_best_order : List D → R D := fnV 3 3 c_best_order
def c_law_distance : CS := (seqS (setS 3 (litC (.int 0)))
    (seqS (forS (seqI (varC 2)) (setG 4) (seqS (setS 5 (fnC m_law_to (consA (varC 1) (consA (fnC m_law_pair (consA (varC 0) (consA (varC 4) nilA))) nilA))))
    (parS [3, 1] (valM (op2C addD (varC 3) (callC absD (consA (op2C subD (varC 5) (varC 1)) nilA))) (valM (varC 5) nilM)))))
    (retS (varC 3))))
def m_law_distance : List D → R D := fnV 3 6 c_law_distance
def c_law_by_ends : CS := (seqS (setS 3 (frzC (lcO [8] (seqI (varC 2)) (setG 8) yesT (fnC m_law_pair (consA (varC 0) (consA (varC 8) nilA))))))
    (seqS (parS [4, 5] (valM (callC minD (consA (frzC (lcO [9] (seqI (varC 3)) (setG 9) yesT (op2C ixD (varC 9) (litC (.int 1))))) nilA)) (valM (callC maxD (consA (frzC (lcO [9] (seqI (varC 3)) (setG 9) yesT (op2C ixD (varC 9) (litC (.int 0))))) nilA)) nilM)))
    (seqS (ifS (bvC (op2C leD (varC 5) (varC 4))) (retS (callC absD (consA (op2C subD (varC 1) (fnC m_law_to (consA (varC 1) (consA (tupC (consA (varC 5) (consA (varC 4) nilA))) nilA)))) nilA))) nextS)
    (seqS (parS [6, 7] (valM (callC minD (consA (varC 1) (consA (varC 4) nilA))) (valM (callC maxD (consA (varC 1) (consA (varC 5) nilA))) nilM)))
    (retS (callC minD (consA (op2C subD (op2C addD (op2C subD (varC 1) (varC 6)) (varC 5)) (varC 6)) (consA (op2C subD (op2C addD (op2C subD (varC 7) (varC 1)) (varC 7)) (varC 4)) nilA))))))))
def m_law_by_ends : List D → R D := fnV 3 10 c_law_by_ends
def c_law_least : CS := (seqS (setS 3 (frzC (lrg1O (op2C addD (fnC m_law_last (consA (varC 0) nilA)) (litC (.int 1))))))
    (seqS (setS 4 (frzC (lcO [11] (seqI (varC 3)) (setG 11) yesT (ifC (bvC (op2C eqD (varC 11) (varC 1))) (litC (.int 0)) (litC (.int 9999))))))
    (seqS (forS (seqI (varC 2)) (setG 5) (seqS (asgS (fnC m_law_pair (consA (varC 0) (consA (varC 5) nilA))) (tupG (consG (setG 6) (consG (setG 7) nilG))))
    (seqS (setOS 8 (lstO nilA))
    (seqS (forS (seqI (varC 3)) (setG 9) (seqS (setS 10 (callC minD (consA (frzC (lcO [11] (seqI (varC 3)) (setG 11) yesT (op2C addD (op2C ixD (varC 4) (varC 11)) (callC absD (consA (op2C subD (varC 9) (varC 11)) nilA))))) nilA)))
    (appS 8 (ifC (bvC (chainC leD leD (varC 6) (varC 9) (varC 7))) (varC 10) (litC (.int 9999))))))
    (setS 4 (frzC (mvO 8)))))))
    (retS (callC minD (consA (varC 4) nilA))))))
def m_law_least : List D → R D := fnV 3 12 c_law_least
def c_require_number : CS := (ifS (notT (bvC (fnC m_is_integer (consA (varC 0) (consA (litC (.int 0)) (consA (varC 1) nilA)))))) (raiseS 6) nextS)
def m_require_number : List D → R D := fnV 2 2 c_require_number
def c_farthest : CS := (seqS (parS [2, 3] (valM (op2C ixD (fnC m_range_of (consA (varC 0) (consA (litC (.int 0)) nilA))) (litC (.int 1))) (valM (op2C ixD (fnC m_range_of (consA (varC 0) (consA (op2C subD (callC lenD (consA (op2C ixD (varC 0) (litC (.int 0))) nilA)) (litC (.int 1))) nilA))) (litC (.int 0))) nilM)))
    (retS (tupC (consA (callC maxD (consA (litC (.int 0)) (consA (op2C subD (varC 1) (varC 2)) (consA (op2C subD (varC 3) (varC 1)) nilA)))) (consA (callC maxD (consA (litC (.int 0)) (consA (op2C subD (varC 3) (varC 2)) nilA))) nilA)))))
def m_farthest : List D → R D := fnV 2 4 c_farthest
def c_greatest_scroll : CS := (seqS (exprS (fnC m_require_view (consA (varC 0) nilA)))
    (seqS (exprS (fnC m_require_position (consA (varC 0) (consA (varC 1) nilA))))
    (seqS (exprS (fnC m_require_number (consA (varC 2) (consA (litC (.int 1000000000000)) nilA))))
    (seqS (asgS (fnC m_farthest (consA (varC 0) (consA (varC 1) nilA))) (tupG (consG (setG 3) (consG (setG 4) nilG))))
    (retS (ifC (bvC (op2C gtD (varC 2) (litC (.int 0)))) (op2C addD (varC 3) (op2C mulD (op2C subD (varC 2) (litC (.int 1))) (varC 4))) (litC (.int 0))))))))
def m_greatest_scroll : List D → R D := fnV 3 5 c_greatest_scroll
def c_law_far_rows : CS := (seqS (setS 3 (frzC (lcO [11] (rng1I (consA (callC lenD (consA (op2C ixD (varC 0) (litC (.int 0))) nilA)) nilA)) (setG 11) yesT (fnC m_law_pair (consA (varC 0) (consA (varC 11) nilA))))))
    (seqS (parS [4, 5] (ownCM (dispC false (varC 1) (litC (.int 0))) (ownM (lstO (consA (litC (.int 0)) nilA)) nilM)))
    (seqS (forS (rng1I (consA (varC 2) nilA)) (setG 6) (seqS (setCS 7 (dnewC false))
    (seqS (preDS 4 (forS (keysI (varC 4)) (setG 8) (forS (seqI (varC 3)) (setG 9) (seqS (setS 10 (fnC m_law_to (consA (varC 8) (consA (varC 9) nilA))))
    (dputS 7 (varC 10) (callC maxD (consA (dget2Own 7 (varC 10) (litC (.int 0))) (consA (op2C addD (op2C dixD (varC 4) (varC 8)) (callC absD (consA (op2C subD (varC 10) (varC 8)) nilA))) nilA))))))))
    (seqS (setCS 4 (mvC 7))
    (preDS 4 (appS 5 (callC maxD (consA (frzC (lcO [8] (keysI (varC 4)) (setG 8) yesT (op2C dixD (varC 4) (varC 8)))) nilA))))))))
    (retOS (mvO 5)))))
def m_law_far_rows : List D → R (List D) := fnO 3 12 c_law_far_rows
def c_fewest_for : CS := (seqS (exprS (fnC m_require_view (consA (varC 0) nilA)))
    (seqS (exprS (fnC m_require_position (consA (varC 0) (consA (varC 1) nilA))))
    (seqS (exprS (fnC m_require_number (consA (varC 2) (consA (litC (.int 1000000000000000)) nilA))))
    (seqS (asgS (fnC m_farthest (consA (varC 0) (consA (varC 1) nilA))) (tupG (consG (setG 3) (consG (setG 4) nilG))))
    (seqS (ifS (bvC (op2C eqD (varC 2) (litC (.int 0)))) (retS (litC (.int 0))) nextS)
    (seqS (ifS (bvC (op2C leD (varC 2) (varC 3))) (retS (litC (.int 1))) nextS)
    (retS (ifC (bvC (op2C gtD (varC 4) (litC (.int 0)))) (op2C addD (litC (.int 1)) (op2C fdivD (op2C subD (op2C addD (op2C subD (varC 2) (varC 3)) (varC 4)) (litC (.int 1))) (varC 4))) (litC .none)))))))))
def m_fewest_for : List D → R D := fnV 3 5 c_fewest_for
def c_sure_positions : CS := (seqS (exprS (fnC m_require_view (consA (varC 0) nilA)))
    (retOS (lcO [2, 1] (lstI (frzC (fnCO m_effects_of (consA (varC 0) nilA)))) (tupG (consG (setG 2) (consG (setG 1) nilG))) (bvC (op2C eqD (varC 2) (varC 1))) (varC 2))))
def m_sure_positions : List D → R (List D) := fnO 1 3 c_sure_positions
def c_making_sure : CS := (seqS (exprS (fnC m_require_view (consA (varC 0) nilA)))
    (seqS (exprS (fnC m_require_position (consA (varC 0) (consA (varC 1) nilA))))
    (retS (fnC m_shortest_with (consA (varC 0) (consA (tupC (consA (varC 1) (consA (varC 1) nilA))) nilA))))))
def m_making_sure : List D → R D := fnV 2 2 c_making_sure
def c_law_lost_right : CS := (seqS (parS [4, 5] (valM (fnCM 0 m_law_pick (consA (op2C addD (callC lenD (consA (varC 3) nilA)) (litC (.int 1))) nilA)) (valM (fnCM 0 m_law_pick (consA (callC lenD (consA (op2C ixD (varC 1) (litC (.int 0))) nilA)) nilA)) nilM)))
    (seqS (setS 6 (fnC m_law_behind (consA (varC 1) (consA (varC 2) (consA (op2C addD (op2C addD (sliceC slD (varC 3) noP (partP (varC 4))) (tupC (consA (varC 5) nilA))) (sliceC slD (varC 3) (partP (varC 4)) noP)) nilA)))))
    (seqS (forS (lstI (frzC (lstO (consA (varC 6) (consA (fnCM 0 m_law_pick (consA (op2C addD (fnC m_law_last (consA (varC 1) nilA)) (litC (.int 1))) nilA)) nilA))))) (setG 7) (seqS (setOS 8 (lstO nilA))
    (seqS (forS (rng1I (consA (op2C addD (callC lenD (consA (varC 3) nilA)) (litC (.int 1))) nilA)) (setG 9) (forS (rng1I (consA (callC lenD (consA (op2C ixD (varC 1) (litC (.int 0))) nilA)) nilA)) (setG 10) (seqS (setS 11 (op2C addD (op2C addD (sliceC slD (varC 3) noP (partP (varC 9))) (tupC (consA (varC 10) nilA))) (sliceC slD (varC 3) (partP (varC 9)) noP)))
    (ifS (bvC (op2C eqD (fnC m_law_behind (consA (varC 1) (consA (varC 2) (consA (varC 11) nilA)))) (varC 7))) (appS 8 (tupC (consA (varC 9) (consA (varC 10) nilA)))) nextS))))
    (ifS (bvC (look2R neD 8 (frzC (fnCO m_lost_reveals (consA (varC 1) (consA (varC 2) (consA (varC 3) (consA (varC 7) nilA)))))))) (retS (litC (.bool false))) nextS))))
    (retS (op2C inD (tupC (consA (varC 4) (consA (varC 5) nilA))) (frzC (fnCO m_lost_reveals (consA (varC 1) (consA (varC 2) (consA (varC 3) (consA (varC 6) nilA)))))))))))
def m_law_lost_right : List D → List D → R (D × List D) := fnM 4 12 c_law_lost_right
def c_require_sightings : CS := (seqS (ifS (orT (notT (bvC (isC "tuple" (varC 0)))) (bvC (op2C gtD (callC lenD (consA (varC 0) nilA)) (litC (.int 8))))) (raiseS 7) nextS)
    (forS (seqI (varC 0)) (setG 1) (ifS (orT (notT (bvC (isC "tuple" (varC 1)))) (orT (bvC (op2C neD (callC lenD (consA (varC 1) nilA)) (litC (.int 3)))) (notT (bvC (callC allD (consA (frzC (lcO [2] (seqI (varC 1)) (setG 2) yesT (fnC m_is_integer (consA (varC 2) (consA (litC (.int 0)) (consA (litC (.int 2000)) nilA)))))) nilA)))))) (raiseS 7) nextS)))
def m_require_sightings : List D → R D := fnV 1 3 c_require_sightings
def c_is_right : CS := (seqS (asgS (varC 1) (tupG (consG (setG 2) (consG (setG 3) (consG (setG 4) nilG)))))
    (seqS (ifS (orT (bvC (op2C gtD (varC 2) (fnC m_top_of (consA (varC 0) nilA)))) (bvC (op2C geD (varC 3) (callC lenD (consA (op2C ixD (varC 0) (litC (.int 0))) nilA))))) (retS (litC (.bool false))) nextS)
    (retS (op2C eqD (fnC m_nearest (consA (varC 2) (consA (fnC m_range_of (consA (varC 0) (consA (varC 3) nilA))) nilA))) (varC 4)))))
def m_is_right : List D → R D := fnV 2 5 c_is_right
def c_windows_for : CS := (seqS (setOS 2 (lstO nilA))
    (seqS (forS (rng2I (consA (litC (.int 1)) (consA (op2C addD (litC (.int 500)) (litC (.int 1))) nilA))) (setG 3) (ifS (bvC (callC allD (consA (frzC (lcO [4] (seqI (varC 1)) (setG 4) yesT (fnC m_is_right (consA (tupC (consA (varC 0) (consA (varC 3) nilA))) (consA (varC 4) nilA))))) nilA))) (appS 2 (varC 3)) nextS))
    (retOS (mvO 2))))
def m_windows_for : List D → R (List D) := fnO 2 5 c_windows_for
def c_possible_windows : CS := (seqS (ifS (notT (bvC (fnC m_is_heights (consA (varC 0) nilA)))) (raiseS 5) nextS)
    (seqS (exprS (fnC m_require_sightings (consA (varC 1) nilA)))
    (retOS (fnCO m_windows_for (consA (varC 0) (consA (varC 1) nilA))))))
def m_possible_windows : List D → R (List D) := fnO 2 2 c_possible_windows
def c_wrong_sightings : CS := (seqS (ifS (notT (bvC (fnC m_is_heights (consA (varC 0) nilA)))) (raiseS 5) nextS)
    (seqS (exprS (fnC m_require_sightings (consA (varC 1) nilA)))
    (seqS (ifS (bvC (op2C neD (frzC (fnCO m_windows_for (consA (varC 0) (consA (varC 1) nilA)))) (frzC (lstO nilA)))) (retOS (lstO nilA)) nextS)
    (seqS (setS 2 (frzC (lcO [3] (rng1I (consA (callC lenD (consA (varC 1) nilA)) nilA)) (setG 3) yesT (tupC (consA (varC 3) (consA (op2C addD (sliceC slD (varC 1) noP (partP (varC 3))) (sliceC slD (varC 1) (partP (op2C addD (varC 3) (litC (.int 1)))) noP)) nilA))))))
    (retOS (lcO [3, 4] (seqI (varC 2)) (tupG (consG (setG 3) (consG (setG 4) nilG))) (bvC (op2C neD (frzC (fnCO m_windows_for (consA (varC 0) (consA (varC 4) nilA)))) (frzC (lstO nilA)))) (varC 3)))))))
def m_wrong_sightings : List D → R (List D) := fnO 2 5 c_wrong_sightings
def c_law_windows : CS := (seqS (setOS 2 (lstO nilA))
    (seqS (forS (rng2I (consA (litC (.int 1)) (consA (litC (.int 501)) nilA))) (setG 3) (seqS (setS 4 (litC (.bool true)))
    (seqS (forS (seqI (varC 1)) (tupG (consG (setG 5) (consG (setG 6) (consG (setG 7) nilG)))) (seqS (setS 8 (tupC (consA (varC 0) (consA (varC 3) nilA))))
    (ifS (orT (bvC (op2C geD (varC 6) (callC lenD (consA (varC 0) nilA)))) (orT (bvC (op2C gtD (varC 5) (fnC m_law_last (consA (varC 8) nilA)))) (bvC (op2C neD (fnC m_law_to (consA (varC 5) (consA (fnC m_law_pair (consA (varC 8) (consA (varC 6) nilA))) nilA))) (varC 7))))) (setS 4 (litC (.bool false))) nextS)))
    (ifS (bvC (varC 4)) (appS 2 (varC 3)) nextS))))
    (retOS (mvO 2))))
def m_law_windows : List D → R (List D) := fnO 2 9 c_law_windows
def c_require_heights : CS := (ifS (notT (bvC (fnC m_is_heights (consA (varC 0) nilA)))) (raiseS 5) nextS)
def m_require_heights : List D → R D := fnV 1 1 c_require_heights
def c_ranges_of : CS := (seqS (setOS 1 (lstO nilA))
    (seqS (forS (seqI (varC 0)) (setG 2) (ifS (andT (bvC (look2C neD 1 (frzC (lstO nilA)))) (bvC (op2C eqD (op2C ixD (ixOwn 1 (op1C negD (litC (.int 1)))) (litC (.int 1))) (op2C subD (varC 2) (litC (.int 1)))))) (setItS 1 (op1C negD (litC (.int 1))) (tupC (consA (op2C ixD (ixOwn 1 (op1C negD (litC (.int 1)))) (litC (.int 0))) (consA (varC 2) nilA)))) (appS 1 (tupC (consA (varC 2) (consA (varC 2) nilA))))))
    (retOS (mvO 1))))
def m_ranges_of : List D → R (List D) := fnO 1 3 c_ranges_of
def c_windows_together : CS := (seqS (exprS (fnC m_require_heights (consA (varC 0) nilA)))
    (seqS (exprS (fnC m_require_items (consA (tupC (consA (varC 0) (consA (litC (.int 1)) nilA))) (consA (varC 1) nilA))))
    (seqS (setS 2 (frzC (lcO [4] (rng2I (consA (litC (.int 1)) (consA (op2C addD (litC (.int 500)) (litC (.int 1))) nilA))) (setG 4) yesT (tupC (consA (varC 0) (consA (varC 4) nilA))))))
    (retOS (fnCO m_ranges_of (consA (frzC (lcO [3] (seqI (varC 2)) (setG 3) (bvC (op2C notNoneD (fnC m_common (consA (varC 3) (consA (varC 1) nilA))) (litC .none))) (op2C ixD (varC 3) (litC (.int 1))))) nilA))))))
def m_windows_together : List D → R (List D) := fnO 2 5 c_windows_together
def c_law_ranges : CS := (seqS (setOS 1 (lstO nilA))
    (seqS (forS (seqI (varC 0)) (setG 2) (ifS (andT (bvC (look2C neD 1 (frzC (lstO nilA)))) (bvC (op2C eqD (op2C ixD (ixOwn 1 (op1C negD (litC (.int 1)))) (litC (.int 1))) (op2C subD (varC 2) (litC (.int 1)))))) (setItS 1 (op1C negD (litC (.int 1))) (tupC (consA (op2C ixD (ixOwn 1 (op1C negD (litC (.int 1)))) (litC (.int 0))) (consA (varC 2) nilA)))) (appS 1 (tupC (consA (varC 2) (consA (varC 2) nilA))))))
    (retOS (mvO 1))))
def m_law_ranges : List D → R (List D) := fnO 1 3 c_law_ranges
def c_windows_alike : CS := (seqS (exprS (fnC m_require_heights (consA (varC 0) nilA)))
    (seqS (exprS (fnC m_require_row (consA (tupC (consA (varC 0) (consA (litC (.int 1)) nilA))) (consA (varC 1) nilA))))
    (seqS (exprS (fnC m_require_row (consA (tupC (consA (varC 0) (consA (litC (.int 1)) nilA))) (consA (varC 2) nilA))))
    (seqS (setS 3 (frzC (lcO [5] (rng2I (consA (litC (.int 1)) (consA (op2C addD (litC (.int 500)) (litC (.int 1))) nilA))) (setG 5) yesT (tupC (consA (varC 0) (consA (varC 5) nilA))))))
    (retOS (fnCO m_ranges_of (consA (frzC (lcO [4] (seqI (varC 3)) (setG 4) (bvC (op2C eqD (fnC m_effect_of (consA (varC 4) (consA (varC 1) nilA))) (fnC m_effect_of (consA (varC 4) (consA (varC 2) nilA))))) (op2C ixD (varC 4) (litC (.int 1))))) nilA)))))))
def m_windows_alike : List D → R (List D) := fnO 3 6 c_windows_alike
def c_law_other_row : CS := (seqS (parS [3, 4] (valM (fnCM 0 m_law_pick (consA (op2C addD (callC lenD (consA (varC 2) nilA)) (litC (.int 1))) nilA)) (valM (fnCM 0 m_law_pick (consA (litC (.int 4)) nilA)) nilM)))
    (seqS (ifS (orT (bvC (op2C eqD (varC 4) (litC (.int 0)))) (bvC (op2C eqD (varC 2) (tupC nilA)))) (retS (op2C addD (op2C addD (sliceC slD (varC 2) noP (partP (varC 3))) (tupC (consA (fnCM 0 m_law_pick (consA (callC lenD (consA (op2C ixD (varC 1) (litC (.int 0))) nilA)) nilA)) nilA))) (sliceC slD (varC 2) (partP (varC 3)) noP))) nextS)
    (seqS (ifS (bvC (op2C eqD (varC 4) (litC (.int 1)))) (retS (op2C addD (op2C addD (sliceC slD (varC 2) noP (partP (varC 3))) (op1C revD (sliceC slD (varC 2) (partP (varC 3)) (partP (op2C addD (varC 3) (litC (.int 2))))))) (sliceC slD (varC 2) (partP (op2C addD (varC 3) (litC (.int 2)))) noP))) nextS)
    (seqS (ifS (bvC (op2C eqD (varC 4) (litC (.int 2)))) (retS (op2C addD (sliceC slD (varC 2) noP (partP (varC 3))) (sliceC slD (varC 2) (partP (op2C addD (varC 3) (litC (.int 1)))) noP))) nextS)
    (retS (op2C addD (sliceC slD (varC 2) (partP (op1C negD (litC (.int 1)))) noP) (varC 2)))))))
def m_law_other_row : List D → List D → R (D × List D) := fnM 3 5 c_law_other_row
def c_require_pair : CS := (seqS (setS 2 (fnC m_top_of (consA (varC 0) nilA)))
    (seqS (ifS (orT (notT (bvC (isC "tuple" (varC 1)))) (orT (bvC (op2C neD (callC lenD (consA (varC 1) nilA)) (litC (.int 2)))) (notT (bvC (callC allD (consA (frzC (lcO [3] (seqI (varC 1)) (setG 3) yesT (fnC m_is_integer (consA (varC 3) (consA (litC (.int 0)) (consA (varC 2) nilA)))))) nilA)))))) (raiseS 2) nextS)
    (ifS (bvC (op2C gtD (op2C ixD (varC 1) (litC (.int 0))) (op2C ixD (varC 1) (litC (.int 1))))) (raiseS 2) nextS)))
def m_require_pair : List D → R D := fnV 2 4 c_require_pair
def c_counts_of : CS := (seqS (setS 2 (frzC (lcO [10] (rng1I (consA (callC lenD (consA (op2C ixD (varC 0) (litC (.int 0))) nilA)) nilA)) (setG 10) yesT (fnC m_range_of (consA (varC 0) (consA (varC 10) nilA))))))
    (seqS (setCS 3 (dispC true (tupC (consA (litC (.int 0)) (consA (fnC m_top_of (consA (varC 0) nilA)) nilA))) (litC (.int 1))))
    (seqS (forS (rng1I (consA (varC 1) nilA)) (setG 4) (seqS (setCS 5 (dnewC true))
    (seqS (preDS 3 (forS (keysI (varC 3)) (tupG (consG (setG 6) (consG (setG 7) nilG))) (forS (seqI (varC 2)) (setG 8) (seqS (setS 9 (tupC (consA (fnC m_nearest (consA (varC 6) (consA (varC 8) nilA))) (consA (fnC m_nearest (consA (varC 7) (consA (varC 8) nilA))) nilA))))
    (dputS 5 (varC 9) (op2C addD (dget2Own 5 (varC 9) (litC (.int 0))) (op2C dixD (varC 3) (tupC (consA (varC 6) (consA (varC 7) nilA))))))))))
    (setCS 3 (mvC 5)))))
    (retCS (mvC 3)))))
def m_counts_of : List D → R Cont := fnD 2 11 c_counts_of
def c_count_rows : CS := (seqS (exprS (fnC m_require_view (consA (varC 0) nilA)))
    (seqS (exprS (fnC m_require_pair (consA (varC 0) (consA (varC 1) nilA))))
    (seqS (exprS (fnC m_require_number (consA (varC 2) (consA (litC (.int 60)) nilA))))
    (retS (dget2F (frzDC (fnCD m_counts_of (consA (varC 0) (consA (varC 2) nilA)))) (varC 1) (litC (.int 0)))))))
def m_count_rows : List D → R D := fnV 3 3 c_count_rows
def c_count_sure : CS := (seqS (exprS (fnC m_require_view (consA (varC 0) nilA)))
    (seqS (exprS (fnC m_require_number (consA (varC 1) (consA (litC (.int 60)) nilA))))
    (seqS (setCS 2 (fnCD m_counts_of (consA (varC 0) (consA (varC 1) nilA))))
    (preDS 2 (retS (callC sumD (consA (frzC (lcO [3] (keysI (varC 2)) (setG 3) (bvC (op2C eqD (op2C ixD (varC 3) (litC (.int 0))) (op2C ixD (varC 3) (litC (.int 1))))) (op2C dixD (varC 2) (varC 3)))) nilA)))))))
def m_count_sure : List D → R D := fnV 2 4 c_count_sure
def c_law_all_rows : CS := (seqS (setS 2 (frzC (lstO (consA (tupC nilA) nilA))))
    (seqS (forS (rng1I (consA (varC 1) nilA)) (setG 3) (seqS (setS 4 (frzC (lstO nilA)))
    (seqS (forS (seqI (varC 2)) (setG 5) (setS 4 (op2C addD (varC 4) (frzC (lcO [6] (rng1I (consA (callC lenD (consA (op2C ixD (varC 0) (litC (.int 0))) nilA)) nilA)) (setG 6) yesT (op2C addD (varC 5) (tupC (consA (varC 6) nilA))))))))
    (setS 2 (varC 4)))))
    (retS (varC 2))))
def m_law_all_rows : List D → R D := fnV 2 7 c_law_all_rows
def c_law_reached : CS := (seqS (setS 3 (fnC m_law_pair (consA (varC 0) (consA (varC 2) nilA))))
    (retS (tupC (consA (fnC m_law_to (consA (op2C ixD (varC 1) (litC (.int 0))) (consA (varC 3) nilA))) (consA (fnC m_law_to (consA (op2C ixD (varC 1) (litC (.int 1))) (consA (varC 3) nilA))) nilA)))))
def m_law_reached : List D → R D := fnV 3 4 c_law_reached
def c_classes : CS := (seqS (exprS (fnC m_require_view (consA (varC 0) nilA)))
    (seqS (ifS (orT (notT (bvC (isC "tuple" (varC 1)))) (orT (notT (bvC (chainC leD leD (litC (.int 1)) (callC lenD (consA (varC 1) nilA)) (litC (.int 6))))) (notT (bvC (callC allD (consA (frzC (lcO [8] (seqI (varC 1)) (setG 8) yesT (fnC m_is_row (consA (varC 0) (consA (varC 8) nilA))))) nilA)))))) (raiseS 3) nextS)
    (seqS (parS [2, 3] (valM (frzC (lcO [8] (seqI (varC 1)) (setG 8) yesT (fnC m_effect_of (consA (varC 0) (consA (varC 8) nilA))))) (ownM (lstO nilA) nilM)))
    (seqS (forS (enumI (varC 2)) (tupG (consG (setG 4) (consG (setG 5) nilG))) (seqS (setS 6 (frzC (lcEnumOwn 3 [7, 9] (tupG (consG (setG 7) (consG (setG 9) nilG))) (bvC (op2C eqD (op2C ixD (varC 2) (op2C ixD (varC 9) (litC (.int 0)))) (varC 5))) (varC 7))))
    (ifS (bvC (op2C eqD (varC 6) (frzC (lstO nilA)))) (appS 3 (tupC (consA (varC 4) nilA))) (setItS 3 (op2C ixD (varC 6) (litC (.int 0))) (op2C addD (ixOwn 3 (op2C ixD (varC 6) (litC (.int 0)))) (tupC (consA (varC 4) nilA)))))))
    (retOS (mvO 3))))))
def m_classes : List D → R (List D) := fnO 2 10 c_classes
def c_goal_of : CS := (seqS (parS [4, 5] (valM (fnC m_range_of (consA (varC 1) (consA (varC 3) nilA))) (valM (fnC m_begin_of (consA (varC 1) (consA (varC 3) nilA))) nilM)))
    (seqS (ifS (bvC (op2C eqD (varC 0) (litC (.str "top")))) (retS (callC minD (consA (varC 5) (consA (fnC m_top_of (consA (varC 1) nilA)) nilA)))) nextS)
    (seqS (ifS (andT (bvC (op2C eqD (varC 0) (litC (.str "middle")))) (notT (bvC (chainC leD leD (op2C ixD (varC 4) (litC (.int 0))) (varC 2) (op2C ixD (varC 4) (litC (.int 1))))))) (retS (fnC m_nearest (consA (op2C fdivD (op2C subD (op2C addD (op2C mulD (litC (.int 2)) (varC 5)) (op2C ixD (op2C ixD (varC 1) (litC (.int 0))) (varC 3))) (op2C ixD (varC 1) (litC (.int 1)))) (litC (.int 2))) (consA (tupC (consA (litC (.int 0)) (consA (fnC m_top_of (consA (varC 1) nilA)) nilA))) nilA)))) nextS)
    (retS (fnC m_nearest (consA (varC 2) (consA (varC 4) nilA)))))))
def m_goal_of : List D → R D := fnV 4 6 c_goal_of
def c_law_goal : CS := (seqS (asgS (frzC (fnCO m_law_edges (consA (varC 1) (consA (varC 3) nilA)))) (lstG (consG (setG 4) (consG (setG 5) nilG))))
    (seqS (asgS (fnC m_law_pair (consA (varC 1) (consA (varC 3) nilA))) (tupG (consG (setG 6) (consG (setG 7) nilG))))
    (seqS (ifS (bvC (op2C eqD (varC 0) (litC (.int 1)))) (retS (callC minD (consA (varC 4) (consA (fnC m_law_last (consA (varC 1) nilA)) nilA)))) nextS)
    (seqS (ifS (andT (bvC (op2C eqD (varC 0) (litC (.int 2)))) (orT (bvC (op2C ltD (varC 2) (varC 6))) (bvC (op2C gtD (varC 2) (varC 7))))) (retS (fnC m_law_to (consA (op2C fdivD (op2C subD (op2C addD (varC 4) (varC 5)) (op2C ixD (varC 1) (litC (.int 1)))) (litC (.int 2))) (consA (tupC (consA (litC (.int 0)) (consA (fnC m_law_last (consA (varC 1) nilA)) nilA))) nilA)))) nextS)
    (retS (fnC m_law_to (consA (varC 2) (consA (tupC (consA (varC 6) (consA (varC 7) nilA))) nilA))))))))
def m_law_goal : List D → R D := fnV 4 8 c_law_goal
def c_law_even_right : CS := (seqS (parS [3, 4] (valM (tupC (consA (op2C mulD (tupC (consA (varC 1) nilA)) (varC 0)) (consA (varC 2) nilA))) (valM (op2C subD (op2C mulD (varC 0) (varC 1)) (varC 2)) nilM)))
    (seqS (ifS (orT (bvC (op2C neD (fnC m_greatest_scroll (consA (varC 3) (consA (litC (.int 0)) (consA (litC (.int 1)) nilA)))) (varC 4))) (bvC (op2C neD (fnC m_greatest_scroll (consA (varC 3) (consA (litC (.int 0)) (consA (litC (.int 7)) nilA)))) (op2C mulD (litC (.int 7)) (varC 4))))) (retS (litC (.bool false))) nextS)
    (seqS (ifS (orT (bvC (op2C neD (fnC m_greatest_scroll (consA (varC 3) (consA (varC 4) (consA (litC (.int 2)) nilA)))) (op2C mulD (litC (.int 2)) (varC 4)))) (bvC (op2C neD (fnC m_fewest_for (consA (varC 3) (consA (litC (.int 0)) (consA (op2C mulD (litC (.int 3)) (varC 4)) nilA)))) (litC (.int 3))))) (retS (litC (.bool false))) nextS)
    (seqS (ifS (orT (bvC (op2C neD (fnC m_fewest_for (consA (varC 3) (consA (litC (.int 0)) (consA (op2C addD (op2C mulD (litC (.int 3)) (varC 4)) (litC (.int 1))) nilA)))) (litC (.int 4)))) (bvC (op2C neD (fnC m_count_rows (consA (varC 3) (consA (tupC (consA (litC (.int 0)) (consA (litC (.int 0)) nilA))) (consA (litC (.int 1)) nilA)))) (litC (.int 1))))) (retS (litC (.bool false))) nextS)
    (seqS (ifS (bvC (op2C neD (fnC m_count_rows (consA (varC 3) (consA (tupC (consA (litC (.int 0)) (consA (varC 4) nilA))) (consA (litC (.int 0)) nilA)))) (litC (.int 1)))) (retS (litC (.bool false))) nextS)
    (seqS (ifS (bvC (op2C neD (frzC (fnCO m_classes (consA (varC 3) (consA (tupC (consA (tupC (consA (litC (.int 0)) nilA)) (consA (tupC (consA (op2C subD (varC 0) (litC (.int 1))) (consA (litC (.int 0)) nilA))) (consA (tupC (consA (op2C subD (varC 0) (litC (.int 1))) nilA)) nilA)))) nilA)))) (frzC (lstO (consA (tupC (consA (litC (.int 0)) (consA (litC (.int 1)) nilA))) (consA (tupC (consA (litC (.int 2)) nilA)) nilA)))))) (retS (litC (.bool false))) nextS)
    (seqS (setS 5 (frzC (fnCO m_windows_together (consA (op2C mulD (tupC (consA (varC 1) nilA)) (varC 0)) (consA (tupC (consA (litC (.int 0)) (consA (op2C subD (varC 0) (litC (.int 1))) nilA))) nilA)))))
    (seqS (ifS (bvC (op2C neD (varC 5) (ifC (bvC (op2C leD (op2C mulD (varC 0) (varC 1)) (litC (.int 500)))) (frzC (lstO (consA (tupC (consA (op2C mulD (varC 0) (varC 1)) (consA (litC (.int 500)) nilA))) nilA))) (frzC (lstO nilA))))) (retS (litC (.bool false))) nextS)
    (retS (op2C eqD (frzC (fnCO m_windows_alike (consA (op2C mulD (tupC (consA (varC 1) nilA)) (varC 0)) (consA (tupC (consA (litC (.int 0)) (consA (litC (.int 1)) nilA))) (consA (tupC (consA (litC (.int 1)) (consA (litC (.int 0)) nilA))) nilA))))) (frzC (lstO (consA (tupC (consA (op2C mulD (litC (.int 2)) (varC 1)) (consA (litC (.int 500)) nilA))) nilA)))))))))))))
def m_law_even_right : List D → R D := fnV 3 6 c_law_even_right
end Rv

/-! M0: words about mirrors: loops, comprehensions, slices, equality. -/
namespace Lin
open PySem L2
/-! ### loops and comprehensions of mirrors -/
@[simp] theorem sized_iff (n : Nat) : sized n = true ↔ n ≤ 1000000 := by simp [sized]
/-- one turn of a comprehension -/
def lcTurn (vs : List Nat) (g : D → Ev → Option Ev) (ct : CT) (ce : CE) (d : D) (τ : Ev) : R (Option D × Ev) := (R.ofOpt (g d τ)).bind fun τ1 => (ct τ1).bind fun p => if p.1 = true then (ce p.2).bind fun q => .ok (some q.1, wipeE q.2 vs) else .ok (none, wipeE p.2 vs)
theorem lcLoop_cons {vs : List Nat} {g : D → Ev → Option Ev} {ct : CT} {ce : CE} {d : D} {ds acc : List D} {τ : Ev} : lcLoop vs g ct ce (d :: ds) acc τ = (lcTurn vs g ct ce d τ).bind fun p => match p.1 with
    | some z => if sized (acc.length + 1) = true then lcLoop vs g ct ce ds (acc ++ [z]) p.2 else .stuck
    | none => lcLoop vs g ct ce ds acc p.2 := by
  show (R.ofOpt (g d τ)).bind _ = _
  unfold lcTurn
  cases g d τ with
  | none => rfl
  | some τ1 =>
    show (ct τ1).bind _ = R.bind ((ct τ1).bind _) _
    cases ct τ1 with
    | exc e => rfl
    | stuck => rfl
    | ok p =>
      obtain ⟨b, τ2⟩ := p
      cases b with
      | false => rfl
      | true =>
        show (ce τ2).bind _ = R.bind ((ce τ2).bind _) _
        cases ce τ2 <;> rfl
/-- a comprehension that leaves the names as they are -/
theorem lcLoop_pure {vs : List Nat} {g : D → Ev → Option Ev} {ct : CT} {ce : CE} {τ : Ev} (f : D → Option D) : ∀ {ds acc : List D}, (∀ d ∈ ds, lcTurn vs g ct ce d τ = .ok (f d, τ)) → acc.length + ds.length ≤ 1000000 →
    lcLoop vs g ct ce ds acc τ = .ok (acc ++ ds.filterMap f, τ)
  | [], acc, _, _ => by simp [lcLoop]
  | d :: ds, acc, h, hl => by
    rw [lcLoop_cons, h d (by simp)]
    simp only [List.length_cons] at hl
    have hr : ∀ e ∈ ds, lcTurn vs g ct ce e τ = .ok (f e, τ) := fun e he => h e (by simp [he])
    cases e : f d with
    | none =>
      show lcLoop vs g ct ce ds acc τ = _
      rw [lcLoop_pure f hr (by omega), List.filterMap_cons, e]
    | some z =>
      show (if sized (acc.length + 1) = true then lcLoop vs g ct ce ds (acc ++ [z]) τ else .stuck) = _
      have hz : sized (acc.length + 1) = true := decide_eq_true (by omega)
      rw [if_pos hz, lcLoop_pure f hr (by simp; omega), List.filterMap_cons, e]
      simp
/-- .. over items that stand for a's: each gives h a -/
theorem lcLoop_map {α : Type} {vs : List Nat} {g : D → Ev → Option Ev} {ct : CT} {ce : CE} {τ : Ev} (e : α → D) (h : α → D) {l : List α} (hl : l.length ≤ 1000000) (ht : ∀ a ∈ l, lcTurn vs g ct ce (e a) τ = .ok (some (h a), τ)) :
    lcLoop vs g ct ce (l.map e) [] τ = .ok (l.map h, τ) := by
  have key : ∀ (l : List α) (acc : List D), acc.length + l.length ≤ 1000000 → (∀ a ∈ l, lcTurn vs g ct ce (e a) τ = .ok (some (h a), τ)) → lcLoop vs g ct ce (l.map e) acc τ = .ok (acc ++ l.map h, τ) := by
    intro l
    induction l with
    | nil => intro acc _ _; simp [lcLoop]
    | cons a l ih =>
      intro acc hn ht
      simp only [List.length_cons] at hn
      rw [List.map_cons, lcLoop_cons, ht a (by simp)]
      show (if sized (acc.length + 1) = true then lcLoop vs g ct ce (l.map e) (acc ++ [h a]) τ else .stuck) = _
      have hz : sized (acc.length + 1) = true := decide_eq_true (by omega)
      rw [if_pos hz, ih _ (by simp; omega) fun b hb => ht b (by simp [hb])]
      simp
  simpa using key l [] (by simpa using hl) ht
/-- .. and kept where p holds -/
theorem lcLoop_filter {α : Type} {vs : List Nat} {g : D → Ev → Option Ev} {ct : CT} {ce : CE} {τ : Ev} (e : α → D) (p : α → Bool) (h : α → D) {l : List α} (hl : l.length ≤ 1000000) (ht : ∀ a ∈ l, lcTurn vs g ct ce (e a) τ = .ok (if p a = true then some (h a) else none, τ)) :
    lcLoop vs g ct ce (l.map e) [] τ = .ok ((l.filter p).map h, τ) := by
  have key : ∀ (l : List α) (acc : List D), acc.length + l.length ≤ 1000000 → (∀ a ∈ l, lcTurn vs g ct ce (e a) τ = .ok (if p a = true then some (h a) else none, τ)) → lcLoop vs g ct ce (l.map e) acc τ = .ok (acc ++ (l.filter p).map h, τ) := by
    intro l
    induction l with
    | nil => intro acc _ _; simp [lcLoop]
    | cons a l ih =>
      intro acc hn ht
      simp only [List.length_cons] at hn
      rw [List.map_cons, lcLoop_cons, ht a (by simp)]
      by_cases hp : p a = true
      · rw [if_pos hp]
        show (if sized (acc.length + 1) = true then lcLoop vs g ct ce (l.map e) (acc ++ [h a]) τ else .stuck) = _
        have hz : sized (acc.length + 1) = true := decide_eq_true (by omega)
        rw [if_pos hz, ih _ (by simp; omega) fun b hb => ht b (by simp [hb]), List.filter_cons_of_pos hp]
        simp
      · rw [if_neg hp]
        show lcLoop vs g ct ce (l.map e) acc τ = _
        rw [ih _ (by omega) fun b hb => ht b (by simp [hb]), List.filter_cons_of_neg hp]
  simpa using key l [] (by simpa using hl) ht
/-- a loop whose turns keep an invariant -/
theorem loopS_inv {b : D → CS} (P : Nat → Ev → Prop) : ∀ {ds : List D} {τ : Ev} (n : Nat), P n τ → (∀ i d τ, ds[i]? = some d → P (n + i) τ → ∃ τ', b d τ = .ok (.next, τ') ∧ P (n + i + 1) τ') → ∃ τ', loopS b ds τ = .ok (.next, τ') ∧ P (n + ds.length) τ'
  | [], τ, n, h, _ => ⟨τ, rfl, h⟩
  | d :: ds, τ, n, h, hs => by
    obtain ⟨τ1, e1, h1⟩ := hs 0 d τ rfl h
    obtain ⟨τ2, e2, h2⟩ := loopS_inv P (ds := ds) (n + 1) h1 (fun i d' τ' hd hp => by
      have := hs (i + 1) d' τ' (by simpa using hd) (by rw [show n + (i + 1) = n + 1 + i by omega]; exact hp)
      rw [show n + (i + 1) + 1 = n + 1 + i + 1 by omega] at this
      exact this)
    refine ⟨τ2, ?_, by rw [List.length_cons, show n + (ds.length + 1) = n + 1 + ds.length by omega]; exact h2⟩
    unfold loopS
    rw [e1]
    exact e2
/-- .. whatever the turn's number -/
theorem loopS_keep {b : D → CS} (P : Ev → Prop) {ds : List D} {τ : Ev} (h : P τ) (hs : ∀ d ∈ ds, ∀ τ, P τ → ∃ τ', b d τ = .ok (.next, τ') ∧ P τ') : ∃ τ', loopS b ds τ = .ok (.next, τ') ∧ P τ' :=
  loopS_inv (fun _ τ => P τ) 0 h fun i d τ hd hp => hs d (List.mem_of_getElem? hd) τ hp
/-- a loop that folds -/
theorem loopS_fold {α β : Type} {b : D → CS} (E : α → Ev) (e : β → D) (f : α → β → α) : ∀ {l : List β} (a : α), (∀ (a : α), ∀ d ∈ l, b (e d) (E a) = .ok (.next, E (f a d))) → loopS b (l.map e) (E a) = .ok (.next, E (l.foldl f a))
  | [], a, _ => rfl
  | d :: ds, a, h => by
    rw [List.map_cons]
    unfold loopS
    rw [h a d (by simp)]
    exact loopS_fold E e f (f a d) fun a' d' hd => h a' d' (by simp [hd])
/-! ### slices, items -/
def cutL {α : Type} (l : List α) (lo hi : Option Int) : List α := (l.drop (HT.sIx l.length 0 lo)).take (HT.sIx l.length l.length hi - HT.sIx l.length 0 lo)
theorem cutD_map {α : Type} (f : α → D) (l : List α) (lo hi : Option Int) : cutD (l.map f) lo hi = (cutL l lo hi).map f := by
  unfold cutD cutL
  rw [List.length_map, List.map_take, List.map_drop]
@[simp] theorem cutD_ints (l : List Int) (lo hi : Option Int) : cutD (l.map PyData.int) lo hi = (cutL l lo hi).map PyData.int := cutD_map _ _ _ _
@[simp] theorem cutL_take {α : Type} (l : List α) (n : Nat) : cutL l none (some (n : Int)) = l.take n := by
  unfold cutL
  rw [HT.sIx_none, HT.sIx_nat]
  simp
@[simp] theorem cutL_drop {α : Type} (l : List α) (n : Nat) : cutL l (some (n : Int)) none = l.drop n := by
  unfold cutL
  rw [HT.sIx_none, HT.sIx_nat]
  rw [List.take_of_length_le (by simp)]
  by_cases h : n ≤ l.length
  · rw [Nat.min_eq_left h]
  · rw [Nat.min_eq_right (by omega), List.drop_of_length_le (Nat.le_refl _), List.drop_of_length_le (by omega)]
@[simp] theorem intsOf_take (l : List Int) (n : Nat) : intsOf ((l.map PyData.int).take n) = some (l.take n) := by rw [← List.map_take, intsOf_map]
@[simp] theorem intsOf_drop (l : List Int) (n : Nat) : intsOf ((l.map PyData.int).drop n) = some (l.drop n) := by rw [← List.map_drop, intsOf_map]
@[simp] theorem boolsOf_const {α : Type} (l : List α) (b : α → Bool) : boolsOf (l.map fun a => PyData.bool (b a)) = some (l.map b) := by
  have := boolsOf_map (l.map b)
  rw [List.map_map] at this
  exact this
@[simp] theorem intsOf_fun {α : Type} (l : List α) (b : α → Int) : intsOf (l.map fun a => PyData.int (b a)) = some (l.map b) := by
  have := intsOf_map (l.map b)
  rw [List.map_map] at this
  exact this
@[simp] theorem atI_0 {α : Type} (a : α) (l : List α) : atI (a :: l) 0 = some a := by simp [atI, ixN]
@[simp] theorem atI_1 {α : Type} (a b : α) (l : List α) : atI (a :: b :: l) 1 = some b := by
  have : (1 : Int) < ((a :: b :: l).length : Int) := by simp; omega
  unfold atI ixN
  rw [if_pos (by decide), if_pos this]
  rfl
@[simp] theorem atI_2 {α : Type} (a b c : α) (l : List α) : atI (a :: b :: c :: l) 2 = some c := by
  have : (2 : Int) < ((a :: b :: c :: l).length : Int) := by simp; omega
  unfold atI ixN
  rw [if_pos (by decide), if_pos this]
  rfl
@[simp] theorem atI_natL {α : Type} (l : List α) (n : Nat) : atI l (n : Int) = l[n]? := by
  unfold atI ixN
  rw [if_pos (by omega)]
  by_cases h : (n : Int) < l.length
  · rw [if_pos h]; simp
  · rw [if_neg h]
    rw [List.getElem?_eq_none (by omega)]
    rfl
/-- the last item -/
theorem atI_neg1 {α : Type} (l : List α) : atI l (-1) = l.getLast? := by
  cases l with
  | nil => rfl
  | cons a r =>
    unfold atI ixN
    rw [if_neg (by decide), if_pos (by simp only [List.length_cons]; omega)]
    have e : (-1 + ((a :: r).length : Int)).toNat = r.length := by simp only [List.length_cons]; omega
    rw [e, List.getLast?_eq_getElem?]
    simp
/-! ### equality -/
/-- data that Python compares: no dicts, at most n deep -/
def Shp (n : Nat) (d : D) : Prop := d.canLay0 = true ∧ d.depth ≤ n
@[simp] theorem shaped_iff (d : D) : SeqAt.shaped d = true ↔ Shp 64 d := by simp [SeqAt.shaped, Shp]
@[simp] theorem shp_int (n : Nat) (i : Int) : Shp n (.int i) ↔ True := by simp [Shp, PyData.canLay0, PyData.depth]
@[simp] theorem shp_bool (n : Nat) (i : Bool) : Shp n (.bool i) ↔ True := by simp [Shp, PyData.canLay0, PyData.depth]
@[simp] theorem shp_none (n : Nat) : Shp n .none ↔ True := by simp [Shp, PyData.canLay0, PyData.depth]
theorem all_lay (l : List D) (n : Nat) : (PyData.canLayAll0 l = true ∧ PyData.depthAll l ≤ n) ↔ ∀ d ∈ l, Shp n d := by
  induction l with
  | nil => simp [PyData.canLayAll0, PyData.depthAll]
  | cons d l ih =>
    simp only [PyData.canLayAll0, PyData.depthAll, Bool.and_eq_true, List.mem_cons, forall_eq_or_imp]
    rw [← ih]
    unfold Shp
    constructor
    · rintro ⟨⟨a, b⟩, c⟩
      exact ⟨⟨a, by omega⟩, b, by omega⟩
    · rintro ⟨⟨a, b⟩, c, d⟩
      exact ⟨⟨a, c⟩, by omega⟩
@[simp] theorem shp_tuple (n : Nat) (l : List D) : Shp (n + 1) (.tuple l) ↔ ∀ d ∈ l, Shp n d := by
  rw [← all_lay]
  simp [Shp, PyData.canLay0, PyData.depth]
@[simp] theorem shp_list (n : Nat) (l : List D) : Shp (n + 1) (.list l) ↔ ∀ d ∈ l, Shp n d := by
  rw [← all_lay]
  simp [Shp, PyData.canLay0, PyData.depth]
theorem Shp.mono {n m : Nat} {d : D} (h : Shp n d) (le : n ≤ m) : Shp m d := ⟨h.1, Nat.le_trans h.2 le⟩
theorem eqv_self {d : D} (h : Shp 64 d) : PyData.eqv d d = true := SeqAt.eqv_refl d h.1
@[simp] theorem eqv_int (a b : Int) : PyData.eqv (.int a) (.int b) = decide (a = b) := by simp [PyData.eqv]; exact (Bool.beq_eq_decide_eq a b)
@[simp] theorem eqv_bool (a b : Bool) : PyData.eqv (.bool a) (.bool b) = decide (a = b) := by simp [PyData.eqv]; exact (Bool.beq_eq_decide_eq a b)
@[simp] theorem eqv_tup (a b : List D) : PyData.eqv (.tuple a) (.tuple b) = PyData.eqvAll a b := by simp [PyData.eqv]
@[simp] theorem eqv_lst (a b : List D) : PyData.eqv (.list a) (.list b) = PyData.eqvAll a b := by simp [PyData.eqv]
@[simp] theorem eqvAll_nil : PyData.eqvAll [] [] = true := by simp [PyData.eqvAll]
@[simp] theorem eqvAll_cons (a b : D) (l m : List D) : PyData.eqvAll (a :: l) (b :: m) = (PyData.eqv a b && PyData.eqvAll l m) := by simp [PyData.eqvAll]
@[simp] theorem eqvAll_cn (a : D) (l : List D) : PyData.eqvAll (a :: l) [] = false := by simp [PyData.eqvAll]
@[simp] theorem eqvAll_nc (a : D) (l : List D) : PyData.eqvAll [] (a :: l) = false := by simp [PyData.eqvAll]
@[simp] theorem eqv_none : PyData.eqv .none .none = true := by simp [PyData.eqv]
@[simp] theorem eqv_tn (a : List D) : PyData.eqv (.tuple a) .none = false := by simp [PyData.eqv]
@[simp] theorem eqv_nt (a : List D) : PyData.eqv .none (.tuple a) = false := by simp [PyData.eqv]
theorem eqvAll_map {α : Type} [DecidableEq α] {f : α → D} (h : ∀ a b, PyData.eqv (f a) (f b) = decide (a = b)) : ∀ l m : List α, PyData.eqvAll (l.map f) (m.map f) = decide (l = m)
  | [], [] => by simp
  | [], _ :: _ => by simp
  | _ :: _, [] => by simp
  | a :: l, b :: m => by
    rw [List.map_cons, List.map_cons, eqvAll_cons, h, eqvAll_map h l m]
    simp [Bool.decide_and]
@[simp] theorem eqvAll_ints (l m : List Int) : PyData.eqvAll (l.map PyData.int) (m.map PyData.int) = decide (l = m) := eqvAll_map eqv_int l m
theorem eqvAll_self {l : List D} (h : ∀ d ∈ l, Shp 63 d) : PyData.eqvAll l l = true := by
  have := eqv_self (d := .list l) (by rw [shp_list]; exact h)
  simpa using this
end Lin

/-! M1: views and ranges: what the mirrors compute. -/
namespace Rv
open PySem L2 Lin
/-- a view as data -/
def hD (hs : List Int) : D := .tuple (hs.map .int)
def vD (hs : List Int) (w : Int) : D := .tuple [hD hs, .int w]
def pD (p : Int × Int) : D := .tuple [.int p.1, .int p.2]
@[simp] theorem noDct_hD (hs : List Int) : noDct (hD hs) = true := rfl
@[simp] theorem noDct_vD (hs : List Int) (w : Int) : noDct (vD hs w) = true := rfl
@[simp] theorem noDct_pD (p : Int × Int) : noDct (pD p) = true := rfl
@[simp high] theorem ix_vD0 (hs : List Int) (w : Int) : ixD (vD hs w) (.int 0) = some (hD hs) := by simp [vD]
@[simp high] theorem ix_vD1 (hs : List Int) (w : Int) : ixD (vD hs w) (.int 1) = some (.int w) := by simp [vD]
@[simp high] theorem len_hD (hs : List Int) : lenD [hD hs] = some (.int hs.length) := by simp [hD]
@[simp high] theorem ix_pD0 (p : Int × Int) : ixD (pD p) (.int 0) = some (.int p.1) := by simp [pD]
@[simp high] theorem ix_pD1 (p : Int × Int) : ixD (pD p) (.int 1) = some (.int p.2) := by simp [pD]
@[simp high] theorem sum_hD (hs : List Int) : sumD [hD hs] = some (.int hs.sum) := by simp [hD]
@[simp high] theorem ix_hD {hs : List Int} {i : Nat} (h : i < hs.length) : ixD (hD hs) (.int i) = some (.int (hs.getD i 0)) := by simp [hD, List.getElem?_map, List.getD, h]
@[simp] theorem shp_hD (n : Nat) (hs : List Int) : Shp (n + 1) (hD hs) ↔ True := by simp [hD]
@[simp] theorem shp_vD (n : Nat) (hs : List Int) (w : Int) : Shp (n + 2) (vD hs w) ↔ True := by simp [vD]
@[simp] theorem shp_pD (n : Nat) (p : Int × Int) : Shp (n + 1) (pD p) ↔ True := by simp [pD]
@[simp] theorem eqv_pD (a b : Int × Int) : PyData.eqv (pD a) (pD b) = decide (a = b) := by
  obtain ⟨a1, a2⟩ := a
  obtain ⟨b1, b2⟩ := b
  simp [pD, Bool.decide_and]
@[simp] theorem eqvAll_pD (l m : List (Int × Int)) : PyData.eqvAll (l.map pD) (m.map pD) = decide (l = m) := eqvAll_map eqv_pD l m
structure Good (hs : List Int) (w : Int) : Prop where
  l1 : 1 ≤ hs.length
  l2 : hs.length ≤ 20
  h1 : ∀ h ∈ hs, 1 ≤ h
  h2 : ∀ h ∈ hs, h ≤ 100
  w1 : 1 ≤ w
  w2 : w ≤ 500
def topN (hs : List Int) (w : Int) : Int := max 0 (hs.sum - w)
def begN (hs : List Int) (i : Nat) : Int := (hs.take i).sum
def rngN (hs : List Int) (w : Int) (i : Nat) : Int × Int := (max 0 (min (begN hs i) (begN hs i + hs.getD i 0 - w)), min (topN hs w) (max (begN hs i) (begN hs i + hs.getD i 0 - w)))
theorem m_is_integer_int (i lo hi : Int) : m_is_integer [.int i, .int lo, .int hi] = .ok (.bool (decide (lo ≤ i ∧ i ≤ hi))) := by
  simp [m_is_integer, c_is_integer]
  by_cases h : lo ≤ i
  · simp [h]
  · simp [h]
theorem m_top_of_eq (hs : List Int) (w : Int) : m_top_of [vD hs w] = .ok (.int (topN hs w)) := by
  simp [m_top_of, c_top_of, vD, hD, topN]
theorem m_begin_of_eq (hs : List Int) (w : Int) (i : Nat) : m_begin_of [vD hs w, .int i] = .ok (.int (begN hs i)) := by
  simp [m_begin_of, c_begin_of, vD, hD, begN]
theorem get_hs {hs : List Int} {i : Nat} (h : i < hs.length) : (hs.map PyData.int)[i]? = some (.int (hs.getD i 0)) := by
  simp [List.getElem?_map, List.getD, h]
theorem m_range_of_eq {hs : List Int} {w : Int} {i : Nat} (h : i < hs.length) : m_range_of [vD hs w, .int i] = .ok (pD (rngN hs w i)) := by
  have e1 := m_begin_of_eq hs w i
  have e2 := m_top_of_eq hs w
  have e3 := get_hs h
  unfold vD hD at *
  simp [m_range_of, c_range_of, e1, e2, e3, pD, rngN, sized]
theorem m_is_heights_good {hs : List Int} (l1 : 1 ≤ hs.length) (l2 : hs.length ≤ 20) (h1 : ∀ h ∈ hs, 1 ≤ h) (h2 : ∀ h ∈ hs, h ≤ 100) : m_is_heights [hD hs] = .ok (.bool true) := by
  have l1' : (1 : Int) ≤ hs.length := by omega
  have l2' : (hs.length : Int) ≤ 20 := by omega
  have e := lcLoop_map (vs := [1]) (g := setG 1) (ct := yesT) (ce := fnC m_is_integer (consA (varC 1) (consA (litC (.int 1)) (consA (litC (.int 100)) nilA)))) (τ := [.val (hD hs), .free]) PyData.int (fun _ => .bool true) (l := hs) (by omega) (fun h hm => by
    simp [lcTurn, m_is_integer_int, h1 h hm, h2 h hm])
  unfold hD at *
  simp [m_is_heights, c_is_heights, l1', l2', e]
theorem m_is_view_good {hs : List Int} {w : Int} (g : Good hs w) : m_is_view [vD hs w] = .ok (.bool true) := by
  have e := m_is_heights_good g.l1 g.l2 g.h1 g.h2
  have s : ∃ ds, hD hs = .tuple ds := ⟨_, rfl⟩
  simp [m_is_view, c_is_view, vD, e, m_is_integer_int, g.w1, g.w2]
theorem m_require_view_good {hs : List Int} {w : Int} (g : Good hs w) : m_require_view [vD hs w] = .ok .none := by
  simp [m_require_view, c_require_view, m_is_view_good g]
theorem len_vD (hs : List Int) (w : Int) : lenD [hD hs] = some (.int hs.length) := by simp [hD]
theorem m_require_item_good {hs : List Int} {w : Int} {i : Nat} (h : i < hs.length) : m_require_item [vD hs w, .int i] = .ok .none := by
  have : (i : Int) ≤ (hs.length : Int) - 1 := by omega
  simp [m_require_item, c_require_item, vD, hD, m_is_integer_int, this]
theorem m_require_position_good {hs : List Int} {w p : Int} (h0 : 0 ≤ p) (h1 : p ≤ topN hs w) : m_require_position [vD hs w, .int p] = .ok .none := by
  simp [m_require_position, c_require_position, m_top_of_eq, m_is_integer_int, h0, h1]
theorem m_top_eq {hs : List Int} {w : Int} (g : Good hs w) : m_top [vD hs w] = .ok (.int (topN hs w)) := by
  simp [m_top, c_top, m_require_view_good g, m_top_of_eq]
theorem m_item_range_eq {hs : List Int} {w : Int} {i : Nat} (g : Good hs w) (h : i < hs.length) : m_item_range [vD hs w, .int i] = .ok (pD (rngN hs w i)) := by
  simp [m_item_range, c_item_range, m_require_view_good g, m_require_item_good h, m_range_of_eq h]
/-- the items seen at a position -/
def seenB (hs : List Int) (w p : Int) (i : Nat) : Bool := decide ((rngN hs w i).1 ≤ p ∧ p ≤ (rngN hs w i).2)
def seenN (hs : List Int) (w p : Int) : List Nat := (List.range hs.length).filter (seenB hs w p)
def nD (n : Nat) : D := .int n
theorem rngD_0 (n : Nat) : rngD 0 n = (List.range n).map nD := by simp [rngD, nD, Function.comp_def]
theorem m_all_seen_eq {hs : List Int} {w p : Int} (hl : hs.length ≤ 20) : m_all_seen [vD hs w, .int p] = .ok ((seenN hs w p).map nD) := by
  have hz : small hs.length = true := by simp [small]; omega
  have e1 := lcLoop_map (vs := [3]) (g := setG 3) (ct := yesT) (ce := tupC (consA (varC 3) (consA (fnC m_range_of (consA (varC 0) (consA (varC 3) nilA))) nilA))) (τ := [.val (vD hs w), .val (.int p), .free, .free, .free]) nD (fun i => .tuple [nD i, pD (rngN hs w i)]) (l := List.range hs.length) (by simp; omega) (fun i hi => by
    have hi : i < hs.length := by simpa using hi
    simp [lcTurn, nD, m_range_of_eq hi, sized])
  have e2 := lcLoop_filter (vs := [3, 4]) (g := tupG (consG (setG 3) (consG (setG 4) nilG))) (ct := bvC (chainC leD leD (op2C ixD (varC 4) (litC (PyData.int 0))) (varC 1) (op2C ixD (varC 4) (litC (PyData.int 1))))) (ce := varC 3)
    (τ := [.val (vD hs w), .val (.int p), .val (.list ((List.range hs.length).map fun i => .tuple [nD i, pD (rngN hs w i)])), .free, .free]) (fun i => .tuple [nD i, pD (rngN hs w i)]) (seenB hs w p) nD (l := List.range hs.length) (by simp; omega) (fun i hi => by
    by_cases h1 : (rngN hs w i).1 ≤ p
    · by_cases h2 : p ≤ (rngN hs w i).2
      · simp [lcTurn, seenB, h1, h2]
      · simp [lcTurn, seenB, h1, h2]
    · simp [lcTurn, seenB, h1])
  simp [m_all_seen, c_all_seen, get1, hz, rngD_0, e1, e2, seenN]
theorem m_seen_at_eq {hs : List Int} {w p : Int} (g : Good hs w) (h0 : 0 ≤ p) (h1 : p ≤ topN hs w) : m_seen_at [vD hs w, .int p] = .ok ((seenN hs w p).map nD) := by
  simp [m_seen_at, c_seen_at, m_require_view_good g, m_require_position_good h0 h1, m_all_seen_eq g.l2]
end Rv

/-! M2: drawn numbers, views and rows. -/
namespace Rv
open PySem L2 Lin
/-- a source of drawn numbers -/
structure Sr where
  c : Int
  s : Int
  p : Int
  c0 : 0 ≤ c
  s0 : 0 ≤ s
  s1 : s < 1099511627776
  p0 : 0 < p
  p1 : p < 1099511627776
def Sr.d (s : Sr) : List D := [.int s.c, .int s.s, .int s.p]
def stp (s : Sr) : Int := s.s * 48271 % s.p + 1
theorem stp0 (s : Sr) : 0 ≤ stp s := by have := Int.emod_nonneg (s.s * 48271) (Int.ne_of_gt s.p0); unfold stp; omega
theorem stp1 (s : Sr) : stp s < 1099511627777 := by have := Int.emod_lt_of_pos (s.s * 48271) s.p0; have := s.p1; unfold stp; omega
theorem stp2 (s : Sr) : stp s < 1099511627776 := by have := Int.emod_lt_of_pos (s.s * 48271) s.p0; have := s.p1; unfold stp; omega
def pk (s : Sr) (n : Int) : Int := if 0 < s.c then s.c % n else stp s * stp s % 2147483423 / 7 % n
theorem nx0 (s : Sr) (n : Int) (h : 0 < s.c) : 0 ≤ (if 0 < n then s.c / n else 0) := by
  by_cases hn : 0 < n
  · rw [if_pos hn]; exact Int.ediv_nonneg (by omega) (by omega)
  · rw [if_neg hn]; decide
def nx (s : Sr) (n : Int) : Sr := if h : 0 < s.c then ⟨if 0 < n then s.c / n else 0, s.s, s.p, nx0 s n h, s.s0, s.s1, s.p0, s.p1⟩ else ⟨s.c, stp s, s.p, s.c0, stp0 s, stp2 s, s.p0, s.p1⟩
theorem pk0 (s : Sr) {n : Int} (h : 0 < n) : 0 ≤ pk s n := by
  unfold pk
  by_cases hc : 0 < s.c
  · rw [if_pos hc]; exact Int.emod_nonneg _ (by omega)
  · rw [if_neg hc]; exact Int.emod_nonneg _ (by omega)
theorem pk1 (s : Sr) {n : Int} (h : 0 < n) : pk s n < n := by
  unfold pk
  by_cases hc : 0 < s.c
  · rw [if_pos hc]; exact Int.emod_lt_of_pos _ h
  · rw [if_neg hc]; exact Int.emod_lt_of_pos _ h
theorem near {i : Int} (h0 : 0 ≤ i) (h1 : i < 1099511627777) : near64 i = true := by unfold near64; exact decide_eq_true ⟨by omega, by omega⟩
@[simp] theorem m_law_pick_eq (s : Sr) {n : Int} (h0 : 0 < n) (h1 : n < 1073741824) : m_law_pick s.d [.int n] = .ok (.int (pk s n), (nx s n).d) := by
  have e1 : near64 (48271 : Int) = true := by decide
  have e2 : near64 (stp s) = true := near (stp0 s) (stp1 s)
  have e3 := s.p0
  by_cases hc : 0 < s.c
  · simp [m_law_pick, c_law_pick, Sr.d, hc, h0, h1, pk, nx, startM, endM, atI, ixN]
  · unfold stp at e2
    simp [m_law_pick, c_law_pick, Sr.d, hc, h0, h1, e1, e2, e3, pk, nx, startM, endM, atI, ixN, stp]


theorem primes_at {j : Int} (h : 0 ≤ j) : ∃ q : Int, atI [PyData.int 2147483647, PyData.int 2147483629, PyData.int 2147483587, PyData.int 2147483579, PyData.int 2147483563, PyData.int 2147483549, PyData.int 2147483543, PyData.int 2147483497] (j % 8) = some (.int q) ∧ 0 < q ∧ q < 1099511627776 := by
  have h0 : 0 ≤ j % 8 := Int.emod_nonneg _ (by decide)
  have h1 : j % 8 < 8 := Int.emod_lt_of_pos _ (by decide)
  generalize j % 8 = i at h0 h1
  have : i = 0 ∨ i = 1 ∨ i = 2 ∨ i = 3 ∨ i = 4 ∨ i = 5 ∨ i = 6 ∨ i = 7 := by omega
  rcases this with rfl | rfl | rfl | rfl | rfl | rfl | rfl | rfl <;> exact ⟨_, rfl, by decide, by decide⟩

theorem m_law_source_key (ns : List Int) {k c : Int} (h0 : 0 ≤ k) (h1 : k < 64) (hc : (k < ns.length ∧ atI (ns.map PyData.int) k = some (.int c)) ∨ (¬ k < ns.length ∧ c = 0)) : ∃ s : Sr, m_law_source [.list (ns.map .int), .int k] = .ok s.d := by
  obtain ⟨q, hq, q0, q1⟩ := primes_at h0
  have w1 : near64 (48271 + 2 * k) = true := near (by omega) (by omega)
  have w2 : near64 2 = true := by decide
  obtain ⟨x, hx⟩ : ∃ x, (c % 2147483489 + 1) * (48271 + 2 * k) % 2147483489 = x := ⟨_, rfl⟩
  have x0 : 0 ≤ x := by rw [← hx]; exact Int.emod_nonneg _ (by decide)
  have x1 : x < 2147483489 := by rw [← hx]; exact Int.emod_lt_of_pos _ (by decide)
  obtain ⟨y, hy⟩ : ∃ y, x * x % 2147483477 = y := ⟨_, rfl⟩
  have y0 : 0 ≤ y := by rw [← hy]; exact Int.emod_nonneg _ (by decide)
  have y1 : y < 2147483477 := by rw [← hy]; exact Int.emod_lt_of_pos _ (by decide)
  have w3 : near64 x = true := near x0 (by omega)
  have key : ∀ d : Int, 0 ≤ d → ∃ s : Sr, s.d = [PyData.int d, .int (y + k + 1), .int q] := fun d hd => ⟨⟨d, _, q, hd, by omega, by omega, q0, q1⟩, rfl⟩
  by_cases hM : (1000000000000000000 : Int) ≤ c
  · obtain ⟨s, e⟩ := key c (by omega)
    refine ⟨s, ?_⟩
    rcases hc with ⟨hk, hc⟩ | ⟨hk, rfl⟩
    · rw [e]
      simp [m_law_source, c_law_source, hk, hc, w1, w2, w3, hx, hy, hM, hq]
    · omega
  · obtain ⟨s, e⟩ := key 0 (by omega)
    refine ⟨s, ?_⟩
    rcases hc with ⟨hk, hc⟩ | ⟨hk, rfl⟩
    · rw [e]
      simp [m_law_source, c_law_source, hk, hc, w1, w2, w3, hx, hy, hM, hq]
    · have hx' := hx
      simp only [show (0 : Int) % 2147483489 + 1 = 1 from rfl, Int.one_mul] at hx'
      rw [e]
      simp [m_law_source, c_law_source, hk, w1, w2, w3, hx', hy, hq]
theorem m_law_source_eq (ns : List Int) {k : Int} (h0 : 0 ≤ k) (h1 : k < 64) : ∃ s : Sr, m_law_source [.list (ns.map .int), .int k] = .ok s.d := by
  by_cases hk : k < ns.length
  · obtain ⟨j, rfl⟩ := Int.eq_ofNat_of_zero_le h0
    have hj : j < ns.length := by omega
    exact m_law_source_key ns (c := ns[j]) h0 h1 (.inl ⟨hk, by simp [hj]⟩)
  · exact m_law_source_key ns (c := 0) h0 h1 (.inr ⟨hk, rfl⟩)
end Rv

/-! P0: what a run of a mirror ends in, word by word. -/
namespace Lin
open PySem L2
/-- what is done with a result; simp leaves it alone -/
class Hold (α : Sort u) where
  val : α
def pst {α : Type} (x : R α) (Q : α → Prop) : Prop := match x with
  | .ok a => Q a
  | _ => False
def ops {α : Type} (x : Option α) (Q : α → Prop) : Prop := match x with
  | some a => Q a
  | _ => False
def vls (x : Option Lin.Slot) (Q : D → Prop) : Prop := match x with
  | some (.val d) => Q d
  | _ => False
def ows (x : Option Lin.Slot) (Q : Option Nat → List D → Prop) : Prop := match x with
  | some (.own t (.lst d)) => Q t d
  | _ => False
def ocs (x : Option Lin.Slot) (Q : Option Nat → Cont → Prop) : Prop := match x with
  | some (.own t d) => Q t d
  | _ => False
def bos (x : D) (Q : Bool → Prop) : Prop := match x with
  | .bool b => Q b
  | _ => False
def ins (x : D) (Q : Int → Prop) : Prop := match x with
  | .int b => Q b
  | _ => False
theorem pst_ok {α : Type} (a : α) (Q : α → Prop) : pst (.ok a) Q = Q a := rfl
theorem pst_stuck {α : Type} (Q : α → Prop) : pst (.stuck) Q = False := rfl
theorem pst_bind {α β : Type} (x : R α) (f : α → R β) (Q : β → Prop) : pst (x.bind f) Q = pst x fun a => pst (f a) Q := by cases x <;> rfl
theorem pst_opt {α : Type} (x : Option α) (Q : α → Prop) : pst (R.ofOpt x) Q = ops x Q := by cases x <;> rfl
theorem pst_val {α : Type} (o : Option Lin.Slot) (f : D → R α) (Q : α → Prop) : pst (match o with | some (.val d) => f d | _ => .stuck) Q = vls o fun d => pst (f d) Q := by
  cases o with
  | none => rfl
  | some s => cases s <;> rfl
theorem pst_own {α : Type} (o : Option Lin.Slot) (f : Option Nat → List D → R α) (Q : α → Prop) : pst (match o with | some (.own t (.lst d)) => f t d | _ => .stuck) Q = ows o fun t d => pst (f t d) Q := by
  cases o with
  | none => rfl
  | some s => rcases s with _ | _ | ⟨u, c⟩ <;> first | rfl | (cases c <;> rfl)
theorem pst_bool {α : Type} (o : D) (f : Bool → R α) (Q : α → Prop) : pst (match o with | .bool b => f b | _ => .stuck) Q = bos o fun b => pst (f b) Q := by cases o <;> rfl
theorem pst_int {α : Type} (o : D) (f : Int → R α) (Q : α → Prop) : pst (match o with | .int b => f b | _ => .stuck) Q = ins o fun b => pst (f b) Q := by cases o <;> rfl
theorem pst_ite {α : Type} (c : Prop) [Decidable c] (a b : R α) (Q : α → Prop) : pst (if c then a else b) Q = if c then pst a Q else pst b Q := by by_cases h : c <;> simp [h]
theorem pst_app {α : Type} (x : R α) (k : α → Prop) : pst (match x with | .ok q => .ok q | _ => .stuck) k = pst x k := by cases x <;> rfl
theorem pst_call {α β : Type} (x : R α) (f : α → R β) (k : β → Prop) : pst (match x with | .ok q => f q | _ => .stuck) k = pst x fun q => pst (f q) k := by cases x <;> rfl
theorem pst_set {α : Type} (o : Option Lin.Slot) (d : D) (f : Option Nat → List D → Int → R α) (Q : α → Prop) : pst (match o, d with | some (.own t (.lst ls)), .int k => f t ls k | _, _ => .stuck) Q = ows o fun t ls => ins d fun k => pst (f t ls k) Q := by
  cases o with
  | none => rfl
  | some s => rcases s with _ | _ | ⟨u, c⟩ <;> first | rfl | (cases d <;> rfl) | (cases c <;> cases d <;> rfl)
theorem if_false' (c : Prop) [Decidable c] (p : Prop) : (if c then p else False) = (c ∧ p) := by by_cases h : c <;> simp [h]
structure post {α : Type} (x : R α) [Q : Hold (α → Prop)] : Prop where
  go : pst x Q.val
structure optK {α : Type} (x : Option α) [Q : Hold (α → Prop)] : Prop where
  go : ops x Q.val
structure valK (x : Option Lin.Slot) [Q : Hold (D → Prop)] : Prop where
  go : vls x Q.val
structure ownK (x : Option Lin.Slot) [Q : Hold (Option Nat → List D → Prop)] : Prop where
  go : ows x Q.val
structure owncK (x : Option Lin.Slot) [Q : Hold (Option Nat → Cont → Prop)] : Prop where
  go : ocs x Q.val
structure boolK (x : D) [Q : Hold (Bool → Prop)] : Prop where
  go : bos x Q.val
structure intK (x : D) [Q : Hold (Int → Prop)] : Prop where
  go : ins x Q.val
/-- c, begun at τ, ends in Q -/
structure Runs [c : Hold CS] (τ : Ev) [Q : Hold (Lin.Flow × Ev → Prop)] : Prop where
  go : pst (c.val τ) Q.val
theorem post_def {α : Type} (x : R α) (Q : Hold (α → Prop)) : @post _ x Q = pst x Q.val := propext ⟨fun h => h.go, fun h => ⟨h⟩⟩
theorem optK_def {α : Type} (x : Option α) (Q : Hold (α → Prop)) : @optK _ x Q = ops x Q.val := propext ⟨fun h => h.go, fun h => ⟨h⟩⟩
theorem valK_def (x : Option Lin.Slot) (Q : Hold (D → Prop)) : @valK x Q = vls x Q.val := propext ⟨fun h => h.go, fun h => ⟨h⟩⟩
theorem ownK_def (x : Option Lin.Slot) (Q : Hold (Option Nat → List D → Prop)) : @ownK x Q = ows x Q.val := propext ⟨fun h => h.go, fun h => ⟨h⟩⟩
theorem owncK_def (x : Option Lin.Slot) (Q : Hold (Option Nat → Cont → Prop)) : @owncK x Q = ocs x Q.val := propext ⟨fun h => h.go, fun h => ⟨h⟩⟩
theorem boolK_def (x : D) (Q : Hold (Bool → Prop)) : @boolK x Q = bos x Q.val := propext ⟨fun h => h.go, fun h => ⟨h⟩⟩
theorem intK_def (x : D) (Q : Hold (Int → Prop)) : @intK x Q = ins x Q.val := propext ⟨fun h => h.go, fun h => ⟨h⟩⟩
theorem runs_def (c : Hold CS) (τ : Ev) (Q : Hold (Lin.Flow × Ev → Prop)) : @Runs c τ Q = pst (c.val τ) Q.val := propext ⟨fun h => h.go, fun h => ⟨h⟩⟩
@[simp] theorem post_ok {α : Type} (a : α) (Q : Hold (α → Prop)) : @post _ (.ok a) Q = Q.val a := post_def _ _
@[simp] theorem optK_some {α : Type} (a : α) (Q : Hold (α → Prop)) : @optK _ (some a) Q = Q.val a := optK_def _ _
@[simp] theorem optK_none {α : Type} (Q : Hold (α → Prop)) : @optK α none Q = False := optK_def _ _
@[simp] theorem optK_ite {α : Type} (c : Prop) [Decidable c] (a : Option α) (Q : Hold (α → Prop)) : @optK _ (if c then a else none) Q = (c ∧ @optK _ a Q) := by by_cases h : c <;> simp [h]
@[simp] theorem valK_val (a : D) (Q : Hold (D → Prop)) : @valK (some (.val a)) Q = Q.val a := valK_def _ _
@[simp] theorem ownK_own (t : Option Nat) (ls : List D) (Q : Hold (Option Nat → List D → Prop)) : @ownK (some (.own t (.lst ls))) Q = Q.val t ls := ownK_def _ _
@[simp] theorem owncK_own (t : Option Nat) (c : Cont) (Q : Hold (Option Nat → Cont → Prop)) : @owncK (some (.own t c)) Q = Q.val t c := owncK_def _ _
@[simp] theorem boolK_bool (b : Bool) (Q : Hold (Bool → Prop)) : @boolK (.bool b) Q = Q.val b := boolK_def _ _
@[simp] theorem intK_int (b : Int) (Q : Hold (Int → Prop)) : @intK (.int b) Q = Q.val b := intK_def _ _
@[simp ↓] theorem s_varC (i : Nat) (τ : Ev) (Q : Hold (D × Ev → Prop)) : @post _ (varC i τ) Q = (@valK (τ[i]?) ⟨fun d => Q.val (d, τ)⟩) := by
  have key : pst (varC i τ) Q.val = (vls (τ[i]?) (fun d => Q.val (d, τ))) := by
    unfold varC vls
    generalize τ[i]? = o1
    rcases o1 with _ | s1
    · rfl
    rcases s1 with _ | d1 | ⟨t1, l1⟩
    · rfl
    · rfl
    rfl
  simp only [post_def, optK_def, valK_def, ownK_def, owncK_def, boolK_def, intK_def, runs_def]
  exact key
@[simp ↓] theorem s_litC (d : D) (τ : Ev) (Q : Hold (D × Ev → Prop)) : @post _ (litC d τ) Q = Q.val (d, τ) := by
  have key : pst (litC d τ) Q.val = Q.val (d, τ) := by
    simp only [litC, pst_bind, pst_ok, pst_stuck, pst_opt, pst_ite, if_false']
  simp only [post_def, optK_def, valK_def, ownK_def, owncK_def, boolK_def, intK_def, runs_def]
  exact key
@[simp ↓] theorem s_op2C (f : D → D → Option D) (a b : CE) (τ : Ev) (Q : Hold (D × Ev → Prop)) : @post _ (op2C f a b τ) Q = (@post _ (a τ) ⟨fun p => (@post _ (b p.2) ⟨fun q => (@optK _ (f p.1 q.1) ⟨fun z => Q.val (z, q.2)⟩)⟩)⟩) := by
  have key : pst (op2C f a b τ) Q.val = (pst (a τ) (fun p => (pst (b p.2) (fun q => (ops (f p.1 q.1) (fun z => Q.val (z, q.2))))))) := by
    simp only [op2C, pst_bind, pst_ok, pst_stuck, pst_opt, pst_ite, if_false']
  simp only [post_def, optK_def, valK_def, ownK_def, owncK_def, boolK_def, intK_def, runs_def]
  exact key
@[simp ↓] theorem s_op1C (f : D → Option D) (a : CE) (τ : Ev) (Q : Hold (D × Ev → Prop)) : @post _ (op1C f a τ) Q = (@post _ (a τ) ⟨fun p => (@optK _ (f p.1) ⟨fun z => Q.val (z, p.2)⟩)⟩) := by
  have key : pst (op1C f a τ) Q.val = (pst (a τ) (fun p => (ops (f p.1) (fun z => Q.val (z, p.2))))) := by
    simp only [op1C, pst_bind, pst_ok, pst_stuck, pst_opt, pst_ite, if_false']
  simp only [post_def, optK_def, valK_def, ownK_def, owncK_def, boolK_def, intK_def, runs_def]
  exact key
@[simp ↓] theorem s_bvC (a : CE) (τ : Ev) (Q : Hold (Bool × Ev → Prop)) : @post _ (bvC a τ) Q = (@post _ (a τ) ⟨fun p => (@boolK (p.1) ⟨fun b => Q.val (b, p.2)⟩)⟩) := by
  have key : pst (bvC a τ) Q.val = (pst (a τ) (fun p => (bos (p.1) (fun b => Q.val (b, p.2))))) := by
    simp only [bvC, pst_bind]
    refine congrArg (pst _) (funext fun p => ?_)
    obtain ⟨d, t⟩ := p
    cases d <;> rfl
  simp only [post_def, optK_def, valK_def, ownK_def, owncK_def, boolK_def, intK_def, runs_def]
  exact key
@[simp ↓] theorem s_notT (a : CT) (τ : Ev) (Q : Hold (Bool × Ev → Prop)) : @post _ (notT a τ) Q = (@post _ (a τ) ⟨fun p => Q.val (!p.1, p.2)⟩) := by
  have key : pst (notT a τ) Q.val = (pst (a τ) (fun p => Q.val (!p.1, p.2))) := by
    simp only [notT, pst_bind, pst_ok, pst_stuck, pst_opt, pst_ite, if_false']
  simp only [post_def, optK_def, valK_def, ownK_def, owncK_def, boolK_def, intK_def, runs_def]
  exact key
@[simp ↓] theorem s_andT (a b : CT) (τ : Ev) (Q : Hold (Bool × Ev → Prop)) : @post _ (andT a b τ) Q = (@post _ (a τ) ⟨fun p => if p.1 = true then (@post _ (b p.2) Q) else Q.val (false, p.2)⟩) := by
  have key : pst (andT a b τ) Q.val = (pst (a τ) (fun p => if p.1 = true then (pst (b p.2) (Q.val)) else Q.val (false, p.2))) := by
    simp only [andT, pst_bind, pst_ok, pst_stuck, pst_opt, pst_ite, if_false']
  simp only [post_def, optK_def, valK_def, ownK_def, owncK_def, boolK_def, intK_def, runs_def]
  exact key
@[simp ↓] theorem s_orT (a b : CT) (τ : Ev) (Q : Hold (Bool × Ev → Prop)) : @post _ (orT a b τ) Q = (@post _ (a τ) ⟨fun p => if p.1 = true then Q.val (true, p.2) else (@post _ (b p.2) Q)⟩) := by
  have key : pst (orT a b τ) Q.val = (pst (a τ) (fun p => if p.1 = true then Q.val (true, p.2) else (pst (b p.2) (Q.val)))) := by
    simp only [orT, pst_bind, pst_ok, pst_stuck, pst_opt, pst_ite, if_false']
  simp only [post_def, optK_def, valK_def, ownK_def, owncK_def, boolK_def, intK_def, runs_def]
  exact key
@[simp ↓] theorem s_yesT  (τ : Ev) (Q : Hold (Bool × Ev → Prop)) : @post _ (yesT τ) Q = Q.val (true, τ) := by
  have key : pst (yesT τ) Q.val = Q.val (true, τ) := by
    simp only [yesT, pst_bind, pst_ok, pst_stuck, pst_opt, pst_ite, if_false']
  simp only [post_def, optK_def, valK_def, ownK_def, owncK_def, boolK_def, intK_def, runs_def]
  exact key
@[simp ↓] theorem s_andC (a b : CE) (τ : Ev) (Q : Hold (D × Ev → Prop)) : @post _ (andC a b τ) Q = (@post _ (a τ) ⟨fun p => (@boolK (p.1) ⟨fun k => if k = true then (@post _ (b p.2) Q) else Q.val (.bool false, p.2)⟩)⟩) := by
  have key : pst (andC a b τ) Q.val = (pst (a τ) (fun p => (bos (p.1) (fun k => if k = true then (pst (b p.2) (Q.val)) else Q.val (.bool false, p.2))))) := by
    simp only [andC, bvC, pst_bind]
    refine congrArg (pst _) (funext fun p => ?_)
    obtain ⟨d, t⟩ := p
    cases d <;> simp only [bos, pst_bind, pst_ok, pst_stuck, pst_opt, pst_ite, if_false']
  simp only [post_def, optK_def, valK_def, ownK_def, owncK_def, boolK_def, intK_def, runs_def]
  exact key
@[simp ↓] theorem s_orC (a b : CE) (τ : Ev) (Q : Hold (D × Ev → Prop)) : @post _ (orC a b τ) Q = (@post _ (a τ) ⟨fun p => (@boolK (p.1) ⟨fun k => if k = true then Q.val (.bool true, p.2) else (@post _ (b p.2) Q)⟩)⟩) := by
  have key : pst (orC a b τ) Q.val = (pst (a τ) (fun p => (bos (p.1) (fun k => if k = true then Q.val (.bool true, p.2) else (pst (b p.2) (Q.val)))))) := by
    simp only [orC, bvC, pst_bind]
    refine congrArg (pst _) (funext fun p => ?_)
    obtain ⟨d, t⟩ := p
    cases d <;> simp only [bos, pst_bind, pst_ok, pst_stuck, pst_opt, pst_ite, if_false']
  simp only [post_def, optK_def, valK_def, ownK_def, owncK_def, boolK_def, intK_def, runs_def]
  exact key
@[simp ↓] theorem s_notC (a : CE) (τ : Ev) (Q : Hold (D × Ev → Prop)) : @post _ (notC a τ) Q = (@post _ (a τ) ⟨fun p => (@boolK (p.1) ⟨fun k => Q.val (.bool (!k), p.2)⟩)⟩) := by
  have key : pst (notC a τ) Q.val = (pst (a τ) (fun p => (bos (p.1) (fun k => Q.val (.bool (!k), p.2))))) := by
    simp only [notC, bvC, pst_bind]
    refine congrArg (pst _) (funext fun p => ?_)
    obtain ⟨d, t⟩ := p
    cases d <;> simp only [bos, pst_bind, pst_ok, pst_stuck, pst_opt, pst_ite, if_false']
  simp only [post_def, optK_def, valK_def, ownK_def, owncK_def, boolK_def, intK_def, runs_def]
  exact key
@[simp ↓] theorem s_ifC (t : CT) (a b : CE) (τ : Ev) (Q : Hold (D × Ev → Prop)) : @post _ (ifC t a b τ) Q = (@post _ (t τ) ⟨fun p => if p.1 = true then (@post _ (a p.2) Q) else (@post _ (b p.2) Q)⟩) := by
  have key : pst (ifC t a b τ) Q.val = (pst (t τ) (fun p => if p.1 = true then (pst (a p.2) (Q.val)) else (pst (b p.2) (Q.val)))) := by
    simp only [ifC, pst_bind, pst_ok, pst_stuck, pst_opt, pst_ite, if_false']
  simp only [post_def, optK_def, valK_def, ownK_def, owncK_def, boolK_def, intK_def, runs_def]
  exact key
@[simp ↓] theorem s_chainC (f g : D → D → Option D) (a b c : CE) (τ : Ev) (Q : Hold (D × Ev → Prop)) : @post _ (chainC f g a b c τ) Q = (@post _ (a τ) ⟨fun p => (@post _ (b p.2) ⟨fun q => (@optK _ (f p.1 q.1) ⟨fun z => (@boolK (z) ⟨fun k => if k = true then (@post _ (c q.2) ⟨fun r => (@optK _ (g q.1 r.1) ⟨fun w => Q.val (w, r.2)⟩)⟩) else Q.val (.bool false, q.2)⟩)⟩)⟩)⟩) := by
  have key : pst (chainC f g a b c τ) Q.val = (pst (a τ) (fun p => (pst (b p.2) (fun q => (ops (f p.1 q.1) (fun z => (bos (z) (fun k => if k = true then (pst (c q.2) (fun r => (ops (g q.1 r.1) (fun w => Q.val (w, r.2))))) else Q.val (.bool false, q.2))))))))) := by
    simp only [chainC, pst_bind, pst_opt]
    refine congrArg (pst _) (funext fun p => congrArg (pst _) (funext fun q => congrArg (ops _) (funext fun z => ?_)))
    cases z <;> simp only [bos, pst_bind, pst_ok, pst_stuck, pst_opt, pst_ite, if_false']
  simp only [post_def, optK_def, valK_def, ownK_def, owncK_def, boolK_def, intK_def, runs_def]
  exact key
@[simp ↓] theorem s_nilA  (τ : Ev) (Q : Hold (List D × Ev → Prop)) : @post _ (nilA τ) Q = Q.val ([], τ) := by
  have key : pst (nilA τ) Q.val = Q.val ([], τ) := by
    simp only [nilA, pst_bind, pst_ok, pst_stuck, pst_opt, pst_ite, if_false']
  simp only [post_def, optK_def, valK_def, ownK_def, owncK_def, boolK_def, intK_def, runs_def]
  exact key
@[simp ↓] theorem s_consA (a : CE) (r : CA) (τ : Ev) (Q : Hold (List D × Ev → Prop)) : @post _ (consA a r τ) Q = (@post _ (a τ) ⟨fun p => (@post _ (r p.2) ⟨fun q => Q.val (p.1 :: q.1, q.2)⟩)⟩) := by
  have key : pst (consA a r τ) Q.val = (pst (a τ) (fun p => (pst (r p.2) (fun q => Q.val (p.1 :: q.1, q.2))))) := by
    simp only [consA, pst_bind, pst_ok, pst_stuck, pst_opt, pst_ite, if_false']
  simp only [post_def, optK_def, valK_def, ownK_def, owncK_def, boolK_def, intK_def, runs_def]
  exact key
@[simp ↓] theorem s_tupC (c : CA) (τ : Ev) (Q : Hold (D × Ev → Prop)) : @post _ (tupC c τ) Q = (@post _ (c τ) ⟨fun p => sized p.1.length = true ∧ Q.val (.tuple p.1, p.2)⟩) := by
  have key : pst (tupC c τ) Q.val = (pst (c τ) (fun p => sized p.1.length = true ∧ Q.val (.tuple p.1, p.2))) := by
    simp only [tupC, pst_bind, pst_ok, pst_stuck, pst_opt, pst_ite, if_false']
  simp only [post_def, optK_def, valK_def, ownK_def, owncK_def, boolK_def, intK_def, runs_def]
  exact key
@[simp ↓] theorem s_lstO (c : CA) (τ : Ev) (Q : Hold (List D × Ev → Prop)) : @post _ (lstO c τ) Q = (@post _ (c τ) ⟨fun p => sized p.1.length = true ∧ Q.val (p.1, p.2)⟩) := by
  have key : pst (lstO c τ) Q.val = (pst (c τ) (fun p => sized p.1.length = true ∧ Q.val (p.1, p.2))) := by
    simp only [lstO, pst_bind, pst_ok, pst_stuck, pst_opt, pst_ite, if_false']
  simp only [post_def, optK_def, valK_def, ownK_def, owncK_def, boolK_def, intK_def, runs_def]
  exact key
@[simp ↓] theorem s_frzC (c : CO) (τ : Ev) (Q : Hold (D × Ev → Prop)) : @post _ (frzC c τ) Q = (@post _ (c τ) ⟨fun p => Q.val (.list p.1, p.2)⟩) := by
  have key : pst (frzC c τ) Q.val = (pst (c τ) (fun p => Q.val (.list p.1, p.2))) := by
    simp only [frzC, pst_bind, pst_ok, pst_stuck, pst_opt, pst_ite, if_false']
  simp only [post_def, optK_def, valK_def, ownK_def, owncK_def, boolK_def, intK_def, runs_def]
  exact key
@[simp ↓] theorem s_callC (f : List D → Option D) (c : CA) (τ : Ev) (Q : Hold (D × Ev → Prop)) : @post _ (callC f c τ) Q = (@post _ (c τ) ⟨fun p => (@optK _ (f p.1) ⟨fun z => Q.val (z, p.2)⟩)⟩) := by
  have key : pst (callC f c τ) Q.val = (pst (c τ) (fun p => (ops (f p.1) (fun z => Q.val (z, p.2))))) := by
    simp only [callC, pst_bind, pst_ok, pst_stuck, pst_opt, pst_ite, if_false']
  simp only [post_def, optK_def, valK_def, ownK_def, owncK_def, boolK_def, intK_def, runs_def]
  exact key
@[simp ↓] theorem s_callO (f : List D → Option (List D)) (c : CA) (τ : Ev) (Q : Hold (List D × Ev → Prop)) : @post _ (callO f c τ) Q = (@post _ (c τ) ⟨fun p => (@optK _ (f p.1) ⟨fun z => Q.val (z, p.2)⟩)⟩) := by
  have key : pst (callO f c τ) Q.val = (pst (c τ) (fun p => (ops (f p.1) (fun z => Q.val (z, p.2))))) := by
    simp only [callO, pst_bind, pst_ok, pst_stuck, pst_opt, pst_ite, if_false']
  simp only [post_def, optK_def, valK_def, ownK_def, owncK_def, boolK_def, intK_def, runs_def]
  exact key
@[simp ↓] theorem s_fnC (f : List D → R D) (c : CA) (τ : Ev) (Q : Hold (D × Ev → Prop)) : @post _ (fnC f c τ) Q = (@post _ (c τ) ⟨fun p => (@post _ (f p.1) ⟨fun z => Q.val (z, p.2)⟩)⟩) := by
  have key : pst (fnC f c τ) Q.val = (pst (c τ) (fun p => (pst (f p.1) (fun z => Q.val (z, p.2))))) := by
    simp only [fnC, pst_bind, pst_ok, pst_stuck, pst_opt, pst_ite, if_false']
  simp only [post_def, optK_def, valK_def, ownK_def, owncK_def, boolK_def, intK_def, runs_def]
  exact key
@[simp ↓] theorem s_fnCO (f : List D → R (List D)) (c : CA) (τ : Ev) (Q : Hold (List D × Ev → Prop)) : @post _ (fnCO f c τ) Q = (@post _ (c τ) ⟨fun p => (@post _ (f p.1) ⟨fun z => Q.val (z, p.2)⟩)⟩) := by
  have key : pst (fnCO f c τ) Q.val = (pst (c τ) (fun p => (pst (f p.1) (fun z => Q.val (z, p.2))))) := by
    simp only [fnCO, pst_bind, pst_ok, pst_stuck, pst_opt, pst_ite, if_false']
  simp only [post_def, optK_def, valK_def, ownK_def, owncK_def, boolK_def, intK_def, runs_def]
  exact key
@[simp ↓] theorem s_fnCM (i : Nat) (f : List D → List D → R (D × List D)) (c : CA) (τ : Ev) (Q : Hold (D × Ev → Prop)) : @post _ (fnCM i f c τ) Q = (@ownK (τ[i]?) ⟨fun _ _ => (@post _ (c τ) ⟨fun p => (@ownK (p.2[i]?) ⟨fun t ls => (@post _ (f ls p.1) ⟨fun q => Q.val (q.1, p.2.set i (.own t q.2))⟩)⟩)⟩)⟩) := by
  have key : pst (fnCM i f c τ) Q.val = (ows (τ[i]?) (fun _ _ => (pst (c τ) (fun p => (ows (p.2[i]?) (fun t ls => (pst (f ls p.1) (fun q => Q.val (q.1, p.2.set i (.own t q.2)))))))))) := by
    unfold fnCM ows
    generalize τ[i]? = o1
    rcases o1 with _ | s1
    · rfl
    rcases s1 with _ | d1 | ⟨t1, l1⟩
    · rfl
    · rfl
    rcases l1 with l1 | _
    rotate_left
    · rfl
    simp only [pst_bind]
    refine congrArg (pst _) (funext fun p => ?_)
    obtain ⟨d, t⟩ := p
    generalize t[i]? = o2
    rcases o2 with _ | s2
    · rfl
    rcases s2 with _ | d2 | ⟨t2, l2⟩
    · rfl
    · rfl
    rcases l2 with l2 | _
    rotate_left
    · rfl
    simp only []
    cases f l2 d <;> rfl
  simp only [post_def, optK_def, valK_def, ownK_def, owncK_def, boolK_def, intK_def, runs_def]
  exact key
@[simp ↓] theorem s_ixOwn (i : Nat) (c : CE) (τ : Ev) (Q : Hold (D × Ev → Prop)) : @post _ (ixOwn i c τ) Q = (@ownK (τ[i]?) ⟨fun _ _ => (@post _ (c τ) ⟨fun p => (@ownK (p.2[i]?) ⟨fun _ ls => (@optK _ (ixD (.list ls) p.1) ⟨fun z => Q.val (z, p.2)⟩)⟩)⟩)⟩) := by
  have key : pst (ixOwn i c τ) Q.val = (ows (τ[i]?) (fun _ _ => (pst (c τ) (fun p => (ows (p.2[i]?) (fun _ ls => (ops (ixD (.list ls) p.1) (fun z => Q.val (z, p.2))))))))) := by
    unfold ixOwn ows
    generalize τ[i]? = o1
    rcases o1 with _ | s1
    · rfl
    rcases s1 with _ | d1 | ⟨t1, l1⟩
    · rfl
    · rfl
    rcases l1 with l1 | _
    rotate_left
    · rfl
    simp only [pst_bind]
    refine congrArg (pst _) (funext fun p => ?_)
    obtain ⟨d, t⟩ := p
    generalize t[i]? = o2
    rcases o2 with _ | s2
    · rfl
    rcases s2 with _ | d2 | ⟨t2, l2⟩
    · rfl
    · rfl
    rcases l2 with l2 | _
    rotate_left
    · rfl
    simp only [pst_bind, pst_ok, pst_stuck, pst_opt, pst_ite, if_false']
  simp only [post_def, optK_def, valK_def, ownK_def, owncK_def, boolK_def, intK_def, runs_def]
  exact key
@[simp ↓] theorem s_lenOwn (i : Nat) (τ : Ev) (Q : Hold (D × Ev → Prop)) : @post _ (lenOwn i τ) Q = (@ownK (τ[i]?) ⟨fun _ ls => Q.val (.int ls.length, τ)⟩) := by
  have key : pst (lenOwn i τ) Q.val = (ows (τ[i]?) (fun _ ls => Q.val (.int ls.length, τ))) := by
    unfold lenOwn ows
    generalize τ[i]? = o1
    rcases o1 with _ | s1
    · rfl
    rcases s1 with _ | d1 | ⟨t1, l1⟩
    · rfl
    · rfl
    rcases l1 with l1 | _
    rotate_left
    · rfl
    rfl
  simp only [post_def, optK_def, valK_def, ownK_def, owncK_def, boolK_def, intK_def, runs_def]
  exact key
@[simp ↓] theorem s_look2C (f : D → D → Option D) (i : Nat) (b : CE) (τ : Ev) (Q : Hold (D × Ev → Prop)) : @post _ (look2C f i b τ) Q = (@ownK (τ[i]?) ⟨fun _ _ => (@post _ (b τ) ⟨fun p => (@ownK (p.2[i]?) ⟨fun _ ls => (@optK _ (f (.list ls) p.1) ⟨fun z => scalD z = true ∧ Q.val (z, p.2)⟩)⟩)⟩)⟩) := by
  have key : pst (look2C f i b τ) Q.val = (ows (τ[i]?) (fun _ _ => (pst (b τ) (fun p => (ows (p.2[i]?) (fun _ ls => (ops (f (.list ls) p.1) (fun z => scalD z = true ∧ Q.val (z, p.2))))))))) := by
    unfold look2C ows
    generalize τ[i]? = o1
    rcases o1 with _ | s1
    · rfl
    rcases s1 with _ | d1 | ⟨t1, l1⟩
    · rfl
    · rfl
    rcases l1 with l1 | _
    rotate_left
    · rfl
    simp only [pst_bind]
    refine congrArg (pst _) (funext fun p => ?_)
    obtain ⟨d, t⟩ := p
    generalize t[i]? = o2
    rcases o2 with _ | s2
    · rfl
    rcases s2 with _ | d2 | ⟨t2, l2⟩
    · rfl
    · rfl
    rcases l2 with l2 | _
    rotate_left
    · rfl
    simp only [pst_bind, pst_ok, pst_stuck, pst_opt, pst_ite, if_false']
  simp only [post_def, optK_def, valK_def, ownK_def, owncK_def, boolK_def, intK_def, runs_def]
  exact key
@[simp ↓] theorem s_look2R (f : D → D → Option D) (i : Nat) (b : CE) (τ : Ev) (Q : Hold (D × Ev → Prop)) : @post _ (look2R f i b τ) Q = (@post _ (b τ) ⟨fun p => (@ownK (p.2[i]?) ⟨fun _ ls => (@optK _ (f p.1 (.list ls)) ⟨fun z => scalD z = true ∧ Q.val (z, p.2)⟩)⟩)⟩) := by
  have key : pst (look2R f i b τ) Q.val = (pst (b τ) (fun p => (ows (p.2[i]?) (fun _ ls => (ops (f p.1 (.list ls)) (fun z => scalD z = true ∧ Q.val (z, p.2))))))) := by
    simp only [look2R, pst_bind, ows]
    refine congrArg (pst _) (funext fun p => ?_)
    obtain ⟨d, t⟩ := p
    generalize t[i]? = o2
    rcases o2 with _ | s2
    · rfl
    rcases s2 with _ | d2 | ⟨t2, l2⟩
    · rfl
    · rfl
    rcases l2 with l2 | _
    rotate_left
    · rfl
    simp only [pst_bind, pst_ok, pst_stuck, pst_opt, pst_ite, if_false']
  simp only [post_def, optK_def, valK_def, ownK_def, owncK_def, boolK_def, intK_def, runs_def]
  exact key
@[simp ↓] theorem s_isC (T : String) (c : CE) (τ : Ev) (Q : Hold (D × Ev → Prop)) : @post _ (isC T c τ) Q = (@post _ (c τ) ⟨fun p => noDct p.1 = true ∧ Q.val (.bool (isT T p.1), p.2)⟩) := by
  have key : pst (isC T c τ) Q.val = (pst (c τ) (fun p => noDct p.1 = true ∧ Q.val (.bool (isT T p.1), p.2))) := by
    simp only [isC, pst_bind, pst_ok, pst_stuck, pst_opt, pst_ite, if_false']
  simp only [post_def, optK_def, valK_def, ownK_def, owncK_def, boolK_def, intK_def, runs_def]
  exact key
@[simp ↓] theorem s_noP  (τ : Ev) (Q : Hold (Option Int × Ev → Prop)) : @post _ (noP τ) Q = Q.val (none, τ) := by
  have key : pst (noP τ) Q.val = Q.val (none, τ) := by
    simp only [noP, pst_bind, pst_ok, pst_stuck, pst_opt, pst_ite, if_false']
  simp only [post_def, optK_def, valK_def, ownK_def, owncK_def, boolK_def, intK_def, runs_def]
  exact key
@[simp ↓] theorem s_partP (c : CE) (τ : Ev) (Q : Hold (Option Int × Ev → Prop)) : @post _ (partP c τ) Q = (@post _ (c τ) ⟨fun p => (@intK (p.1) ⟨fun i => Q.val (some i, p.2)⟩)⟩) := by
  have key : pst (partP c τ) Q.val = (pst (c τ) (fun p => (ins (p.1) (fun i => Q.val (some i, p.2))))) := by
    simp only [partP, pst_bind]
    refine congrArg (pst _) (funext fun p => ?_)
    obtain ⟨d, t⟩ := p
    cases d <;> rfl
  simp only [post_def, optK_def, valK_def, ownK_def, owncK_def, boolK_def, intK_def, runs_def]
  exact key
@[simp ↓] theorem s_slC (f : D → Option Int → Option Int → Option D) (a : CE) (l u : CP) (τ : Ev) (Q : Hold (D × Ev → Prop)) : @post _ (sliceC f a l u τ) Q = (@post _ (a τ) ⟨fun p => (@post _ (l p.2) ⟨fun q => (@post _ (u q.2) ⟨fun t => (@optK _ (f p.1 q.1 t.1) ⟨fun z => Q.val (z, t.2)⟩)⟩)⟩)⟩) := by
  have key : pst (sliceC f a l u τ) Q.val = (pst (a τ) (fun p => (pst (l p.2) (fun q => (pst (u q.2) (fun t => (ops (f p.1 q.1 t.1) (fun z => Q.val (z, t.2))))))))) := by
    simp only [sliceC, pst_bind, pst_ok, pst_stuck, pst_opt, pst_ite, if_false']
  simp only [post_def, optK_def, valK_def, ownK_def, owncK_def, boolK_def, intK_def, runs_def]
  exact key
@[simp ↓] theorem s_slO (f : D → Option Int → Option Int → Option (List D)) (a : CE) (l u : CP) (τ : Ev) (Q : Hold (List D × Ev → Prop)) : @post _ (sliceC f a l u τ) Q = (@post _ (a τ) ⟨fun p => (@post _ (l p.2) ⟨fun q => (@post _ (u q.2) ⟨fun t => (@optK _ (f p.1 q.1 t.1) ⟨fun z => Q.val (z, t.2)⟩)⟩)⟩)⟩) := by
  have key : pst (sliceC f a l u τ) Q.val = (pst (a τ) (fun p => (pst (l p.2) (fun q => (pst (u q.2) (fun t => (ops (f p.1 q.1 t.1) (fun z => Q.val (z, t.2))))))))) := by
    simp only [sliceC, pst_bind, pst_ok, pst_stuck, pst_opt, pst_ite, if_false']
  simp only [post_def, optK_def, valK_def, ownK_def, owncK_def, boolK_def, intK_def, runs_def]
  exact key
@[simp ↓] theorem s_rng1I (c : CA) (τ : Ev) (Q : Hold (List D × Ev → Prop)) : @post _ (rng1I c τ) Q = (@post _ (c τ) ⟨fun p => (@optK _ (get1 p.1) ⟨fun j => Q.val (rngD 0 j, p.2)⟩)⟩) := by
  have key : pst (rng1I c τ) Q.val = (pst (c τ) (fun p => (ops (get1 p.1) (fun j => Q.val (rngD 0 j, p.2))))) := by
    simp only [rng1I, pst_bind, pst_ok, pst_stuck, pst_opt, pst_ite, if_false']
  simp only [post_def, optK_def, valK_def, ownK_def, owncK_def, boolK_def, intK_def, runs_def]
  exact key
@[simp ↓] theorem s_rng2I (c : CA) (τ : Ev) (Q : Hold (List D × Ev → Prop)) : @post _ (rng2I c τ) Q = (@post _ (c τ) ⟨fun p => (@optK _ (get2 p.1) ⟨fun j => Q.val (rngD j.1 j.2, p.2)⟩)⟩) := by
  have key : pst (rng2I c τ) Q.val = (pst (c τ) (fun p => (ops (get2 p.1) (fun j => Q.val (rngD j.1 j.2, p.2))))) := by
    simp only [rng2I, pst_bind, pst_ok, pst_stuck, pst_opt, pst_ite, if_false']
  simp only [post_def, optK_def, valK_def, ownK_def, owncK_def, boolK_def, intK_def, runs_def]
  exact key
@[simp ↓] theorem s_zipI (c : CA) (τ : Ev) (Q : Hold (List D × Ev → Prop)) : @post _ (zipI c τ) Q = (@post _ (c τ) ⟨fun p => (@optK _ (zip2 p.1) ⟨fun j => Q.val (j, p.2)⟩)⟩) := by
  have key : pst (zipI c τ) Q.val = (pst (c τ) (fun p => (ops (zip2 p.1) (fun j => Q.val (j, p.2))))) := by
    simp only [zipI, pst_bind, pst_ok, pst_stuck, pst_opt, pst_ite, if_false']
  simp only [post_def, optK_def, valK_def, ownK_def, owncK_def, boolK_def, intK_def, runs_def]
  exact key
@[simp ↓] theorem s_enumI (c : CE) (τ : Ev) (Q : Hold (List D × Ev → Prop)) : @post _ (enumI c τ) Q = (@post _ (c τ) ⟨fun p => (@optK _ (seqOf p.1) ⟨fun j => Q.val (enumD j, p.2)⟩)⟩) := by
  have key : pst (enumI c τ) Q.val = (pst (c τ) (fun p => (ops (seqOf p.1) (fun j => Q.val (enumD j, p.2))))) := by
    simp only [enumI, pst_bind, pst_ok, pst_stuck, pst_opt, pst_ite, if_false']
  simp only [post_def, optK_def, valK_def, ownK_def, owncK_def, boolK_def, intK_def, runs_def]
  exact key
@[simp ↓] theorem s_seqI (c : CE) (τ : Ev) (Q : Hold (List D × Ev → Prop)) : @post _ (seqI c τ) Q = (@post _ (c τ) ⟨fun p => (@optK _ (seqOf p.1) ⟨fun j => Q.val (j, p.2)⟩)⟩) := by
  have key : pst (seqI c τ) Q.val = (pst (c τ) (fun p => (ops (seqOf p.1) (fun j => Q.val (j, p.2))))) := by
    simp only [seqI, pst_bind, pst_ok, pst_stuck, pst_opt, pst_ite, if_false']
  simp only [post_def, optK_def, valK_def, ownK_def, owncK_def, boolK_def, intK_def, runs_def]
  exact key
@[simp ↓] theorem s_lstI (c : CE) (τ : Ev) (Q : Hold (List D × Ev → Prop)) : @post _ (lstI c τ) Q = (@post _ (c τ) ⟨fun p => (@optK _ (lstOf p.1) ⟨fun j => Q.val (j, p.2)⟩)⟩) := by
  have key : pst (lstI c τ) Q.val = (pst (c τ) (fun p => (ops (lstOf p.1) (fun j => Q.val (j, p.2))))) := by
    simp only [lstI, pst_bind, pst_ok, pst_stuck, pst_opt, pst_ite, if_false']
  simp only [post_def, optK_def, valK_def, ownK_def, owncK_def, boolK_def, intK_def, runs_def]
  exact key
@[simp ↓] theorem s_tupI (c : CE) (τ : Ev) (Q : Hold (List D × Ev → Prop)) : @post _ (tupI c τ) Q = (@post _ (c τ) ⟨fun p => (@optK _ (tupOf p.1) ⟨fun j => Q.val (j, p.2)⟩)⟩) := by
  have key : pst (tupI c τ) Q.val = (pst (c τ) (fun p => (ops (tupOf p.1) (fun j => Q.val (j, p.2))))) := by
    simp only [tupI, pst_bind, pst_ok, pst_stuck, pst_opt, pst_ite, if_false']
  simp only [post_def, optK_def, valK_def, ownK_def, owncK_def, boolK_def, intK_def, runs_def]
  exact key
@[simp ↓] theorem s_lrg1O (a : CE) (τ : Ev) (Q : Hold (List D × Ev → Prop)) : @post _ (lrg1O a τ) Q = (@post _ (a τ) ⟨fun p => (@optK _ (get1 [p.1]) ⟨fun j => Q.val (rngD 0 j, p.2)⟩)⟩) := by
  have key : pst (lrg1O a τ) Q.val = (pst (a τ) (fun p => (ops (get1 [p.1]) (fun j => Q.val (rngD 0 j, p.2))))) := by
    simp only [lrg1O, pst_bind, pst_ok, pst_stuck, pst_opt, pst_ite, if_false']
  simp only [post_def, optK_def, valK_def, ownK_def, owncK_def, boolK_def, intK_def, runs_def]
  exact key
@[simp ↓] theorem s_lrg2O (a b : CE) (τ : Ev) (Q : Hold (List D × Ev → Prop)) : @post _ (lrg2O a b τ) Q = (@post _ (a τ) ⟨fun p => (@post _ (b p.2) ⟨fun q => (@optK _ (get2 [p.1, q.1]) ⟨fun j => Q.val (rngD j.1 j.2, q.2)⟩)⟩)⟩) := by
  have key : pst (lrg2O a b τ) Q.val = (pst (a τ) (fun p => (pst (b p.2) (fun q => (ops (get2 [p.1, q.1]) (fun j => Q.val (rngD j.1 j.2, q.2))))))) := by
    simp only [lrg2O, pst_bind, pst_ok, pst_stuck, pst_opt, pst_ite, if_false']
  simp only [post_def, optK_def, valK_def, ownK_def, owncK_def, boolK_def, intK_def, runs_def]
  exact key
@[simp ↓] theorem s_trg1C (a : CE) (τ : Ev) (Q : Hold (D × Ev → Prop)) : @post _ (trg1C a τ) Q = (@post _ (a τ) ⟨fun p => (@optK _ (get1 [p.1]) ⟨fun j => Q.val (.tuple (rngD 0 j), p.2)⟩)⟩) := by
  have key : pst (trg1C a τ) Q.val = (pst (a τ) (fun p => (ops (get1 [p.1]) (fun j => Q.val (.tuple (rngD 0 j), p.2))))) := by
    simp only [trg1C, pst_bind, pst_ok, pst_stuck, pst_opt, pst_ite, if_false']
  simp only [post_def, optK_def, valK_def, ownK_def, owncK_def, boolK_def, intK_def, runs_def]
  exact key
@[simp ↓] theorem s_mvO (i : Nat) (τ : Ev) (Q : Hold (List D × Ev → Prop)) : @post _ (mvO i τ) Q = (@ownK (τ[i]?) ⟨fun _ ls => Q.val (ls, τ.set i .free)⟩) := by
  have key : pst (mvO i τ) Q.val = (ows (τ[i]?) (fun _ ls => Q.val (ls, τ.set i .free))) := by
    unfold mvO ows
    generalize τ[i]? = o1
    rcases o1 with _ | s1
    · rfl
    rcases s1 with _ | d1 | ⟨t1, l1⟩
    · rfl
    · rfl
    rcases l1 with l1 | _
    rotate_left
    · rfl
    rfl
  simp only [post_def, optK_def, valK_def, ownK_def, owncK_def, boolK_def, intK_def, runs_def]
  exact key
@[simp ↓] theorem s_mvC (i : Nat) (τ : Ev) (Q : Hold (Cont × Ev → Prop)) : @post _ (mvC i τ) Q = (@owncK (τ[i]?) ⟨fun _ c => Q.val (c, τ.set i .free)⟩) := by
  have key : pst (mvC i τ) Q.val = (ocs (τ[i]?) (fun _ c => Q.val (c, τ.set i .free))) := by
    unfold mvC ocs
    generalize τ[i]? = o1
    rcases o1 with _ | s1
    · rfl
    rcases s1 with _ | d1 | ⟨t1, l1⟩ <;> rfl
  simp only [post_def, optK_def, valK_def, ownK_def, owncK_def, boolK_def, intK_def, runs_def]
  exact key
@[simp ↓] theorem s_fnCD (f : List D → R Cont) (c : CA) (τ : Ev) (Q : Hold (Cont × Ev → Prop)) : @post _ (fnCD f c τ) Q = (@post _ (c τ) ⟨fun p => (@post _ (f p.1) ⟨fun z => Q.val (z, p.2)⟩)⟩) := by
  have key : pst (fnCD f c τ) Q.val = (pst (c τ) (fun p => (pst (f p.1) (fun z => Q.val (z, p.2))))) := by
    simp only [fnCD, pst_bind, pst_ok, pst_stuck, pst_opt, pst_ite, if_false']
  simp only [post_def, optK_def, valK_def, ownK_def, owncK_def, boolK_def, intK_def, runs_def]
  exact key
@[simp ↓] theorem s_nilM  (τ : Ev) (Q : Hold (List Slot × Ev → Prop)) : @post _ (nilM τ) Q = Q.val ([], τ) := by
  have key : pst (nilM τ) Q.val = Q.val ([], τ) := by
    simp only [nilM, pst_bind, pst_ok, pst_stuck, pst_opt, pst_ite, if_false']
  simp only [post_def, optK_def, valK_def, ownK_def, owncK_def, boolK_def, intK_def, runs_def]
  exact key
@[simp ↓] theorem s_valM (c : CE) (r : CM) (τ : Ev) (Q : Hold (List Slot × Ev → Prop)) : @post _ (valM c r τ) Q = (@post _ (c τ) ⟨fun p => (@post _ (r p.2) ⟨fun q => Q.val (.val p.1 :: q.1, q.2)⟩)⟩) := by
  have key : pst (valM c r τ) Q.val = (pst (c τ) (fun p => (pst (r p.2) (fun q => Q.val (.val p.1 :: q.1, q.2))))) := by
    simp only [valM, pst_bind, pst_ok, pst_stuck, pst_opt, pst_ite, if_false']
  simp only [post_def, optK_def, valK_def, ownK_def, owncK_def, boolK_def, intK_def, runs_def]
  exact key
@[simp ↓] theorem s_ownM (c : CO) (r : CM) (τ : Ev) (Q : Hold (List Slot × Ev → Prop)) : @post _ (ownM c r τ) Q = (@post _ (c τ) ⟨fun p => (@post _ (r p.2) ⟨fun q => Q.val (.own none p.1 :: q.1, q.2)⟩)⟩) := by
  have key : pst (ownM c r τ) Q.val = (pst (c τ) (fun p => (pst (r p.2) (fun q => Q.val (.own none p.1 :: q.1, q.2))))) := by
    simp only [ownM, pst_bind, pst_ok, pst_stuck, pst_opt, pst_ite, if_false']
  simp only [post_def, optK_def, valK_def, ownK_def, owncK_def, boolK_def, intK_def, runs_def]
  exact key
@[simp ↓] theorem s_nextS  (τ : Ev) (Q : Hold (Lin.Flow × Ev → Prop)) : @Runs ⟨nextS⟩ τ Q = Q.val (.next, τ) := by
  have key : pst (nextS τ) Q.val = Q.val (.next, τ) := by
    simp only [nextS, pst_bind, pst_ok, pst_stuck, pst_opt, pst_ite, if_false']
  simp only [post_def, optK_def, valK_def, ownK_def, owncK_def, boolK_def, intK_def, runs_def]
  exact key
@[simp ↓] theorem s_brkS  (τ : Ev) (Q : Hold (Lin.Flow × Ev → Prop)) : @Runs ⟨brkS⟩ τ Q = Q.val (.brk, τ) := by
  have key : pst (brkS τ) Q.val = Q.val (.brk, τ) := by
    simp only [brkS, pst_bind, pst_ok, pst_stuck, pst_opt, pst_ite, if_false']
  simp only [post_def, optK_def, valK_def, ownK_def, owncK_def, boolK_def, intK_def, runs_def]
  exact key
@[simp ↓] theorem s_contS  (τ : Ev) (Q : Hold (Lin.Flow × Ev → Prop)) : @Runs ⟨contS⟩ τ Q = Q.val (.cont, τ) := by
  have key : pst (contS τ) Q.val = Q.val (.cont, τ) := by
    simp only [contS, pst_bind, pst_ok, pst_stuck, pst_opt, pst_ite, if_false']
  simp only [post_def, optK_def, valK_def, ownK_def, owncK_def, boolK_def, intK_def, runs_def]
  exact key
@[simp ↓] theorem s_retNS  (τ : Ev) (Q : Hold (Lin.Flow × Ev → Prop)) : @Runs ⟨retNS⟩ τ Q = Q.val (.ret .none, τ) := by
  have key : pst (retNS τ) Q.val = Q.val (.ret .none, τ) := by
    simp only [retNS, pst_bind, pst_ok, pst_stuck, pst_opt, pst_ite, if_false']
  simp only [post_def, optK_def, valK_def, ownK_def, owncK_def, boolK_def, intK_def, runs_def]
  exact key
@[simp ↓] theorem s_exprS (c : CE) (τ : Ev) (Q : Hold (Lin.Flow × Ev → Prop)) : @Runs ⟨exprS c⟩ τ Q = (@post _ (c τ) ⟨fun p => Q.val (.next, p.2)⟩) := by
  have key : pst (exprS c τ) Q.val = (pst (c τ) (fun p => Q.val (.next, p.2))) := by
    simp only [exprS, pst_bind, pst_ok, pst_stuck, pst_opt, pst_ite, if_false']
  simp only [post_def, optK_def, valK_def, ownK_def, owncK_def, boolK_def, intK_def, runs_def]
  exact key
@[simp ↓] theorem s_retS (c : CE) (τ : Ev) (Q : Hold (Lin.Flow × Ev → Prop)) : @Runs ⟨retS c⟩ τ Q = (@post _ (c τ) ⟨fun p => Q.val (.ret p.1, p.2)⟩) := by
  have key : pst (retS c τ) Q.val = (pst (c τ) (fun p => Q.val (.ret p.1, p.2))) := by
    simp only [retS, pst_bind, pst_ok, pst_stuck, pst_opt, pst_ite, if_false']
  simp only [post_def, optK_def, valK_def, ownK_def, owncK_def, boolK_def, intK_def, runs_def]
  exact key
@[simp ↓] theorem s_retOS (c : CO) (τ : Ev) (Q : Hold (Lin.Flow × Ev → Prop)) : @Runs ⟨retOS c⟩ τ Q = (@post _ (c τ) ⟨fun p => Q.val (.retO p.1, p.2)⟩) := by
  have key : pst (retOS c τ) Q.val = (pst (c τ) (fun p => Q.val (.retO p.1, p.2))) := by
    simp only [retOS, pst_bind, pst_ok, pst_stuck, pst_opt, pst_ite, if_false']
  simp only [post_def, optK_def, valK_def, ownK_def, owncK_def, boolK_def, intK_def, runs_def]
  exact key
@[simp ↓] theorem s_retCS (c : CD) (τ : Ev) (Q : Hold (Lin.Flow × Ev → Prop)) : @Runs ⟨retCS c⟩ τ Q = (@post _ (c τ) ⟨fun p => Q.val (.retC p.1, p.2)⟩) := by
  have key : pst (retCS c τ) Q.val = (pst (c τ) (fun p => Q.val (.retC p.1, p.2))) := by
    simp only [retCS, pst_bind, pst_ok, pst_stuck, pst_opt, pst_ite, if_false']
  simp only [post_def, optK_def, valK_def, ownK_def, owncK_def, boolK_def, intK_def, runs_def]
  exact key
@[simp ↓] theorem s_setCS (i : Nat) (c : CD) (τ : Ev) (Q : Hold (Lin.Flow × Ev → Prop)) : @Runs ⟨setCS i c⟩ τ Q = (@post _ (c τ) ⟨fun p => Q.val (.next, p.2.set i (.own none p.1))⟩) := by
  have key : pst (setCS i c τ) Q.val = (pst (c τ) (fun p => Q.val (.next, p.2.set i (.own none p.1)))) := by
    simp only [setCS, pst_bind, pst_ok, pst_stuck, pst_opt, pst_ite, if_false']
  simp only [post_def, optK_def, valK_def, ownK_def, owncK_def, boolK_def, intK_def, runs_def]
  exact key
@[simp ↓] theorem s_setS (i : Nat) (c : CE) (τ : Ev) (Q : Hold (Lin.Flow × Ev → Prop)) : @Runs ⟨setS i c⟩ τ Q = (@post _ (c τ) ⟨fun p => Q.val (.next, p.2.set i (.val p.1))⟩) := by
  have key : pst (setS i c τ) Q.val = (pst (c τ) (fun p => Q.val (.next, p.2.set i (.val p.1)))) := by
    simp only [setS, pst_bind, pst_ok, pst_stuck, pst_opt, pst_ite, if_false']
  simp only [post_def, optK_def, valK_def, ownK_def, owncK_def, boolK_def, intK_def, runs_def]
  exact key
@[simp ↓] theorem s_setOS (i : Nat) (c : CO) (τ : Ev) (Q : Hold (Lin.Flow × Ev → Prop)) : @Runs ⟨setOS i c⟩ τ Q = (@post _ (c τ) ⟨fun p => Q.val (.next, p.2.set i (.own none p.1))⟩) := by
  have key : pst (setOS i c τ) Q.val = (pst (c τ) (fun p => Q.val (.next, p.2.set i (.own none p.1)))) := by
    simp only [setOS, pst_bind, pst_ok, pst_stuck, pst_opt, pst_ite, if_false']
  simp only [post_def, optK_def, valK_def, ownK_def, owncK_def, boolK_def, intK_def, runs_def]
  exact key
@[simp ↓] theorem s_asgS (c : CE) (g : D → Ev → Option Ev) (τ : Ev) (Q : Hold (Lin.Flow × Ev → Prop)) : @Runs ⟨asgS c g⟩ τ Q = (@post _ (c τ) ⟨fun p => (@optK _ (g p.1 p.2) ⟨fun t => Q.val (.next, t)⟩)⟩) := by
  have key : pst (asgS c g τ) Q.val = (pst (c τ) (fun p => (ops (g p.1 p.2) (fun t => Q.val (.next, t))))) := by
    simp only [asgS, pst_bind, pst_ok, pst_stuck, pst_opt, pst_ite, if_false']
  simp only [post_def, optK_def, valK_def, ownK_def, owncK_def, boolK_def, intK_def, runs_def]
  exact key
@[simp ↓] theorem s_parS (is : List Nat) (c : CM) (τ : Ev) (Q : Hold (Lin.Flow × Ev → Prop)) : @Runs ⟨parS is c⟩ τ Q = (@post _ (c τ) ⟨fun p => (@optK _ (setAll is p.1 p.2) ⟨fun t => Q.val (.next, t)⟩)⟩) := by
  have key : pst (parS is c τ) Q.val = (pst (c τ) (fun p => (ops (setAll is p.1 p.2) (fun t => Q.val (.next, t))))) := by
    simp only [parS, pst_bind, pst_ok, pst_stuck, pst_opt, pst_ite, if_false']
  simp only [post_def, optK_def, valK_def, ownK_def, owncK_def, boolK_def, intK_def, runs_def]
  exact key
@[simp ↓] theorem s_appS (i : Nat) (c : CE) (τ : Ev) (Q : Hold (Lin.Flow × Ev → Prop)) : @Runs ⟨appS i c⟩ τ Q = (@ownK (τ[i]?) ⟨fun _ _ => (@post _ (c τ) ⟨fun p => (@ownK (p.2[i]?) ⟨fun t ls => sized (ls.length + 1) = true ∧ Q.val (.next, p.2.set i (.own t (ls ++ [p.1])))⟩)⟩)⟩) := by
  have key : pst (appS i c τ) Q.val = (ows (τ[i]?) (fun _ _ => (pst (c τ) (fun p => (ows (p.2[i]?) (fun t ls => sized (ls.length + 1) = true ∧ Q.val (.next, p.2.set i (.own t (ls ++ [p.1]))))))))) := by
    unfold appS ows
    generalize τ[i]? = o1
    rcases o1 with _ | s1
    · rfl
    rcases s1 with _ | d1 | ⟨t1, l1⟩
    · rfl
    · rfl
    rcases l1 with l1 | _
    rotate_left
    · rfl
    simp only [pst_bind]
    refine congrArg (pst _) (funext fun p => ?_)
    obtain ⟨d, t⟩ := p
    generalize t[i]? = o2
    rcases o2 with _ | s2
    · rfl
    rcases s2 with _ | d2 | ⟨t2, l2⟩
    · rfl
    · rfl
    rcases l2 with l2 | _
    rotate_left
    · rfl
    simp only [pst_bind, pst_ok, pst_stuck, pst_opt, pst_ite, if_false']
  simp only [post_def, optK_def, valK_def, ownK_def, owncK_def, boolK_def, intK_def, runs_def]
  exact key
@[simp ↓] theorem s_setItS (i : Nat) (a c : CE) (τ : Ev) (Q : Hold (Lin.Flow × Ev → Prop)) : @Runs ⟨setItS i a c⟩ τ Q = (@post _ (c τ) ⟨fun p => (@ownK (p.2[i]?) ⟨fun _ _ => (@post _ (a p.2) ⟨fun q => (@ownK (q.2[i]?) ⟨fun t ls => (@intK (q.1) ⟨fun k => (@optK _ (ixN ls.length k) ⟨fun j => Q.val (.next, q.2.set i (.own t (ls.set j p.1)))⟩)⟩)⟩)⟩)⟩)⟩) := by
  have key : pst (setItS i a c τ) Q.val = (pst (c τ) (fun p => (ows (p.2[i]?) (fun _ _ => (pst (a p.2) (fun q => (ows (q.2[i]?) (fun t ls => (ins (q.1) (fun k => (ops (ixN ls.length k) (fun j => Q.val (.next, q.2.set i (.own t (ls.set j p.1))))))))))))))) := by
    simp only [setItS, pst_bind, ows]
    refine congrArg (pst _) (funext fun p => ?_)
    obtain ⟨d, t⟩ := p
    generalize t[i]? = o2
    rcases o2 with _ | s2
    · rfl
    rcases s2 with _ | d2 | ⟨t2, l2⟩
    · rfl
    · rfl
    rcases l2 with l2 | _
    rotate_left
    · rfl
    simp only [pst_bind]
    refine congrArg (pst _) (funext fun q => ?_)
    obtain ⟨e, u⟩ := q
    simp only []
    generalize u[i]? = o3
    rcases o3 with _ | s3
    · cases e <;> rfl
    rcases s3 with _ | d3 | ⟨t3, l3⟩
    · cases e <;> rfl
    · cases e <;> rfl
    rcases l3 with l3 | _
    rotate_left
    · cases e <;> rfl
    cases e <;> simp only [ins, pst_bind, pst_ok, pst_stuck, pst_opt, pst_ite, if_false']
  simp only [post_def, optK_def, valK_def, ownK_def, owncK_def, boolK_def, intK_def, runs_def]
  exact key
theorem post_out {α : Type} {x : R α} {Q : Hold (α → Prop)} (h : @post _ x Q) : pst x Q.val := by rw [post_def] at h; exact h
theorem post_in {α : Type} {x : R α} {Q : Hold (α → Prop)} (h : pst x Q.val) : @post _ x Q := by rw [post_def]; exact h
theorem opt_out {α : Type} {x : Option α} {Q : Hold (α → Prop)} (h : @optK _ x Q) : ops x Q.val := by rw [optK_def] at h; exact h
theorem opt_in {α : Type} {x : Option α} {Q : Hold (α → Prop)} (h : ops x Q.val) : @optK _ x Q := by rw [optK_def]; exact h
theorem run_out {c : Hold CS} {τ : Ev} {Q : Hold (Lin.Flow × Ev → Prop)} (h : @Runs c τ Q) : pst (c.val τ) Q.val := by rw [runs_def] at h; exact h
theorem run_in {c : Hold CS} {τ : Ev} {Q : Hold (Lin.Flow × Ev → Prop)} (h : pst (c.val τ) Q.val) : @Runs c τ Q := by rw [runs_def]; exact h
@[simp] theorem small_iff' (i : Int) : small i = true ↔ -1000000 ≤ i ∧ i ≤ 1000000 := small_iff
@[simp ↓] theorem s_seqS (a b : CS) (τ : Ev) (Q : Hold (Lin.Flow × Ev → Prop)) : @Runs ⟨seqS a b⟩ τ Q = @Runs ⟨a⟩ τ ⟨fun p => match p.1 with
    | .next => @Runs ⟨b⟩ p.2 Q
    | f => Q.val (f, p.2)⟩ := by
  rw [runs_def, runs_def]
  show pst ((a τ).bind _) _ = pst (a τ) _
  rw [pst_bind]
  refine congrArg (pst _) (funext fun p => ?_)
  obtain ⟨f, t⟩ := p
  cases f
  · exact (runs_def ⟨b⟩ t Q).symm
  all_goals rfl
@[simp ↓] theorem s_ifS (t : CT) (a b : CS) (τ : Ev) (Q : Hold (Lin.Flow × Ev → Prop)) : @Runs ⟨ifS t a b⟩ τ Q = @post _ (t τ) ⟨fun p => if p.1 = true then @Runs ⟨a⟩ p.2 Q else @Runs ⟨b⟩ p.2 Q⟩ := by
  rw [runs_def, post_def]
  show pst ((t τ).bind _) _ = pst (t τ) _
  rw [pst_bind]
  refine congrArg (pst _) (funext fun p => ?_)
  obtain ⟨f, t⟩ := p
  cases f
  · exact (runs_def ⟨b⟩ t Q).symm
  · exact (runs_def ⟨a⟩ t Q).symm
/-- a loop over ds -/
structure loopK [c : Hold ((D → Ev → Option Ev) × CS)] (ds : List D) (τ : Ev) [Q : Hold (Lin.Flow × Ev → Prop)] : Prop where
  go : pst (loopS (bodyS c.val.1 c.val.2) ds τ) Q.val
theorem loopK_def (c : Hold ((D → Ev → Option Ev) × CS)) (ds : List D) (τ : Ev) (Q : Hold (Lin.Flow × Ev → Prop)) : @loopK c ds τ Q = pst (loopS (bodyS c.val.1 c.val.2) ds τ) Q.val := propext ⟨fun h => h.go, fun h => ⟨h⟩⟩
@[simp ↓] theorem s_forS (ci : CA) (g : D → Ev → Option Ev) (c : CS) (τ : Ev) (Q : Hold (Lin.Flow × Ev → Prop)) : @Runs ⟨forS ci g c⟩ τ Q = @post _ (ci τ) ⟨fun p => @loopK ⟨(g, c)⟩ p.1 p.2 Q⟩ := by
  rw [runs_def, post_def]
  show pst ((ci τ).bind _) _ = pst (ci τ) _
  rw [pst_bind]
  exact congrArg (pst _) (funext fun p => (loopK_def ⟨(g, c)⟩ p.1 p.2 Q).symm)
theorem pst_get {α : Type} {x : R α} {Q : α → Prop} (h : pst x Q) : ∃ a, x = .ok a ∧ Q a := by
  cases x with
  | ok a => exact ⟨a, rfl, h⟩
  | exc e => exact h.elim
  | stuck => exact h.elim
/-- P holds of the turn's number and the slots; a turn may also end the def with Z -/
theorem loop_gen {g : D → Ev → Option Ev} {c : CS} {ds : List D} {τ : Ev} {Q : Hold (Lin.Flow × Ev → Prop)} (P : Nat → Ev → Prop) (h0 : P 0 τ)
    (ht : ∀ i d τ, ds[i]? = some d → P i τ → @optK _ (g d τ) ⟨fun τ1 => @Runs ⟨c⟩ τ1 ⟨fun q => match q.1 with
      | .next => P (i + 1) q.2
      | .cont => P (i + 1) q.2
      | .brk => Q.val (.next, q.2)
      | f => Q.val (f, q.2)⟩⟩) (hq : ∀ τ, P ds.length τ → Q.val (.next, τ)) : @loopK ⟨(g, c)⟩ ds τ Q := by
  have key : ∀ (es : List D) (k : Nat) (τ : Ev), (∀ i d, es[i]? = some d → ds[k + i]? = some d) → k + es.length = ds.length → P k τ → pst (loopS (bodyS g c) es τ) Q.val := by
    intro es
    induction es with
    | nil => intro k τ _ hk hp; exact hq τ (by rw [← hk]; exact hp)
    | cons d es ih =>
      intro k τ hs hk hp
      have h := opt_out (ht k d τ (hs 0 d rfl) hp)
      unfold loopS
      rw [pst_bind]
      show pst ((R.ofOpt (g d τ)).bind c) _
      cases e : g d τ with
      | none => rw [e] at h; exact h.elim
      | some τ1 =>
        rw [e] at h
        obtain ⟨⟨f, τ2⟩, e2, h2⟩ := pst_get (run_out h)
        simp only at e2
        show pst (c τ1) _
        rw [e2]
        have nxt : P (k + 1) τ2 → pst (loopS (bodyS g c) es τ2) Q.val := fun hp2 => ih (k + 1) τ2 (fun i d' hi => by rw [show k + 1 + i = k + (i + 1) by omega]; exact hs (i + 1) d' hi) (by simp only [List.length_cons] at hk; omega) hp2
        cases f with
        | next => exact nxt h2
        | cont => exact nxt h2
        | brk => exact h2
        | ret d => exact h2
        | retO d => exact h2
        | retC d => exact h2
  rw [loopK_def]
  exact key ds 0 τ (fun i d hi => by rw [Nat.zero_add]; exact hi) (by omega) h0
/-- .. over items that stand for a's -/
theorem loop_map {α : Type} {g : D → Ev → Option Ev} {c : CS} {ds : List D} {τ : Ev} {Q : Hold (Lin.Flow × Ev → Prop)} (l : List α) (e : α → D) (hd : ds = l.map e) (P : List α → Ev → Prop) (h0 : P [] τ)
    (ht : ∀ (m : List α) (a : α) (r : List α) τ, l = m ++ a :: r → P m τ → @optK _ (g (e a) τ) ⟨fun τ1 => @Runs ⟨c⟩ τ1 ⟨fun q => match q.1 with
      | .next => P (m ++ [a]) q.2
      | .cont => P (m ++ [a]) q.2
      | .brk => Q.val (.next, q.2)
      | f => Q.val (f, q.2)⟩⟩) (hq : ∀ τ, P l τ → Q.val (.next, τ)) : @loopK ⟨(g, c)⟩ ds τ Q := by
  subst hd
  refine loop_gen (fun i τ => P (l.take i) τ) (by simpa using h0) (fun i d τ hi hp => ?_) (fun τ hp => hq τ (by simpa using hp))
  rw [List.getElem?_map] at hi
  cases ea : l[i]? with
  | none => rw [ea] at hi; cases hi
  | some a =>
    rw [ea] at hi
    cases hi
    have hl : i < l.length := (List.getElem?_eq_some_iff.mp ea).1
    have e1 : l = l.take i ++ a :: l.drop (i + 1) := by
      have h1 : l.drop i = a :: l.drop (i + 1) := by
        rw [List.drop_eq_getElem_cons hl]
        congr
        exact (List.getElem?_eq_some_iff.mp ea).2
      rw [← h1, List.take_append_drop]
    have e2 : l.take (i + 1) = l.take i ++ [a] := by
      rw [List.take_succ, ea]
      rfl
    rw [e2]
    exact ht (l.take i) a (l.drop (i + 1)) τ e1 hp
/-! ### comprehensions -/
structure lcK [c : Hold (List Nat × (D → Ev → Option Ev) × CT × CE)] (ds : List D) (τ : Ev) [Q : Hold (List D × Ev → Prop)] : Prop where
  go : pst (lcLoop c.val.1 c.val.2.1 c.val.2.2.1 c.val.2.2.2 ds [] τ) Q.val
theorem lcK_def (c : Hold (List Nat × (D → Ev → Option Ev) × CT × CE)) (ds : List D) (τ : Ev) (Q : Hold (List D × Ev → Prop)) : @lcK c ds τ Q = pst (lcLoop c.val.1 c.val.2.1 c.val.2.2.1 c.val.2.2.2 ds [] τ) Q.val := propext ⟨fun h => h.go, fun h => ⟨h⟩⟩
@[simp ↓] theorem s_lcO (vs : List Nat) (ci : CA) (g : D → Ev → Option Ev) (ct : CT) (ce : CE) (τ : Ev) (Q : Hold (List D × Ev → Prop)) : @post _ (lcO vs ci g ct ce τ) Q = @post _ (ci τ) ⟨fun p => @lcK ⟨(vs, g, ct, ce)⟩ p.1 (wipeE p.2 vs) ⟨fun q => Q.val (q.1, wipeE q.2 vs)⟩⟩ := by
  rw [post_def, post_def]
  show pst ((ci τ).bind _) _ = pst (ci τ) _
  rw [pst_bind]
  refine congrArg (pst _) (funext fun p => ?_)
  rw [pst_bind]
  show _ = @lcK ⟨(vs, g, ct, ce)⟩ p.1 (wipeE p.2 vs) ⟨fun q => Q.val (q.1, wipeE q.2 vs)⟩
  rw [lcK_def]
  show pst (R.noexc (lcLoop vs g ct ce p.1 [] (wipeE p.2 vs))) _ = pst (lcLoop vs g ct ce p.1 [] (wipeE p.2 vs)) _
  cases lcLoop vs g ct ce p.1 [] (wipeE p.2 vs) <;> rfl
/-- the general form: P holds of what is found and the slots -/
theorem lc_gen {vs : List Nat} {g : D → Ev → Option Ev} {ct : CT} {ce : CE} {ds : List D} {τ : Ev} {Q : Hold (List D × Ev → Prop)} (P : Nat → List D → Ev → Prop) (h0 : P 0 [] τ) (hl : ds.length ≤ 1000000)
    (ht : ∀ i d acc τ, ds[i]? = some d → P i acc τ → @optK _ (g d τ) ⟨fun τ1 => @post _ (ct τ1) ⟨fun p => if p.1 = true then @post _ (ce p.2) ⟨fun q => P (i + 1) (acc ++ [q.1]) (wipeE q.2 vs)⟩ else P (i + 1) acc (wipeE p.2 vs)⟩⟩)
    (hq : ∀ acc τ, P ds.length acc τ → Q.val (acc, τ)) : @lcK ⟨(vs, g, ct, ce)⟩ ds τ Q := by
  have key : ∀ (es : List D) (k : Nat) (acc : List D) (τ : Ev), (∀ i d, es[i]? = some d → ds[k + i]? = some d) → k + es.length = ds.length → acc.length ≤ k → P k acc τ → pst (lcLoop vs g ct ce es acc τ) Q.val := by
    intro es
    induction es with
    | nil => intro k acc τ _ hk _ hp; exact hq acc τ (by rw [← hk]; exact hp)
    | cons d es ih =>
      intro k acc τ hs hk ha hp
      have h := opt_out (ht k d acc τ (hs 0 d rfl) hp)
      have hs' : ∀ i d, es[i]? = some d → ds[k + 1 + i]? = some d := fun i d' hi => by rw [show k + 1 + i = k + (i + 1) by omega]; exact hs (i + 1) d' hi
      have hk' : k + 1 + es.length = ds.length := by simp only [List.length_cons] at hk; omega
      unfold lcLoop
      rw [pst_bind]
      cases e : g d τ with
      | none => rw [e] at h; exact h.elim
      | some τ1 =>
        rw [e] at h
        obtain ⟨⟨b, τ2⟩, e2, h2⟩ := pst_get (post_out h)
        show pst ((ct τ1).bind _) _
        rw [pst_bind, e2]
        cases b with
        | false =>
          show pst (lcLoop vs g ct ce es acc (wipeE τ2 vs)) _
          exact ih (k + 1) acc _ hs' hk' (by omega) h2
        | true =>
          obtain ⟨⟨z, τ3⟩, e3, h3⟩ := pst_get (post_out h2)
          show pst ((ce τ2).bind _) _
          rw [pst_bind, e3]
          have hz : sized (acc.length + 1) = true := decide_eq_true (by omega)
          show pst (if sized (acc.length + 1) = true then lcLoop vs g ct ce es (acc ++ [z]) (wipeE τ3 vs) else .stuck) _
          rw [if_pos hz]
          exact ih (k + 1) _ _ hs' hk' (by simp; omega) h3
  rw [lcK_def]
  exact key ds 0 [] τ (fun i d hi => by rw [Nat.zero_add]; exact hi) (by omega) (by simp) h0
theorem lc_filter {α : Type} {vs : List Nat} {g : D → Ev → Option Ev} {ct : CT} {ce : CE} {ds : List D} {τ : Ev} {Q : Hold (List D × Ev → Prop)} (l : List α) (e : α → D) (p : α → Bool) (h : α → D) (hd : ds = l.map e) (hl : l.length ≤ 1000000)
    (ht : ∀ a ∈ l, @optK _ (g (e a) τ) ⟨fun τ1 => @post _ (ct τ1) ⟨fun q => if q.1 = true then @post _ (ce q.2) ⟨fun r => p a = true ∧ r.1 = h a ∧ wipeE r.2 vs = τ⟩ else p a = false ∧ wipeE q.2 vs = τ⟩⟩)
    (q : Q.val ((l.filter p).map h, τ)) : @lcK ⟨(vs, g, ct, ce)⟩ ds τ Q := by
  subst hd
  rw [lcK_def]
  show pst (lcLoop vs g ct ce (l.map e) [] τ) Q.val
  rw [lcLoop_filter e p h hl (fun a ha => ?_)]
  · exact q
  · have := opt_out (ht a ha)
    unfold lcTurn
    cases e1 : g (e a) τ with
    | none => rw [e1] at this; exact this.elim
    | some τ1 =>
      rw [e1] at this
      obtain ⟨⟨b, τ2⟩, e2, h2⟩ := pst_get (post_out this)
      show (ct τ1).bind _ = _
      rw [e2]
      cases b with
      | false =>
        obtain ⟨h3, h4⟩ := h2
        rw [h3]
        show R.ok (none, wipeE τ2 vs) = _
        rw [h4]
        rfl
      | true =>
        obtain ⟨⟨z, τ3⟩, e3, h3, h4, h5⟩ := pst_get (post_out h2)
        rw [h3]
        show (ce τ2).bind _ = _
        rw [e3]
        simp only at h4 h5
        show R.ok (some z, wipeE τ3 vs) = _
        rw [h4, h5]
        rfl
theorem lc_map {α : Type} {vs : List Nat} {g : D → Ev → Option Ev} {ct : CT} {ce : CE} {ds : List D} {τ : Ev} {Q : Hold (List D × Ev → Prop)} (l : List α) (e : α → D) (h : α → D) (hd : ds = l.map e) (hl : l.length ≤ 1000000)
    (ht : ∀ a ∈ l, @optK _ (g (e a) τ) ⟨fun τ1 => @post _ (ct τ1) ⟨fun q => q.1 = true ∧ @post _ (ce q.2) ⟨fun r => r.1 = h a ∧ wipeE r.2 vs = τ⟩⟩⟩)
    (q : Q.val (l.map h, τ)) : @lcK ⟨(vs, g, ct, ce)⟩ ds τ Q := by
  refine lc_filter l e (fun _ => true) h hd hl (fun a ha => ?_) (by rw [List.filter_eq_self.mpr (by simp)]; exact q)
  have := opt_out (ht a ha)
  refine opt_in ?_
  cases e1 : g (e a) τ with
  | none => rw [e1] at this; exact this.elim
  | some τ1 =>
    rw [e1] at this
    obtain ⟨⟨b, τ2⟩, e2, h2, h3⟩ := pst_get (post_out this)
    refine post_in ?_
    rw [e2]
    simp only at h2
    subst h2
    obtain ⟨x, e3, h4, h5⟩ := pst_get (post_out h3)
    refine post_in ?_
    rw [e3]
    exact ⟨rfl, h4, h5⟩
/-! ### defs -/
theorem fnV_post {np N : Nat} {c : CS} {ds : List D} {Z : D → Prop} (hl : ds.length = np) (h : @Runs ⟨c⟩ (start0 N ds) ⟨fun p => match p.1 with
    | .ret d => Z d
    | .retO es => Z (.list es)
    | .next => Z .none
    | _ => False⟩) : ∃ d, fnV np N c ds = .ok d ∧ Z d := by
  obtain ⟨⟨f, τ⟩, e, h⟩ := pst_get (run_out h)
  simp only at e
  unfold fnV
  rw [if_pos hl, e]
  cases f with
  | ret d => exact ⟨d, rfl, h⟩
  | retO es => exact ⟨_, rfl, h⟩
  | next => exact ⟨_, rfl, h⟩
  | brk => exact h.elim
  | cont => exact h.elim
  | retC _ => exact h.elim
theorem fnV_eq {np N : Nat} {c : CS} {ds : List D} {d : D} (hl : ds.length = np) (h : @Runs ⟨c⟩ (start0 N ds) ⟨fun p => match p.1 with
    | .ret e => e = d
    | .retO es => .list es = d
    | .next => .none = d
    | _ => False⟩) : fnV np N c ds = .ok d := by
  obtain ⟨_, e, rfl⟩ := fnV_post (Z := (· = d)) hl h
  exact e
theorem fnO_post {np N : Nat} {c : CS} {ds : List D} {Z : List D → Prop} (hl : ds.length = np) (h : @Runs ⟨c⟩ (start0 N ds) ⟨fun p => match p.1 with
    | .retO es => Z es
    | _ => False⟩) : ∃ es, fnO np N c ds = .ok es ∧ Z es := by
  obtain ⟨⟨f, τ⟩, e, h⟩ := pst_get (run_out h)
  simp only at e
  unfold fnO
  rw [if_pos hl, e]
  cases f with
  | retO es => exact ⟨es, rfl, h⟩
  | ret d => exact h.elim
  | next => exact h.elim
  | brk => exact h.elim
  | cont => exact h.elim
  | retC _ => exact h.elim
theorem fnO_eq {np N : Nat} {c : CS} {ds : List D} {es : List D} (hl : ds.length = np) (h : @Runs ⟨c⟩ (start0 N ds) ⟨fun p => match p.1 with
    | .retO fs => fs = es
    | _ => False⟩) : fnO np N c ds = .ok es := by
  obtain ⟨_, e, rfl⟩ := fnO_post (Z := (· = es)) hl h
  exact e
theorem fnD_post {np N : Nat} {c : CS} {ds : List D} {Z : Cont → Prop} (hl : ds.length = np) (h : @Runs ⟨c⟩ (start0 N ds) ⟨fun p => match p.1 with
    | .retC es => Z es
    | _ => False⟩) : ∃ es, fnD np N c ds = .ok es ∧ Z es := by
  obtain ⟨⟨f, τ⟩, e, h⟩ := pst_get (run_out h)
  simp only at e
  unfold fnD
  rw [if_pos hl, e]
  cases f with
  | retC es => exact ⟨es, rfl, h⟩
  | retO es => exact h.elim
  | ret d => exact h.elim
  | next => exact h.elim
  | brk => exact h.elim
  | cont => exact h.elim
theorem fnD_eq {np N : Nat} {c : CS} {ds : List D} {es : Cont} (hl : ds.length = np) (h : @Runs ⟨c⟩ (start0 N ds) ⟨fun p => match p.1 with
    | .retC fs => fs = es
    | _ => False⟩) : fnD np N c ds = .ok es := by
  obtain ⟨_, e, rfl⟩ := fnD_post (Z := (· = es)) hl h
  exact e
theorem fnM_post {np N : Nat} {c : CS} {ls ds : List D} {Z : D → List D → Prop} (hl : ds.length + 1 = np) (h : @Runs ⟨c⟩ (startM N ls ds) ⟨fun p => match p.1 with
    | .ret d => @optK _ (endM p.2) ⟨fun es => Z d es⟩
    | .retO d => @optK _ (endM p.2) ⟨fun es => Z (.list d) es⟩
    | _ => False⟩) : ∃ d es, fnM np N c ls ds = .ok (d, es) ∧ Z d es := by
  obtain ⟨⟨f, τ⟩, e, h⟩ := pst_get (run_out h)
  simp only at e
  unfold fnM
  rw [if_pos hl, e]
  cases f with
  | ret d =>
    cases e2 : endM τ with
    | none => simp only [e2] at h; exact (opt_out h).elim
    | some es => simp only [e2] at h; exact ⟨d, es, by show (R.ofOpt (endM τ)).bind _ = _; rw [e2]; rfl, opt_out h⟩
  | retO d =>
    cases e2 : endM τ with
    | none => simp only [e2] at h; exact (opt_out h).elim
    | some es => simp only [e2] at h; exact ⟨_, es, by show (R.ofOpt (endM τ)).bind _ = _; rw [e2]; rfl, opt_out h⟩
  | next => exact h.elim
  | brk => exact h.elim
  | cont => exact h.elim
  | retC _ => exact h.elim
end Lin
namespace Lin
open PySem L2
@[simp ↓] theorem s_preS (i : Nat) (c : CS) (τ : Ev) (Q : Hold (Lin.Flow × Ev → Prop)) : @Runs ⟨preS i c⟩ τ Q = @ownK (τ[i]?) ⟨fun _ ds => @Runs ⟨c⟩ (τ.set i (.val (.list ds))) Q⟩ := by
  have key : pst (preS i c τ) Q.val = ows (τ[i]?) (fun _ ds => pst (c (τ.set i (.val (.list ds)))) Q.val) := by
    unfold preS ows
    generalize τ[i]? = o1
    rcases o1 with _ | s1
    · rfl
    rcases s1 with _ | d1 | ⟨t1, l1⟩
    · rfl
    · rfl
    rcases l1 with l1 | _ <;> rfl
  simp only [ownK_def, runs_def]
  exact key
end Lin

/-! P1: drawn views and rows. -/
namespace Rv
open PySem L2 Lin
@[simp] theorem rngD_get0 (n : Int) (i : Nat) (d : D) : (rngD 0 n)[i]? = some d ↔ i < n ∧ d = .int i := by
  constructor
  · intro h
    obtain ⟨a, b⟩ := rngD_get h
    exact ⟨by omega, by simpa using b⟩
  · rintro ⟨a, rfl⟩
    have : i < n.toNat := by omega
    simp [rngD, this]
theorem m_law_view_eq (s : Sr) {many wide : Int} (m0 : 1 ≤ many) (m1 : many ≤ 20) (w0 : 1 ≤ wide) (w1 : wide ≤ 100) : ∃ (hs : List Int) (w : Int) (s' : Sr), m_law_view s.d [.int many, .int wide] = .ok (vD hs w, s'.d) ∧ Good hs w ∧ hs.length ≤ many ∧ (∀ h ∈ hs, h ≤ 4 * wide) ∧ w ≤ 6 * wide := by
  have key : ∃ d es, m_law_view s.d [.int many, .int wide] = .ok (d, es) ∧ ∃ (hs : List Int) (w : Int) (s' : Sr), d = vD hs w ∧ es = s'.d ∧ Good hs w ∧ hs.length ≤ many ∧ (∀ h ∈ hs, h ≤ 4 * wide) ∧ w ≤ 6 * wide := by
    refine fnM_post rfl ?_
    unfold c_law_view
    have a1 : 0 < wide := by omega
    have a2 : wide < 1073741824 := by omega
    have a3 : 0 < many := by omega
    have a4 : many < 1073741824 := by omega
    have b0 := pk0 (nx (nx s wide) 3) a3
    have b1 := pk1 (nx (nx s wide) 3) a3
    have c0 := pk0 s a1
    have c1 := pk1 s a1
    have n4 : near64 4 = true := by decide
    have n3 : near64 3 = true := by decide
    have n6 : near64 6 = true := by decide
    simp [a1, a2, a3, a4]
    refine ⟨by omega, ?_⟩
    generalize pk (nx s wide) 3 = way
    generalize pk s wide = same at c0 c1
    generalize nx (nx (nx s wide) 3) many = s0
    generalize pk (nx (nx s wide) 3) many = cnt at b0 b1
    refine loop_gen (fun i τ => ∃ (s' : Sr) (hs : List Int) (x y z : Lin.Slot), τ = [.own (some 0) s'.d, .val (.int many), .val (.int wide), .val (hD hs), .val (.int (1 + same)), .val (.int way), x, y, z] ∧ hs.length = i ∧ ∀ h ∈ hs, 1 ≤ h ∧ h ≤ 100 ∧ h ≤ 4 * wide) ⟨s0, [], .free, .free, .free, rfl, rfl, by simp⟩ ?_ ?_
    · rintro i d τ hi ⟨s', hs, x, y, z, rfl, hl, hh⟩
      obtain ⟨hi, rfl⟩ := (rngD_get0 _ _ _).mp hi
      have p0 := pk0 s' a1
      have p1 := pk1 s' a1
      have hlen : hs.length ≤ 999999 := by omega
      have fin : ∀ (s2 : Sr) (h : Int), 1 ≤ h → h ≤ 100 → h ≤ 4 * wide → ∃ (s' : Sr) (hs' : List Int), (s2.d = s'.d ∧ hs.map PyData.int ++ [.int h] = hs'.map PyData.int) ∧ hs'.length = i + 1 ∧ ∀ h ∈ hs', 1 ≤ h ∧ h ≤ 100 ∧ h ≤ 4 * wide := by
        intro s2 h h1 h2 h3
        refine ⟨s2, hs ++ [h], ⟨rfl, by simp⟩, by simp [hl], ?_⟩
        intro h' hm
        rcases List.mem_append.mp hm with hm | hm
        · exact hh h' hm
        · simp only [List.mem_singleton] at hm; subst hm; exact ⟨h1, h2, h3⟩
      by_cases w0' : way = 0
      · simp [a1, a2, w0', hlen, hD]
        exact fin _ _ (by omega) (by omega) (by omega)
      · by_cases w2' : way = 2
        · by_cases q : pk (nx s' wide) 4 = 0
          · simp [a1, a2, w2', q, hlen, hD, n4]
            exact fin _ _ (by omega) (by omega) (by omega)
          · simp [a1, a2, w2', q, hlen, hD]
            exact fin _ _ (by omega) (by omega) (by omega)
        · simp [a1, a2, w0', w2', hlen, hD]
          exact fin _ _ (by omega) (by omega) (by omega)
    · rintro τ ⟨s', hs, x, y, z, rfl, hl, hh⟩
      have hl' : (hs.length : Int) = 1 + cnt := by
        rw [hl]
        simp [rngD]
        omega
      have q0 := pk0 s' (n := 3) (by decide)
      have q1 := pk1 s' (n := 3) (by decide)
      have : ∃ x, atI [PyData.int wide, .int (3 * wide), .int (6 * wide)] (pk s' 3) = some (.int x) ∧ 1 ≤ x ∧ x ≤ 6 * wide := by
        have h3 : pk s' 3 = 0 ∨ pk s' 3 = 1 ∨ pk s' 3 = 2 := by omega
        rcases h3 with h3 | h3 | h3
        · exact ⟨wide, by simp [h3], by omega, by omega⟩
        · exact ⟨3 * wide, by simp [h3], by omega, by omega⟩
        · exact ⟨6 * wide, by simp [h3], by omega, by omega⟩
      obtain ⟨x, hx, x0, x1⟩ := this
      have y0 : 0 < x := by omega
      have y1 : x < 1073741824 := by omega
      have r0 := pk0 (nx s' 3) y0
      have r1 := pk1 (nx s' 3) y0
      simp [n3, n6, hx, y0, y1]
      exact ⟨hs, min 500 (1 + pk (nx s' 3) x), rfl, ⟨_, rfl⟩, ⟨by omega, by omega, fun h hm => (hh h hm).1, fun h hm => (hh h hm).2.1, by omega, by omega⟩, by omega, fun h hm => (hh h hm).2.2, by omega⟩
  obtain ⟨d, es, e, hs, w, s', rfl, rfl, h⟩ := key
  exact ⟨hs, w, s', e, h⟩
end Rv

/-! P2: ranges, rows and effects: the laws' own words and the program's. -/
namespace Rv
open PySem L2 Lin
theorem shp_nD (n : Nat) (i : Nat) : Shp n (nD i) ↔ True := by simp [nD]
theorem m_law_last_eq (hs : List Int) (w : Int) : m_law_last [vD hs w] = .ok (.int (topN hs w)) := by
  refine fnV_eq rfl ?_
  unfold c_law_last
  simp [topN]
theorem take_pre {l m r : List Int} {a : Int} {i : Nat} (h : l.take i = m ++ a :: r) : True := trivial
theorem m_law_edges_eq {hs : List Int} (w : Int) {i : Nat} (h : i < hs.length) : m_law_edges [vD hs w, .int i] = .ok [.int (begN hs i), .int (begN hs i + hs.getD i 0)] := by
  refine fnO_eq rfl ?_
  unfold c_law_edges
  have e3 := get_hs h
  have e4 : slD (hD hs) none (some (i : Int)) = some (.tuple ((hs.take i).map .int)) := by simp [hD]
  simp [e4]
  refine loop_map (hs.take i) PyData.int (by simp) (fun m τ => ∃ x, τ = [.val (vD hs w), .val (.int i), .val (.int m.sum), x]) ⟨.free, rfl⟩ ?_ ?_
  · rintro m a r τ - ⟨x, rfl⟩
    simp
  · rintro τ ⟨x, rfl⟩
    simp [ix_hD h, begN]
theorem m_law_pair_eq {hs : List Int} {w : Int} {i : Nat} (h : i < hs.length) : m_law_pair [vD hs w, .int i] = .ok (pD (rngN hs w i)) := by
  refine fnV_eq rfl ?_
  unfold c_law_pair
  simp [m_law_edges_eq w h, m_law_last_eq, R.ofOpt]
  by_cases q : w < begN hs i + hs.getD i 0 - begN hs i
  · simp only [List.getD_eq_getElem?_getD] at q
    have q' := q
    simp [q, m_law_last_eq]
    simp [pD, rngN]
    omega
  · simp only [List.getD_eq_getElem?_getD] at q
    simp [q, m_law_last_eq]
    simp [pD, rngN]
    omega
def toN (p : Int) (r : Int × Int) : Int := if p < r.1 then r.1 else min r.2 p
def nearN (p : Int) (r : Int × Int) : Int := max r.1 (min r.2 p)
theorem toN_near {p : Int} {r : Int × Int} (h : r.1 ≤ r.2) : toN p r = nearN p r := by
  unfold toN nearN
  by_cases q : p < r.1
  · rw [if_pos q]; omega
  · rw [if_neg q]; omega
@[simp] theorem m_law_to_eq (p : Int) (r : Int × Int) : m_law_to [.int p, pD r] = .ok (.int (toN p r)) := by
  refine fnV_eq rfl ?_
  unfold c_law_to
  by_cases q : p < r.1 <;> simp [toN, q]
@[simp] theorem m_nearest_eq (p : Int) (r : Int × Int) : m_nearest [.int p, pD r] = .ok (.int (nearN p r)) := by
  refine fnV_eq rfl ?_
  unfold c_nearest
  simp [nearN]
theorem sum_nonneg {l : List Int} (h : ∀ x ∈ l, 0 ≤ x) : 0 ≤ l.sum := by
  induction l with
  | nil => simp
  | cons a l ih =>
    have h1 := h a (by simp)
    have h2 := ih fun x hx => h x (by simp [hx])
    rw [List.sum_cons]
    omega
theorem begN_le {hs : List Int} {w : Int} {i : Nat} (g : Good hs w) (h : i < hs.length) : 0 ≤ begN hs i ∧ 1 ≤ hs.getD i 0 ∧ hs.getD i 0 ≤ 100 ∧ begN hs i + hs.getD i 0 ≤ hs.sum := by
  have hm : hs[i] ∈ hs := List.getElem_mem h
  have e1 : hs.getD i 0 = hs[i] := by simp [List.getD, h]
  have e2 : hs = hs.take i ++ hs[i] :: hs.drop (i + 1) := by rw [← List.drop_eq_getElem_cons h, List.take_append_drop]
  have e3 : hs.sum = (hs.take i).sum + (hs[i] + (hs.drop (i + 1)).sum) := by
    conv => lhs; rw [e2]
    rw [List.sum_append, List.sum_cons]
  have n1 : 0 ≤ (hs.take i).sum := sum_nonneg fun x hx => by have := g.h1 x (List.mem_of_mem_take hx); omega
  have n2 : 0 ≤ (hs.drop (i + 1)).sum := sum_nonneg fun x hx => by have := g.h1 x (List.mem_of_mem_drop hx); omega
  have := g.h1 _ hm
  have := g.h2 _ hm
  unfold begN
  rw [e1]
  omega
theorem top0 (hs : List Int) (w : Int) : 0 ≤ topN hs w := by unfold topN; omega
theorem sum_le {hs : List Int} (h : ∀ x ∈ hs, x ≤ 100) : hs.sum ≤ 100 * hs.length := by
  induction hs with
  | nil => simp
  | cons a l ih =>
    have h1 := h a (by simp)
    have h2 := ih fun x hx => h x (by simp [hx])
    rw [List.sum_cons, List.length_cons]
    omega
theorem top1 {hs : List Int} {w : Int} (g : Good hs w) : topN hs w ≤ 1999 := by
  have := sum_le g.h2
  have := g.l2
  have := g.w1
  unfold topN
  omega
theorem rng_ok {hs : List Int} {w : Int} {i : Nat} (g : Good hs w) (h : i < hs.length) : 0 ≤ (rngN hs w i).1 ∧ (rngN hs w i).1 ≤ (rngN hs w i).2 ∧ (rngN hs w i).2 ≤ topN hs w := by
  obtain ⟨a, b, c, d⟩ := begN_le g h
  have := g.w1
  unfold rngN topN
  simp only []
  omega
theorem near_ok {p : Int} {r : Int × Int} {t : Int} (h : 0 ≤ r.1 ∧ r.1 ≤ r.2 ∧ r.2 ≤ t) : 0 ≤ nearN p r ∧ nearN p r ≤ t ∧ r.1 ≤ nearN p r ∧ nearN p r ≤ r.2 := by unfold nearN; omega
/-- rows -/
def rD (r : List Nat) : D := .tuple (r.map nD)
@[simp] theorem noDct_rD (r : List Nat) : noDct (rD r) = true := rfl
def endN (hs : List Int) (w p : Int) (r : List Nat) : Int := r.foldl (fun p i => nearN p (rngN hs w i)) p
theorem endN_ok {hs : List Int} {w : Int} (g : Good hs w) : ∀ {r : List Nat} {p : Int}, (∀ i ∈ r, i < hs.length) → 0 ≤ p → p ≤ topN hs w → 0 ≤ endN hs w p r ∧ endN hs w p r ≤ topN hs w
  | [], p, _, h0, h1 => ⟨h0, h1⟩
  | i :: r, p, h, h0, h1 => by
    have k := near_ok (p := p) (rng_ok g (h i (by simp)))
    exact endN_ok g (r := r) (fun j hj => h j (by simp [hj])) k.1 k.2.1
theorem endN_snoc (hs : List Int) (w p : Int) (m : List Nat) (i : Nat) : endN hs w p (m ++ [i]) = nearN (endN hs w p m) (rngN hs w i) := by simp [endN]
theorem endN_app (hs : List Int) (w p : Int) (m l : List Nat) : endN hs w p (m ++ l) = endN hs w (endN hs w p m) l := by simp [endN]
@[simp] theorem seqOf_rD (r : List Nat) : seqOf (rD r) = some (r.map nD) := rfl
@[simp] theorem len_rD (r : List Nat) : lenD [rD r] = some (.int r.length) := by simp [rD]
theorem m_end_of_eq {hs : List Int} {w : Int} {r : List Nat} (h : ∀ i ∈ r, i < hs.length) (p : Int) : m_end_of [vD hs w, .int p, rD r] = .ok (.int (endN hs w p r)) := by
  refine fnV_eq rfl ?_
  unfold c_end_of
  simp
  refine loop_map r nD rfl (fun m τ => ∃ x, τ = [.val (vD hs w), .val (.int (endN hs w p m)), .val (rD r), x]) ⟨.free, rfl⟩ ?_ ?_
  · rintro m a r' τ rfl ⟨x, rfl⟩
    simp [nD, m_range_of_eq (h a (by simp)), endN_snoc]
  · rintro τ ⟨x, rfl⟩
    simp
theorem m_law_behind_eq {hs : List Int} {w : Int} (g : Good hs w) {r : List Nat} (h : ∀ i ∈ r, i < hs.length) (p : Int) : m_law_behind [vD hs w, .int p, rD r] = .ok (.int (endN hs w p r)) := by
  refine fnV_eq rfl ?_
  unfold c_law_behind
  simp
  refine loop_map r nD rfl (fun m τ => ∃ x, τ = [.val (vD hs w), .val (.int (endN hs w p m)), .val (rD r), x]) ⟨.free, rfl⟩ ?_ ?_
  · rintro m a r' τ rfl ⟨x, rfl⟩
    simp [nD, m_law_pair_eq (h a (by simp)), endN_snoc, toN_near (rng_ok g (h a (by simp))).2.1]
  · rintro τ ⟨x, rfl⟩
    simp
/-- where a row leads to from both ends -/
def effN (hs : List Int) (w : Int) (r : List Nat) : Int × Int := (endN hs w 0 r, endN hs w (topN hs w) r)
theorem m_effect_of_eq {hs : List Int} {w : Int} {r : List Nat} (h : ∀ i ∈ r, i < hs.length) : m_effect_of [vD hs w, rD r] = .ok (pD (effN hs w r)) := by
  refine fnV_eq rfl ?_
  unfold c_effect_of
  simp [m_end_of_eq h, m_top_of_eq, effN, pD]
theorem m_law_effect_eq {hs : List Int} {w : Int} (g : Good hs w) {r : List Nat} (h : ∀ i ∈ r, i < hs.length) : m_law_effect [vD hs w, rD r] = .ok (pD (effN hs w r)) := by
  refine fnV_eq rfl ?_
  unfold c_law_effect
  simp [m_law_behind_eq g h, m_law_last_eq, effN, pD]
theorem m_is_row_eq {hs : List Int} {w : Int} {r : List Nat} (h : ∀ i ∈ r, i < hs.length) (hl : r.length ≤ 30) : m_is_row [vD hs w, rD r] = .ok (.bool true) := by
  refine fnV_eq rfl ?_
  unfold c_is_row
  have k : ∃ ds, rD r = .tuple ds := ⟨_, rfl⟩
  have k2 : isT "tuple" (rD r) = true := rfl
  have hl' : ¬ ((30 : Int) < r.length) := by omega
  simp [k2, hl']
  refine ⟨rfl, lc_map r nD (fun _ => .bool true) rfl (by omega) (fun a ha => ?_) ?_⟩
  · have := h a ha
    simp [nD, m_is_integer_int]
    omega
  · simp
theorem m_require_row_eq {hs : List Int} {w : Int} {r : List Nat} (h : ∀ i ∈ r, i < hs.length) (hl : r.length ≤ 30) : m_require_row [vD hs w, rD r] = .ok .none := by
  refine fnV_eq rfl ?_
  unfold c_require_row
  simp [m_is_row_eq h hl]
theorem m_effect_eq {hs : List Int} {w : Int} (g : Good hs w) {r : List Nat} (h : ∀ i ∈ r, i < hs.length) (hl : r.length ≤ 30) : m_effect [vD hs w, rD r] = .ok (pD (effN hs w r)) := by
  refine fnV_eq rfl ?_
  unfold c_effect
  simp [m_require_view_good g, m_require_row_eq h hl, m_effect_of_eq h]
theorem m_after_eq {hs : List Int} {w p : Int} (g : Good hs w) {r : List Nat} (h : ∀ i ∈ r, i < hs.length) (hl : r.length ≤ 30) (p0 : 0 ≤ p) (p1 : p ≤ topN hs w) : m_after [vD hs w, .int p, rD r] = .ok (.int (endN hs w p r)) := by
  refine fnV_eq rfl ?_
  unfold c_after
  simp [m_require_view_good g, m_require_row_eq h hl, m_require_position_good p0 p1, m_end_of_eq h]
theorem m_reveal_eq {hs : List Int} {w p : Int} (g : Good hs w) {i : Nat} (h : i < hs.length) (p0 : 0 ≤ p) (p1 : p ≤ topN hs w) : m_reveal [vD hs w, .int p, .int i] = .ok (.int (nearN p (rngN hs w i))) := by
  refine fnV_eq rfl ?_
  unfold c_reveal
  simp [m_require_view_good g, m_require_item_good h, m_require_position_good p0 p1, m_range_of_eq h]
theorem m_law_row_eq {hs : List Int} {w : Int} (g : Good hs w) (s : Sr) {most : Int} (m0 : 0 ≤ most) (m1 : most ≤ 30) : ∃ (r : List Nat) (s' : Sr), m_law_row s.d [vD hs w, .int most] = .ok (rD r, s'.d) ∧ r.length ≤ most ∧ ∀ i ∈ r, i < hs.length := by
  have key : ∃ d es, m_law_row s.d [vD hs w, .int most] = .ok (d, es) ∧ ∃ (r : List Nat) (s' : Sr), d = rD r ∧ es = s'.d ∧ r.length ≤ most ∧ ∀ i ∈ r, i < hs.length := by
    refine fnM_post rfl ?_
    unfold c_law_row
    have a1 : (0 : Int) < hs.length := by have := g.l1; omega
    have a2 : (hs.length : Int) < 1073741824 := by have := g.l2; omega
    have ep : ∀ s : Sr, m_law_pick s.d [.int hs.length] = .ok (.int (pk s hs.length), (nx s hs.length).d) := fun s => m_law_pick_eq s a1 a2
    simp
    refine lc_gen (fun i acc τ => ∃ (s' : Sr) (l : List Nat), τ = [.own (some 0) s'.d, .val (vD hs w), .val (.int most), .free, .free, .free, .free] ∧ acc = l.map nD ∧ l.length = i ∧ ∀ x ∈ l, x < hs.length) ⟨s, [], rfl, rfl, rfl, by simp⟩ (by simp [rngD]) ?_ ?_
    · rintro i d acc τ - ⟨s', l, rfl, rfl, hl, hm⟩
      have p0 := pk0 s' a1
      have p1 := pk1 s' a1
      simp [ep]
      obtain ⟨j, hj⟩ := Int.eq_ofNat_of_zero_le p0
      refine ⟨⟨_, rfl⟩, l ++ [j], by simp [hj, nD], by simp [hl], fun x hx => ?_⟩
      rcases List.mem_append.mp hx with hx | hx
      · exact hm x hx
      · simp only [List.mem_singleton] at hx; omega
    · rintro acc τ ⟨s1, l, rfl, rfl, hl, hm⟩
      have hl : l.length = 3 := by rw [hl]; simp [rngD]
      have b0 : 0 < most + 1 := by omega
      have b1 : most + 1 < 1073741824 := by omega
      have b2 := pk0 s1 b0
      have b3 := pk1 s1 b0
      simp [b0, b1]
      refine ⟨by omega, ?_⟩
      refine loop_gen (fun i τ => ∃ (s' : Sr) (r : List Nat) (x y : Lin.Slot), τ = [.own (some 0) s'.d, .val (vD hs w), .val (.int most), .val (.list (l.map nD)), .val (rD r), x, y] ∧ r.length = i ∧ ∀ x ∈ r, x < hs.length) ⟨_, [], _, _, rfl, rfl, by simp⟩ ?_ ?_
      · rintro i d τ hi ⟨s', r, x, y, rfl, hr, hrm⟩
        obtain ⟨hi, rfl⟩ := (rngD_get0 _ _ _).mp hi
        have c0 := pk0 s' (n := 3) (by decide)
        have c1 := pk1 s' (n := 3) (by decide)
        obtain ⟨j, hj⟩ := Int.eq_ofNat_of_zero_le c0
        have hj3 : j < l.length := by omega
        have e1 : (l.map nD)[j]? = some (nD l[j]) := by simp [hj3]
        have fin : ∀ (s2 : Sr) (h : Nat), h < hs.length → ∃ (s' : Sr) (r' : List Nat), (s2.d = s'.d ∧ r.map nD ++ [nD h] = r'.map nD) ∧ r'.length = i + 1 ∧ ∀ x ∈ r', x < hs.length := by
          intro s2 h h1
          refine ⟨s2, r ++ [h], ⟨rfl, by simp⟩, by simp [hr], fun x hx => ?_⟩
          rcases List.mem_append.mp hx with hx | hx
          · exact hrm x hx
          · simp only [List.mem_singleton] at hx; omega
        have hr2 : r.length ≤ 999999 := by omega
        by_cases q : pk (nx s' 3) 2 = 0
        · have p0 := pk0 (nx (nx s' 3) 2) a1
          have p1 := pk1 (nx (nx s' 3) 2) a1
          obtain ⟨k, hk⟩ := Int.eq_ofNat_of_zero_le p0
          simp [hj, e1, q, ep, hk, rD, hr2]
          exact fin _ k (by omega)
        · simp [hj, e1, q, rD, hr2]
          exact fin _ _ (hm _ (List.getElem_mem hj3))
      · rintro τ ⟨s', r, x, y, rfl, hr, hrm⟩
        simp
        have : r.length ≤ most := by
          rw [hr]
          simp [rngD]
          omega
        exact ⟨r, rfl, ⟨_, rfl⟩, this, hrm⟩
  obtain ⟨d, es, e, r, s', rfl, rfl, h⟩ := key
  exact ⟨r, s', e, h⟩
end Rv

/-! P3: rows compared, effects as bounds. -/
namespace Rv
open PySem L2 Lin
@[simp] theorem shp_nD' (n : Nat) (i : Nat) : Shp n (nD i) ↔ True := by simp [nD]
@[simp] theorem eqv_nD (i j : Nat) : PyData.eqv (nD i) (nD j) = decide (i = j) := by
  simp [nD]
  omega
@[simp] theorem eqvAll_nD (l m : List Nat) : PyData.eqvAll (l.map nD) (m.map nD) = decide (l = m) := eqvAll_map eqv_nD l m
theorem inD_lst (x : D) (ds : List D) : inD x (.list ds) = if SeqAt.shaped x = true ∧ SeqAt.shaped (.list ds) = true then some (.bool (ds.any fun z => PyData.eqv z x)) else none := by cases x <;> rfl
@[simp high] theorem shp_list_nD (n : Nat) (l : List Nat) : Shp (n + 1) (.list (l.map nD)) ↔ True := by
  rw [shp_list]
  exact ⟨fun _ => trivial, fun _ d hd => by obtain ⟨i, _, rfl⟩ := List.mem_map.mp hd; simp⟩
@[simp high] theorem shp_list_map {α : Type} (n : Nat) (l : List α) (f : α → Int) : Shp (n + 1) (.list (l.map fun a => PyData.int (f a))) ↔ True := by
  rw [shp_list]
  exact ⟨fun _ => trivial, fun _ d hd => by obtain ⟨i, _, rfl⟩ := List.mem_map.mp hd; simp⟩
@[simp] theorem shp_rD (n : Nat) (r : List Nat) : Shp (n + 1) (rD r) ↔ True := by
  unfold rD
  rw [shp_tuple]
  exact ⟨fun _ => trivial, fun _ d hd => by obtain ⟨i, _, rfl⟩ := List.mem_map.mp hd; simp⟩
@[simp] theorem eqv_rD (a b : List Nat) : PyData.eqv (rD a) (rD b) = decide (a = b) := by simp [rD]
@[simp] theorem eqvAll_fun {α : Type} (l : List α) (f g : α → Int) : PyData.eqvAll (l.map fun a => PyData.int (f a)) (l.map fun a => PyData.int (g a)) = decide (∀ a ∈ l, f a = g a) := by
  have e1 : (l.map fun a => PyData.int (f a)) = (l.map f).map PyData.int := by rw [List.map_map]; rfl
  have e2 : (l.map fun a => PyData.int (g a)) = (l.map g).map PyData.int := by rw [List.map_map]; rfl
  rw [e1, e2, eqvAll_ints]
  apply decide_eq_decide.mpr
  exact List.map_inj_left
/-- effects are bounds -/
theorem endN_clamp {hs : List Int} {w : Int} (g : Good hs w) (r : List Nat) : (∀ i ∈ r, i < hs.length) → (effN hs w r).1 ≤ (effN hs w r).2 ∧ ∀ p, 0 ≤ p → p ≤ topN hs w → endN hs w p r = nearN p (effN hs w r) := by
  have key : ∀ (l m : List Nat), (∀ i ∈ l, i < hs.length) → (∀ i ∈ m, i < hs.length) → ((effN hs w m).1 ≤ (effN hs w m).2 ∧ ∀ p, 0 ≤ p → p ≤ topN hs w → endN hs w p m = nearN p (effN hs w m)) → (effN hs w (m ++ l)).1 ≤ (effN hs w (m ++ l)).2 ∧ ∀ p, 0 ≤ p → p ≤ topN hs w → endN hs w p (m ++ l) = nearN p (effN hs w (m ++ l)) := by
    intro l
    induction l with
    | nil => intro m _ _ h; simpa using h
    | cons i l ih =>
      intro m hl hm h
      have hi := hl i (by simp)
      have e : m ++ i :: l = (m ++ [i]) ++ l := by simp
      rw [e]
      refine ih (m ++ [i]) (fun j hj => hl j (by simp [hj])) (fun j hj => ?_) ?_
      · rcases List.mem_append.mp hj with h1 | h1
        · exact hm j h1
        · simp only [List.mem_singleton] at h1; subst h1; exact hi
      · obtain ⟨h1, h2⟩ := h
        have r1 := rng_ok g hi
        have e1 : (effN hs w (m ++ [i])).1 = nearN (effN hs w m).1 (rngN hs w i) := by simp [effN, endN_snoc]
        have e2 : (effN hs w (m ++ [i])).2 = nearN (effN hs w m).2 (rngN hs w i) := by simp [effN, endN_snoc]
        refine ⟨by rw [e1, e2]; unfold nearN; omega, fun p p0 p1 => ?_⟩
        rw [endN_snoc, h2 p p0 p1]
        unfold nearN at *
        rw [e1, e2]
        omega
  intro hr
  have t0 := top0 hs w
  have := key r [] hr (by simp) ⟨by simpa [effN, endN] using t0, fun p p0 p1 => by simp [effN, endN, nearN]; omega⟩
  simpa using this
theorem eff_ok {hs : List Int} {w : Int} (g : Good hs w) {r : List Nat} (h : ∀ i ∈ r, i < hs.length) : 0 ≤ (effN hs w r).1 ∧ (effN hs w r).1 ≤ (effN hs w r).2 ∧ (effN hs w r).2 ≤ topN hs w := by
  have t0 := top0 hs w
  exact ⟨(endN_ok g h (Int.le_refl 0) t0).1, (endN_clamp g r h).1, (endN_ok g h t0 (Int.le_refl _)).2⟩
theorem m_law_is_bool_eq (a b : Bool) : m_law_is_bool [.bool a, .bool b] = .ok (.bool (decide (a = b))) := by
  refine fnV_eq rfl ?_
  unfold c_law_is_bool
  simp
theorem m_is_sure_eq {hs : List Int} {w : Int} (g : Good hs w) {r : List Nat} (h : ∀ i ∈ r, i < hs.length) (hl : r.length ≤ 30) : m_is_sure [vD hs w, rD r] = .ok (.bool (decide ((effN hs w r).1 = (effN hs w r).2))) := by
  refine fnV_eq rfl ?_
  unfold c_is_sure
  simp [m_require_view_good g, m_require_row_eq h hl, m_effect_of_eq h, pD]
theorem m_same_effect_eq {hs : List Int} {w : Int} (g : Good hs w) {r q : List Nat} (h : ∀ i ∈ r, i < hs.length) (hl : r.length ≤ 30) (h2 : ∀ i ∈ q, i < hs.length) (hl2 : q.length ≤ 30) : m_same_effect [vD hs w, rD r, rD q] = .ok (.bool (decide (effN hs w r = effN hs w q))) := by
  refine fnV_eq rfl ?_
  unfold c_same_effect
  simp [m_require_view_good g, m_require_row_eq h hl, m_require_row_eq h2 hl2, m_effect_of_eq h, m_effect_of_eq h2]
theorem min1_eq : ∀ {l : List Int} {a : Int}, a ∈ l → (∀ x ∈ l, a ≤ x) → min1 l = a
  | [], a, h, _ => by simp at h
  | [x], a, h, _ => by simp at h; simp [min1, h]
  | x :: y :: r, a, h, hm => by
    show min x (min1 (y :: r)) = a
    by_cases q : a ∈ y :: r
    · rw [min1_eq q fun z hz => hm z (by simp [List.mem_cons.mp hz])]
      have := hm x (by simp)
      omega
    · have hx : a = x := by
        rcases List.mem_cons.mp h with h | h
        · exact h
        · exact absurd h q
      have lb : ∀ {l : List Int} {a : Int}, l ≠ [] → (∀ z ∈ l, a ≤ z) → a ≤ min1 l := by
        intro l
        induction l with
        | nil => intro a h; exact absurd rfl h
        | cons u v ih =>
          intro a _ hz
          cases v with
          | nil => exact hz u (by simp)
          | cons u' v' =>
            have h1 := hz u (by simp)
            have h2 := ih (a := a) (by simp) fun z hz' => hz z (by simp [List.mem_cons.mp hz'])
            show a ≤ min u (min1 (u' :: v'))
            omega
      have := lb (l := y :: r) (a := a) (by simp) fun z hz => hm z (by simp [List.mem_cons.mp hz])
      omega
theorem max1_eq : ∀ {l : List Int} {a : Int}, a ∈ l → (∀ x ∈ l, x ≤ a) → max1 l = a
  | [], a, h, _ => by simp at h
  | [x], a, h, _ => by simp at h; simp [max1, h]
  | x :: y :: r, a, h, hm => by
    show max x (max1 (y :: r)) = a
    by_cases q : a ∈ y :: r
    · rw [max1_eq q fun z hz => hm z (by simp [List.mem_cons.mp hz])]
      have := hm x (by simp)
      omega
    · have hx : a = x := by
        rcases List.mem_cons.mp h with h | h
        · exact h
        · exact absurd h q
      have lb : ∀ {l : List Int} {a : Int}, l ≠ [] → (∀ z ∈ l, z ≤ a) → max1 l ≤ a := by
        intro l
        induction l with
        | nil => intro a h; exact absurd rfl h
        | cons u v ih =>
          intro a _ hz
          cases v with
          | nil => exact hz u (by simp)
          | cons u' v' =>
            have h1 := hz u (by simp)
            have h2 := ih (a := a) (by simp) fun z hz' => hz z (by simp [List.mem_cons.mp hz'])
            show max u (max1 (u' :: v')) ≤ a
            omega
      have := lb (l := y :: r) (a := a) (by simp) fun z hz => hm z (by simp [List.mem_cons.mp hz])
      omega
/-- a drawn number out of two -/
theorem two_at (s : Sr) (a b : Int) : ∃ m : Int, atI [PyData.int a, .int b] (pk s 2) = some (.int m) ∧ (m = a ∨ m = b) := by
  have p0 := pk0 s (n := 2) (by decide)
  have p1 := pk1 s (n := 2) (by decide)
  have h2 : pk s 2 = 0 ∨ pk s 2 = 1 := by omega
  rcases h2 with h2 | h2
  · exact ⟨a, by simp [h2], .inl rfl⟩
  · exact ⟨b, by simp [h2], .inr rfl⟩
theorem cutL_len {α : Type} (l : List α) (lo hi : Option Int) : (cutL l lo hi).length ≤ l.length := by
  unfold cutL
  rw [List.length_take, List.length_drop]
  omega
theorem cutL_mem {α : Type} {l : List α} {lo hi : Option Int} {x : α} (h : x ∈ cutL l lo hi) : x ∈ l := List.mem_of_mem_drop (List.mem_of_mem_take h)
theorem rngD_nat (n : Nat) : rngD 0 ((n : Int) + 1) = (List.range (n + 1)).map nD := by
  have := rngD_0 (n + 1)
  rw [← this]
  congr 1
end Rv

/-! P4: distances. -/
namespace Rv
open PySem L2 Lin
def dab (x : Int) : Int := if x < 0 then -x else x
@[simp high] theorem absD_dab (a : Int) : absD [.int a] = some (.int (dab a)) := rfl
def distN (hs : List Int) (w : Int) : Int → List Nat → Int
  | _, [] => 0
  | p, i :: r => dab (nearN p (rngN hs w i) - p) + distN hs w (nearN p (rngN hs w i)) r
theorem distN_app (hs : List Int) (w : Int) : ∀ (m l : List Nat) (p : Int), distN hs w p (m ++ l) = distN hs w p m + distN hs w (endN hs w p m) l
  | [], l, p => by simp [distN, endN]
  | i :: m, l, p => by
    show dab _ + distN hs w _ (m ++ l) = dab _ + distN hs w _ m + distN hs w (endN hs w (nearN p (rngN hs w i)) m) l
    rw [distN_app hs w m l]
    omega
theorem distN_snoc (hs : List Int) (w p : Int) (m : List Nat) (i : Nat) : distN hs w p (m ++ [i]) = distN hs w p m + dab (nearN (endN hs w p m) (rngN hs w i) - endN hs w p m) := by rw [distN_app]; simp [distN]
theorem m_distance_of_eq {hs : List Int} {w : Int} {r : List Nat} (h : ∀ i ∈ r, i < hs.length) (p : Int) : m_distance_of [vD hs w, .int p, rD r] = .ok (.int (distN hs w p r)) := by
  refine fnV_eq rfl ?_
  unfold c_distance_of
  simp
  refine loop_map r nD rfl (fun m τ => ∃ x y, τ = [.val (vD hs w), .val (.int (endN hs w p m)), .val (rD r), .val (.int (distN hs w p m)), x, y]) ⟨.free, .free, rfl⟩ ?_ ?_
  · rintro m a r' τ rfl ⟨x, y, rfl⟩
    simp [nD, m_range_of_eq (h a (by simp)), endN_snoc, distN_snoc]
  · rintro τ ⟨x, y, rfl⟩
    simp
theorem m_law_distance_eq {hs : List Int} {w : Int} (g : Good hs w) {r : List Nat} (h : ∀ i ∈ r, i < hs.length) (p : Int) : m_law_distance [vD hs w, .int p, rD r] = .ok (.int (distN hs w p r)) := by
  refine fnV_eq rfl ?_
  unfold c_law_distance
  simp
  refine loop_map r nD rfl (fun m τ => ∃ x y, τ = [.val (vD hs w), .val (.int (endN hs w p m)), .val (rD r), .val (.int (distN hs w p m)), x, y]) ⟨.free, .free, rfl⟩ ?_ ?_
  · rintro m a r' τ rfl ⟨x, y, rfl⟩
    simp [nD, m_law_pair_eq (h a (by simp)), endN_snoc, distN_snoc, toN_near (rng_ok g (h a (by simp))).2.1]
  · rintro τ ⟨x, y, rfl⟩
    simp
theorem m_scrolled_eq {hs : List Int} {w p : Int} (g : Good hs w) {r : List Nat} (h : ∀ i ∈ r, i < hs.length) (hl : r.length ≤ 30) (p0 : 0 ≤ p) (p1 : p ≤ topN hs w) : m_scrolled [vD hs w, .int p, rD r] = .ok (.int (distN hs w p r)) := by
  refine fnV_eq rfl ?_
  unfold c_scrolled
  simp [m_require_view_good g, m_require_row_eq h hl, m_require_position_good p0 p1, m_distance_of_eq h]
theorem distN_bd {hs : List Int} {w : Int} (g : Good hs w) : ∀ {r : List Nat} {p : Int}, (∀ i ∈ r, i < hs.length) → 0 ≤ p → p ≤ topN hs w → 0 ≤ distN hs w p r ∧ distN hs w p r ≤ topN hs w * r.length
  | [], p, _, h0, h1 => by simp [distN]
  | i :: r, p, h, h0, h1 => by
    have k := near_ok (p := p) (rng_ok g (h i (by simp)))
    have ih := distN_bd g (r := r) (fun j hj => h j (by simp [hj])) k.1 k.2.1
    have e : topN hs w * ((i :: r).length : Int) = topN hs w * r.length + topN hs w := by
      rw [List.length_cons, show ((r.length + 1 : Nat) : Int) = (r.length : Int) + 1 by omega, Int.mul_add, Int.mul_one]
    have d : 0 ≤ dab (nearN p (rngN hs w i) - p) ∧ dab (nearN p (rngN hs w i) - p) ≤ topN hs w := by unfold dab; split <;> omega
    show 0 ≤ dab _ + distN hs w _ r ∧ dab _ + distN hs w _ r ≤ _
    rw [e]
    omega
/-- near positions have near distances -/
theorem distN_lip (hs : List Int) (w : Int) (hr : ∀ i, i < hs.length → (rngN hs w i).1 ≤ (rngN hs w i).2) : ∀ (r : List Nat) (p q : Int), (∀ i ∈ r, i < hs.length) → dab (distN hs w p r - distN hs w q r) ≤ dab (p - q)
  | [], p, q, _ => by simp [distN, dab]; split <;> omega
  | i :: r, p, q, h => by
    have ih := distN_lip hs w hr r (nearN p (rngN hs w i)) (nearN q (rngN hs w i)) fun j hj => h j (by simp [hj])
    have hi := hr i (h i (by simp))
    show dab ((dab _ + distN hs w _ r) - (dab _ + distN hs w _ r)) ≤ _
    generalize distN hs w (nearN p (rngN hs w i)) r = a at *
    generalize distN hs w (nearN q (rngN hs w i)) r = b at *
    generalize (rngN hs w i).1 = lo at *
    generalize hx : rngN hs w i = x at *
    obtain ⟨x1, x2⟩ := x
    unfold nearN dab at *
    simp only at *
    omega
theorem distN_far (hs : List Int) (w : Int) : ∀ (r : List Nat) (p : Int), dab (endN hs w p r - p) ≤ distN hs w p r
  | [], p => by simp [distN, endN, dab]
  | i :: r, p => by
    have ih := distN_far hs w r (nearN p (rngN hs w i))
    show dab (endN hs w (nearN p (rngN hs w i)) r - p) ≤ dab _ + distN hs w _ r
    generalize distN hs w (nearN p (rngN hs w i)) r = a at *
    generalize endN hs w (nearN p (rngN hs w i)) r = b at *
    generalize nearN p (rngN hs w i) = c at *
    unfold dab at *
    omega
theorem min1_le : ∀ {l : List Int} {x : Int}, x ∈ l → min1 l ≤ x
  | [], x, h => by simp at h
  | [y], x, h => by simp at h; simp [min1, h]
  | y :: z :: r, x, h => by
    show min y (min1 (z :: r)) ≤ x
    rcases List.mem_cons.mp h with h | h
    · omega
    · have := min1_le h
      omega
theorem min1_ge : ∀ {l : List Int} {a : Int}, l ≠ [] → (∀ x ∈ l, a ≤ x) → a ≤ min1 l
  | [], a, h, _ => absurd rfl h
  | [y], a, _, h => by simpa [min1] using h
  | y :: z :: r, a, _, h => by
    show a ≤ min y (min1 (z :: r))
    have h1 := h y (by simp)
    have h2 := min1_ge (l := z :: r) (a := a) (by simp) fun x hx => h x (by simp [List.mem_cons.mp hx])
    omega
end Rv

/-! P5: comprehensions with two for's; shortest rows; needless reveals. -/
namespace Lin
open PySem L2
structure lc2K [c : Hold (List Nat × (D → Ev → Option Ev) × CT × CA × List Nat × (D → Ev → Option Ev) × CT × CE)] (ds : List D) (τ : Ev) [Q : Hold (List D × Ev → Prop)] : Prop where
  go : pst (lc2Loop c.val.1 c.val.2.1 c.val.2.2.1 c.val.2.2.2.1 c.val.2.2.2.2.1 c.val.2.2.2.2.2.1 c.val.2.2.2.2.2.2.1 c.val.2.2.2.2.2.2.2 ds [] τ) Q.val
theorem lc2K_def (c : Hold (List Nat × (D → Ev → Option Ev) × CT × CA × List Nat × (D → Ev → Option Ev) × CT × CE)) (ds : List D) (τ : Ev) (Q : Hold (List D × Ev → Prop)) : @lc2K c ds τ Q = pst (lc2Loop c.val.1 c.val.2.1 c.val.2.2.1 c.val.2.2.2.1 c.val.2.2.2.2.1 c.val.2.2.2.2.2.1 c.val.2.2.2.2.2.2.1 c.val.2.2.2.2.2.2.2 ds [] τ) Q.val := propext ⟨fun h => h.go, fun h => ⟨h⟩⟩
@[simp ↓] theorem s_lc2O (vs : List Nat) (ci : CA) (g : D → Ev → Option Ev) (ct : CT) (ci1 : CA) (vs1 : List Nat) (g1 : D → Ev → Option Ev) (ct1 : CT) (ce : CE) (τ : Ev) (Q : Hold (List D × Ev → Prop)) : @post _ (lc2O vs ci g ct ci1 vs1 g1 ct1 ce τ) Q = @post _ (ci τ) ⟨fun p => @lc2K ⟨(vs, g, ct, ci1, vs1, g1, ct1, ce)⟩ p.1 (wipeE p.2 vs) ⟨fun q => Q.val (q.1, wipeE q.2 vs)⟩⟩ := by
  rw [post_def, post_def]
  show pst ((ci τ).bind _) _ = pst (ci τ) _
  rw [pst_bind]
  refine congrArg (pst _) (funext fun p => ?_)
  rw [pst_bind]
  show _ = @lc2K ⟨(vs, g, ct, ci1, vs1, g1, ct1, ce)⟩ p.1 (wipeE p.2 vs) ⟨fun q => Q.val (q.1, wipeE q.2 vs)⟩
  rw [lc2K_def]
  rfl
theorem noexc_ok {α : Type} {x : R α} {a : α} (h : x = .ok a) : R.noexc x = .ok a := by rw [h]; rfl
/-- all pairs of a's and b's -/
theorem lc2_prod {α β : Type} {vs : List Nat} {g : D → Ev → Option Ev} {ct : CT} {ci1 : CA} {vs1 : List Nat} {g1 : D → Ev → Option Ev} {ct1 : CT} {ce : CE} {ds : List D} {τ : Ev} {Q : Hold (List D × Ev → Prop)} (l : List α) (m : List β) (e : α → D) (e1 : β → D) (h : α → β → D) (hd : ds = l.map e) (hl : l.length * m.length ≤ 1000000)
    (ht : ∀ a ∈ l, @optK _ (g (e a) τ) ⟨fun τ1 => @post _ (ct τ1) ⟨fun p => p.1 = true ∧ @post _ (ci1 p.2) ⟨fun q => q.1 = m.map e1 ∧ wipeE (wipeE q.2 vs1) vs = τ ∧ ∀ b ∈ m, @optK _ (g1 (e1 b) (wipeE q.2 vs1)) ⟨fun τ2 => @post _ (ct1 τ2) ⟨fun r => r.1 = true ∧ @post _ (ce r.2) ⟨fun s => s.1 = h a b ∧ wipeE s.2 vs1 = wipeE q.2 vs1⟩⟩⟩⟩⟩⟩)
    (q : Q.val (l.flatMap fun a => m.map (h a), τ)) : @lc2K ⟨(vs, g, ct, ci1, vs1, g1, ct1, ce)⟩ ds τ Q := by
  subst hd
  have inner : ∀ (a : α) (σ : Ev) (m : List β) (acc : List D), acc.length + m.length ≤ 1000000 → (∀ b ∈ m, @optK _ (g1 (e1 b) σ) ⟨fun τ2 => @post _ (ct1 τ2) ⟨fun r => r.1 = true ∧ @post _ (ce r.2) ⟨fun s => s.1 = h a b ∧ wipeE s.2 vs1 = σ⟩⟩⟩) → lcIn vs1 g1 ct1 ce (m.map e1) acc σ = .ok (acc ++ m.map (h a), σ) := by
    intro a σ m
    induction m with
    | nil => intro acc _ _; simp [lcIn]
    | cons b m ih =>
      intro acc hn hb
      simp only [List.length_cons] at hn
      have t := opt_out (hb b (by simp))
      rw [List.map_cons]
      unfold lcIn
      cases e2 : g1 (e1 b) σ with
      | none => rw [e2] at t; exact t.elim
      | some τ2 =>
        rw [e2] at t
        obtain ⟨⟨k, τ3⟩, e3, hk, t3⟩ := pst_get (post_out t)
        simp only at hk
        subst hk
        obtain ⟨⟨z, τ4⟩, e4, hz, hw⟩ := pst_get (post_out t3)
        simp only at hz hw e4
        show (R.noexc (ct1 τ2)).bind _ = _
        rw [noexc_ok e3]
        show (R.noexc (ce τ3)).bind _ = _
        rw [noexc_ok e4]
        have hsz : sized (acc.length + 1) = true := decide_eq_true (by omega)
        show (if sized (acc.length + 1) = true then lcIn vs1 g1 ct1 ce (m.map e1) (acc ++ [z]) (wipeE τ4 vs1) else .stuck) = _
        rw [if_pos hsz, hw, ih (acc ++ [z]) (by simp; omega) fun b' hb' => hb b' (by simp [hb']), hz]
        simp
  have key : ∀ (l : List α) (acc : List D), acc.length + l.length * m.length ≤ 1000000 → (∀ a ∈ l, @optK _ (g (e a) τ) ⟨fun τ1 => @post _ (ct τ1) ⟨fun p => p.1 = true ∧ @post _ (ci1 p.2) ⟨fun q => q.1 = m.map e1 ∧ wipeE (wipeE q.2 vs1) vs = τ ∧ ∀ b ∈ m, @optK _ (g1 (e1 b) (wipeE q.2 vs1)) ⟨fun τ2 => @post _ (ct1 τ2) ⟨fun r => r.1 = true ∧ @post _ (ce r.2) ⟨fun s => s.1 = h a b ∧ wipeE s.2 vs1 = wipeE q.2 vs1⟩⟩⟩⟩⟩⟩) → lc2Loop vs g ct ci1 vs1 g1 ct1 ce (l.map e) acc τ = .ok (acc ++ l.flatMap (fun a => m.map (h a)), τ) := by
    intro l
    induction l with
    | nil => intro acc _ _; simp [lc2Loop]
    | cons a l ih =>
      intro acc hn ha
      have hn' : acc.length + (l.length * m.length + m.length) ≤ 1000000 := by
        rw [List.length_cons, Nat.succ_mul] at hn
        exact hn
      have t := opt_out (ha a (by simp))
      rw [List.map_cons]
      unfold lc2Loop
      cases e2 : g (e a) τ with
      | none => rw [e2] at t; exact t.elim
      | some τ2 =>
        rw [e2] at t
        obtain ⟨⟨k, τ3⟩, e3, hk, t3⟩ := pst_get (post_out t)
        simp only at hk
        subst hk
        obtain ⟨⟨es, τ4⟩, e4, hz, hw, hb⟩ := pst_get (post_out t3)
        simp only at hz hw e4 hb
        show (R.noexc (ct τ2)).bind _ = _
        rw [noexc_ok e3]
        show (R.noexc (ci1 τ3)).bind _ = _
        rw [noexc_ok e4]
        show (lcIn vs1 g1 ct1 ce es acc (wipeE τ4 vs1)).bind _ = _
        rw [hz, inner a (wipeE τ4 vs1) m acc (by omega) hb]
        show lc2Loop vs g ct ci1 vs1 g1 ct1 ce (l.map e) (acc ++ m.map (h a)) (wipeE (wipeE τ4 vs1) vs) = _
        rw [hw, ih _ (by simp; omega) fun a' ha' => ha a' (by simp [ha'])]
        simp
  rw [lc2K_def]
  show pst (lc2Loop vs g ct ci1 vs1 g1 ct1 ce (l.map e) [] τ) Q.val
  rw [key l [] (by simpa using hl) ht]
  exact q
end Lin
namespace Rv
open PySem L2 Lin
/-- rows of at most two reveals, short ones first -/
def shortL (n : Nat) : List (List Nat) := [[]] ++ (List.range n).map (fun i => [i]) ++ (List.range n).flatMap fun i => (List.range n).map fun j => [i, j]
theorem sum_const (l : List Nat) (k : Nat) : (l.map fun (_ : Nat) => k).sum = l.length * k := by
  induction l with
  | nil => simp
  | cons a l ih => rw [List.map_cons, List.sum_cons, ih, List.length_cons, Nat.succ_mul, Nat.add_comm]
theorem m_short_rows_eq {hs : List Int} (w : Int) (hl : hs.length ≤ 20) : m_short_rows [vD hs w] = .ok (.list ((shortL hs.length).map rD)) := by
  refine fnV_eq rfl ?_
  unfold c_short_rows
  have eN : rngD 0 (hs.length : Int) = (List.range hs.length).map nD := rngD_0 _
  have sq : hs.length * hs.length ≤ 400 := Nat.mul_le_mul hl hl
  simp [hl, eN]
  refine ⟨by omega, ?_⟩
  refine lc_map (List.range hs.length) nD (fun i => rD [i]) rfl (by simp; omega) (fun i hi => ?_) ?_
  · simp [rD]
  simp
  refine ⟨by omega, ?_⟩
  refine lc2_prod (List.range hs.length) (List.range hs.length) nD nD (fun i j => rD [i, j]) rfl (by rw [List.length_range]; omega) (fun i hi => ?_) ?_
  · simp [rD]
  · have e1 : (shortL hs.length).map rD = PyData.tuple [] :: ((List.range hs.length).map (fun i => rD [i]) ++ (List.range hs.length).flatMap fun i => (List.range hs.length).map fun j => rD [i, j]) := by
      simp [shortL, rD, List.map_flatMap, Function.comp_def]
    have e2 : ((List.range hs.length).map fun (_ : Nat) => hs.length).sum = hs.length * hs.length := by rw [sum_const, List.length_range]
    simp [e1]
    rw [e2]
    omega
theorem shortL_mem {n : Nat} {r : List Nat} : r ∈ shortL n ↔ r.length ≤ 2 ∧ ∀ i ∈ r, i < n := by
  unfold shortL
  simp only [List.mem_append, List.mem_singleton, List.mem_map, List.mem_flatMap, List.mem_range]
  constructor
  · rintro ((rfl | ⟨i, hi, rfl⟩) | ⟨i, hi, j, hj, rfl⟩)
    · simp
    · simp [hi]
    · simp [hi, hj]
  · rintro ⟨hl, h⟩
    match r, hl, h with
    | [], _, _ => exact .inl (.inl rfl)
    | [i], _, h => exact .inl (.inr ⟨i, h i (by simp), rfl⟩)
    | [i, j], _, h => exact .inr ⟨i, h i (by simp), j, h j (by simp), rfl⟩
    | _ :: _ :: _ :: _, hl, _ => simp at hl
theorem m_shortest_with_eq {hs : List Int} {w : Int} (hl : hs.length ≤ 20) (p : Int × Int) : m_shortest_with [vD hs w, pD p] = .ok (match (shortL hs.length).find? (fun r => decide (effN hs w r = p)) with | some r => rD r | none => .none) := by
  refine fnV_eq rfl ?_
  unfold c_shortest_with
  simp [m_short_rows_eq w hl]
  refine loop_map (shortL hs.length) rD rfl (fun m τ => ∃ x, τ = [.val (vD hs w), .val (pD p), x] ∧ ∀ r ∈ m, effN hs w r ≠ p) ⟨_, rfl, by simp⟩ ?_ ?_
  · rintro m r q τ e ⟨x, rfl, hm⟩
    have hr : ∀ i ∈ r, i < hs.length := (shortL_mem.mp (by rw [e]; simp)).2
    by_cases c : effN hs w r = p
    · have f : (shortL hs.length).find? (fun r => decide (effN hs w r = p)) = some r := by
        rw [e, List.find?_append, List.find?_eq_none.mpr (by simpa using hm)]
        simp [c]
      simp [m_effect_of_eq hr, c, f]
    · simp [m_effect_of_eq hr, c]
      intro q hq
      rcases hq with h | rfl
      · exact hm q h
      · exact c
  · rintro τ ⟨x, rfl, hm⟩
    have f : (shortL hs.length).find? (fun r => decide (effN hs w r = p)) = none := List.find?_eq_none.mpr (by simpa using hm)
    simp [f]
/-- three reveals: two of them do the same -/
theorem three_two {a b c d e f : Int} (h1 : a ≤ b) (h2 : c ≤ d) (h3 : e ≤ f) :
    (nearN (nearN a (c, d)) (e, f) = nearN a (c, d) ∧ nearN (nearN b (c, d)) (e, f) = nearN b (c, d)) ∨ (nearN (nearN a (c, d)) (e, f) = nearN a (e, f) ∧ nearN (nearN b (c, d)) (e, f) = nearN b (e, f)) ∨ (nearN (nearN a (c, d)) (e, f) = nearN c (e, f) ∧ nearN (nearN b (c, d)) (e, f) = nearN d (e, f)) := by
  unfold nearN
  simp only []
  omega
end Rv

/-! P6: two reveals are enough; shortest rows; needless reveals. -/
namespace Rv
open PySem L2 Lin
theorem eff_one {hs : List Int} {w : Int} {i : Nat} (g : Good hs w) (h : i < hs.length) : effN hs w [i] = rngN hs w i := by
  have r := rng_ok g h
  unfold effN endN nearN
  simp only [List.foldl_cons, List.foldl_nil]
  exact Prod.ext (by simp only []; omega) (by simp only []; omega)
theorem eff_snoc (hs : List Int) (w : Int) (m : List Nat) (i : Nat) : effN hs w (m ++ [i]) = (nearN (effN hs w m).1 (rngN hs w i), nearN (effN hs w m).2 (rngN hs w i)) := by simp [effN, endN_snoc]
theorem eff_two {hs : List Int} {w : Int} {i j : Nat} (g : Good hs w) (h : i < hs.length) : effN hs w [i, j] = (nearN (rngN hs w i).1 (rngN hs w j), nearN (rngN hs w i).2 (rngN hs w j)) := by
  have := eff_snoc hs w [i] j
  rw [eff_one g h] at this
  exact this
theorem two_enough {hs : List Int} {w : Int} (g : Good hs w) (r : List Nat) (hr : ∀ i ∈ r, i < hs.length) : ∃ q : List Nat, q.length ≤ 2 ∧ (∀ i ∈ q, i < hs.length) ∧ effN hs w q = effN hs w r := by
  have key : ∀ (l m : List Nat), (∀ i ∈ l, i < hs.length) → (∃ q : List Nat, q.length ≤ 2 ∧ (∀ i ∈ q, i < hs.length) ∧ effN hs w q = effN hs w m) → ∃ q : List Nat, q.length ≤ 2 ∧ (∀ i ∈ q, i < hs.length) ∧ effN hs w q = effN hs w (m ++ l) := by
    intro l
    induction l with
    | nil => intro m _ h; simpa using h
    | cons i l ih =>
      rintro m hl ⟨q, hq, hi, he⟩
      have h0 := hl i (by simp)
      have e : m ++ i :: l = (m ++ [i]) ++ l := by simp
      rw [e]
      refine ih (m ++ [i]) (fun j hj => hl j (by simp [hj])) ?_
      have e1 : effN hs w (q ++ [i]) = effN hs w (m ++ [i]) := by rw [eff_snoc, eff_snoc, he]
      match q, hq, hi, e1 with
      | [], _, _, e1 => exact ⟨[i], by simp, by simpa using h0, e1⟩
      | [a], _, hi, e1 => exact ⟨[a, i], by simp, by intro j hj; simp at hj; rcases hj with rfl | rfl; exact hi _ (by simp); exact h0, e1⟩
      | [a, b], _, hi, e1 =>
        have ha := hi a (by simp)
        have hb := hi b (by simp)
        have ra := rng_ok g ha
        have rb := rng_ok g hb
        have ri := rng_ok g h0
        have e2 : effN hs w ([a, b] ++ [i]) = (nearN (nearN (rngN hs w a).1 (rngN hs w b)) (rngN hs w i), nearN (nearN (rngN hs w a).2 (rngN hs w b)) (rngN hs w i)) := by rw [eff_snoc, eff_two g ha]
        rw [← e1, e2]
        have t := three_two (a := (rngN hs w a).1) (b := (rngN hs w a).2) (c := (rngN hs w b).1) (d := (rngN hs w b).2) (e := (rngN hs w i).1) (f := (rngN hs w i).2) ra.2.1 rb.2.1 ri.2.1
        rcases t with ⟨t1, t2⟩ | ⟨t1, t2⟩ | ⟨t1, t2⟩
        · exact ⟨[a, b], by simp, hi, by rw [eff_two g ha]; exact Prod.ext t1.symm t2.symm⟩
        · exact ⟨[a, i], by simp, by intro j hj; simp at hj; rcases hj with rfl | rfl; exact ha; exact h0, by rw [eff_two g ha]; exact Prod.ext t1.symm t2.symm⟩
        · exact ⟨[b, i], by simp, by intro j hj; simp at hj; rcases hj with rfl | rfl; exact hb; exact h0, by rw [eff_two g hb]; exact Prod.ext t1.symm t2.symm⟩
      | _ :: _ :: _ :: _, hq, _, _ => simp at hq
  have := key r [] hr ⟨[], by simp, by simp, rfl⟩
  simpa using this
/-- the first short row of an effect is a shortest one -/
theorem first_short {n : Nat} {P : List Nat → Bool} {q : List Nat} (hq : q ∈ shortL n) (hp : P q = true) : ∃ r, (shortL n).find? P = some r ∧ r ∈ shortL n ∧ P r = true ∧ ∀ q ∈ shortL n, P q = true → r.length ≤ q.length := by
  obtain ⟨r, hr⟩ : ∃ r, (shortL n).find? P = some r := by
    cases e : (shortL n).find? P with
    | some r => exact ⟨r, rfl⟩
    | none =>
      have := List.find?_eq_none.mp e q hq
      exact absurd hp this
  have hm := List.mem_of_find?_eq_some hr
  have hP := List.find?_some hr
  refine ⟨r, hr, hm, hP, fun q hq hp => ?_⟩
  have len := (shortL_mem.mp hm).1
  match q, hq, hp with
  | [], _, hp =>
    unfold shortL at hr
    simp [List.find?_append, hp] at hr
    simp [← hr]
  | [i], hq, hp =>
    have hi : i < n := (shortL_mem.mp hq).2 i (by simp)
    unfold shortL at hr
    rw [List.find?_append] at hr
    cases e : ([[]] ++ (List.range n).map fun i => [i]).find? P with
    | none => exact absurd hp (List.find?_eq_none.mp e [i] (by simp [hi]))
    | some z =>
      rw [e] at hr
      simp at hr
      have := List.mem_of_find?_eq_some e
      rw [← hr]
      simp at this
      rcases this with rfl | ⟨j, _, rfl⟩
      · simp
      · simp
  | _ :: _ :: _, _, _ => simp only [List.length_cons]; omega
theorem m_shortest_row_eq {hs : List Int} {w : Int} (g : Good hs w) {r : List Nat} (h : ∀ i ∈ r, i < hs.length) (hl : r.length ≤ 30) : ∃ q : List Nat, m_shortest_row [vD hs w, rD r] = .ok (rD q) ∧ q.length ≤ 2 ∧ (∀ i ∈ q, i < hs.length) ∧ effN hs w q = effN hs w r ∧ ∀ z : List Nat, (∀ i ∈ z, i < hs.length) → effN hs w z = effN hs w r → q.length ≤ z.length := by
  obtain ⟨q0, l0, i0, e0⟩ := two_enough g r h
  obtain ⟨q, hf, hm, hP, hmin⟩ := first_short (P := fun z => decide (effN hs w z = effN hs w r)) (shortL_mem.mpr ⟨l0, i0⟩) (by simpa using e0)
  have hm' := shortL_mem.mp hm
  refine ⟨q, ?_, hm'.1, hm'.2, by simpa using hP, fun z hz ez => ?_⟩
  · refine fnV_eq rfl ?_
    unfold c_shortest_row
    simp [m_require_view_good g, m_require_row_eq h hl, m_effect_of_eq h, m_shortest_with_eq g.l2, hf]
  · by_cases c : z.length ≤ 2
    · exact hmin z (shortL_mem.mpr ⟨c, hz⟩) (by simpa using ez)
    · have := hm'.1
      omega
/-- a row without one reveal -/
def dropAt (r : List Nat) (k : Nat) : List Nat := r.take k ++ r.drop (k + 1)
theorem dropAt_mem {r : List Nat} {k i : Nat} (h : i ∈ dropAt r k) : i ∈ r := by
  rcases List.mem_append.mp h with h | h
  · exact List.mem_of_mem_take h
  · exact List.mem_of_mem_drop h
theorem dropAt_len {r : List Nat} {k : Nat} (h : k < r.length) : (dropAt r k).length + 1 = r.length := by
  unfold dropAt
  rw [List.length_append, List.length_take, List.length_drop]
  omega
def needN (hs : List Int) (w : Int) (r : List Nat) : List Nat := (List.range r.length).filter fun k => decide (effN hs w (dropAt r k) = effN hs w r)
@[simp] theorem slD_take (r : List Nat) (c : Nat) : slD (rD r) none (some (c : Int)) = some (rD (r.take c)) := by simp [rD, cutD_map]
@[simp] theorem slD_drop (r : List Nat) (c : Nat) : slD (rD r) (some (c : Int)) none = some (rD (r.drop c)) := by simp [rD, cutD_map]
@[simp] theorem slD_drop1 (r : List Nat) (c : Nat) : slD (rD r) (some ((c : Int) + 1)) none = some (rD (r.drop (c + 1))) := slD_drop r (c + 1)
@[simp] theorem addD_rD (a b : List Nat) : addD (rD a) (rD b) = if sized (a.length + b.length) = true then some (rD (a ++ b)) else none := by simp [rD]
theorem m_needless_eq {hs : List Int} {w : Int} (g : Good hs w) {r : List Nat} (h : ∀ i ∈ r, i < hs.length) (hl : r.length ≤ 30) : m_needless [vD hs w, rD r] = .ok ((needN hs w r).map nD) := by
  refine fnO_eq rfl ?_
  unfold c_needless
  have eN : rngD 0 (r.length : Int) = (List.range r.length).map nD := rngD_0 _
  simp [m_require_view_good g, m_require_row_eq h hl, m_effect_of_eq h, eN]
  refine ⟨by omega, ?_⟩
  refine lc_filter (List.range r.length) nD (fun k => decide (effN hs w (dropAt r k) = effN hs w r)) nD rfl (by simp; omega) (fun k hk => ?_) ?_
  · have hk : k < r.length := by simpa using hk
    have e1 := m_effect_of_eq (w := w) (r := r.take k ++ r.drop (k + 1)) fun i hi => h i (dropAt_mem hi)
    have sz : min k r.length + (r.length - (k + 1)) ≤ 1000000 := by omega
    by_cases c : effN hs w (dropAt r k) = effN hs w r
    · have c' := c
      unfold dropAt at c'
      simp [nD, e1, sz, c, c']
    · have c' := c
      unfold dropAt at c'
      simp [nD, e1, sz, c, c']
  · simp [needN]
end Rv

/-! P7: chosen items, seen together. -/
namespace Rv
open PySem L2 Lin
structure Asc (n : Nat) (r : List Nat) : Prop where
  ne : r ≠ []
  le : r.length ≤ 6
  lt : ∀ i ∈ r, i < n
  up : r.Pairwise (· < ·)
theorem zip_asc : ∀ {r : List Nat}, r.Pairwise (· < ·) → ∀ p ∈ r.zip (r.drop 1), p.1 < p.2
  | [], _, p, h => by simp at h
  | [a], _, p, h => by simp at h
  | a :: b :: r, h, p, hp => by
    rw [List.pairwise_cons] at h
    simp only [List.drop_succ_cons, List.drop_zero, List.zip_cons_cons, List.mem_cons] at hp
    rcases hp with rfl | hp
    · exact h.1 b (by simp)
    · exact zip_asc h.2 p (by simpa using hp)
theorem zipD_nD (a b : List Nat) : zipD (a.map nD) (b.map nD) = (a.zip b).map fun p => PyData.tuple [nD p.1, nD p.2] := by
  unfold zipD
  rw [List.zipWith_map]
  induction a generalizing b with
  | nil => simp
  | cons x a ih => cases b with
    | nil => simp
    | cons y b => simp [ih]
@[simp] theorem slD_tl (r : List Nat) : slD (rD r) (some 1) none = some (rD (r.drop 1)) := slD_drop r 1
theorem rD_tup (r : List Nat) : ∃ ds, rD r = .tuple ds := ⟨_, rfl⟩
theorem zip2_rD (a b : List Nat) : zip2 [rD a, rD b] = some ((a.zip b).map fun p => PyData.tuple [nD p.1, nD p.2]) := by simp [rD, zipD_nD]
theorem m_require_items_eq {hs : List Int} {w : Int} {r : List Nat} (a : Asc hs.length r) : m_require_items [vD hs w, rD r] = .ok .none := by
  refine fnV_eq rfl ?_
  unfold c_require_items
  have k1 : 1 ≤ r.length := by
    have := a.ne
    cases r with
    | nil => exact absurd rfl this
    | cons _ _ => simp
  have k2 := a.le
  have k3 : (1 : Int) ≤ r.length := by omega
  have k4 : (r.length : Int) ≤ 6 := by omega
  simp [k3, k4]
  refine lc_map r nD (fun _ => .bool true) rfl (by omega) (fun i hi => ?_) ?_
  · have := a.lt i hi
    simp [nD, m_is_integer_int]
    omega
  · simp [zip2_rD]
    refine lc_map (r.zip (r.drop 1)) (fun p => .tuple [nD p.1, nD p.2]) (fun _ => .bool true) (by simp) (by simp; omega) (fun p hp => ?_) ?_
    · have := zip_asc a.up p hp
      simp [nD]
      omega
    · simp
def oD : Option (Int × Int) → D
  | some p => pD p
  | none => .none
def comN (hs : List Int) (w : Int) (r : List Nat) : Option (Int × Int) :=
  if max1 (r.map fun i => (rngN hs w i).1) ≤ min1 (r.map fun i => (rngN hs w i).2) then some (max1 (r.map fun i => (rngN hs w i).1), min1 (r.map fun i => (rngN hs w i).2)) else none
theorem m_common_eq {hs : List Int} {w : Int} {r : List Nat} (hn : r ≠ []) (hl : r.length ≤ 30) (h : ∀ i ∈ r, i < hs.length) : m_common [vD hs w, rD r] = .ok (oD (comN hs w r)) := by
  refine fnV_eq rfl ?_
  unfold c_common
  simp
  refine lc_map r nD (fun i => pD (rngN hs w i)) rfl (by omega) (fun i hi => ?_) ?_
  · simp [nD, m_range_of_eq (h i hi)]
  · simp
    refine lc_map r (fun i => pD (rngN hs w i)) (fun i => .int (rngN hs w i).1) rfl (by omega) (fun i hi => ?_) ?_
    · simp
    · simp [hn]
      refine lc_map r (fun i => pD (rngN hs w i)) (fun i => .int (rngN hs w i).2) rfl (by omega) (fun i hi => ?_) ?_
      · simp
      · by_cases c : max1 (r.map fun i => (rngN hs w i).1) ≤ min1 (r.map fun i => (rngN hs w i).2)
        · simp [hn, comN, c, oD, pD]
        · simp [hn, comN, c, oD]
theorem m_together_eq {hs : List Int} {w : Int} {r : List Nat} (g : Good hs w) (a : Asc hs.length r) : m_together [vD hs w, rD r] = .ok (oD (comN hs w r)) := by
  refine fnV_eq rfl ?_
  unfold c_together
  have k2 := a.le
  simp [m_require_view_good g, m_require_items_eq a, m_common_eq a.ne (by omega) a.lt]
end Rv

/-! P8: only the last reveals count. -/
namespace Rv
open PySem L2 Lin
theorem three_clamp {p a b c d : Int} (h1 : a ≤ b) (h2 : c ≤ d) : nearN (nearN (nearN p (a, b)) (c, d)) (a, b) = nearN (nearN p (c, d)) (a, b) := by
  unfold nearN
  simp only []
  omega
theorem early {hs : List Int} {w : Int} (g : Good hs w) {i : Nat} (hi : i < hs.length) {r : List Nat} (hr : ∀ j ∈ r, j < hs.length) (hm : i ∈ r) {p : Int} (p0 : 0 ≤ p) (p1 : p ≤ topN hs w) : endN hs w p (i :: r) = endN hs w p r := by
  obtain ⟨b, c, rfl⟩ := List.append_of_mem hm
  have hb : ∀ j ∈ b, j < hs.length := fun j hj => hr j (by simp [hj])
  have ri := rng_ok g hi
  obtain ⟨e1, e2⟩ := endN_clamp g b hb
  have n := near_ok (p := p) ri
  have k : endN hs w p (i :: (b ++ [i])) = endN hs w p (b ++ [i]) := by
    rw [endN_snoc]
    show endN hs w p ((i :: b) ++ [i]) = _
    rw [endN_snoc]
    show nearN (endN hs w (nearN p (rngN hs w i)) b) _ = _
    rw [e2 _ n.1 n.2.1, e2 p p0 p1]
    exact three_clamp ri.2.1 e1
  have s1 : i :: (b ++ i :: c) = (i :: (b ++ [i])) ++ c := by simp
  have s2 : b ++ i :: c = (b ++ [i]) ++ c := by simp
  rw [s1, s2, endN_app, endN_app, k]
def lastOnes : List Nat → List Nat
  | [] => []
  | i :: r => if i ∈ r then lastOnes r else i :: lastOnes r
theorem lastOnes_sub : ∀ {r : List Nat} {i : Nat}, i ∈ lastOnes r → i ∈ r
  | [], _, h => by simp [lastOnes] at h
  | j :: r, i, h => by
    unfold lastOnes at h
    split at h
    · exact List.mem_cons_of_mem _ (lastOnes_sub h)
    · rcases List.mem_cons.mp h with rfl | h
      · simp
      · exact List.mem_cons_of_mem _ (lastOnes_sub h)
theorem lastOnes_len : ∀ r : List Nat, (lastOnes r).length ≤ r.length
  | [] => by simp [lastOnes]
  | j :: r => by
    have := lastOnes_len r
    unfold lastOnes
    split
    · simp; omega
    · simp; omega
theorem lastOnes_end {hs : List Int} {w : Int} (g : Good hs w) : ∀ {r : List Nat} {p : Int}, (∀ j ∈ r, j < hs.length) → 0 ≤ p → p ≤ topN hs w → endN hs w p (lastOnes r) = endN hs w p r
  | [], p, _, _, _ => rfl
  | i :: r, p, h, p0, p1 => by
    have hi := h i (by simp)
    have hr : ∀ j ∈ r, j < hs.length := fun j hj => h j (by simp [hj])
    unfold lastOnes
    split
    · rename_i hm
      rw [early g hi hr hm p0 p1]
      exact lastOnes_end g hr p0 p1
    · have n := near_ok (p := p) (rng_ok g hi)
      show endN hs w (nearN p (rngN hs w i)) (lastOnes r) = endN hs w (nearN p (rngN hs w i)) r
      exact lastOnes_end g hr n.1 n.2.1
theorem lastOnes_eff {hs : List Int} {w : Int} (g : Good hs w) {r : List Nat} (h : ∀ j ∈ r, j < hs.length) : effN hs w (lastOnes r) = effN hs w r := by
  have t0 := top0 hs w
  unfold effN
  rw [lastOnes_end g h (Int.le_refl 0) t0, lastOnes_end g h t0 (Int.le_refl _)]
/-- a reveal ahead of a later one of the same item -/
theorem early_eff {hs : List Int} {w : Int} (g : Good hs w) {r : List Nat} (h : ∀ j ∈ r, j < hs.length) {k : Nat} (hk : k < r.length) (hm : r[k] ∈ r.drop (k + 1)) : effN hs w (dropAt r k) = effN hs w r := by
  have t0 := top0 hs w
  have e : r = r.take k ++ r[k] :: r.drop (k + 1) := by rw [← List.drop_eq_getElem_cons hk, List.take_append_drop]
  have hi : r[k] < hs.length := h _ (List.getElem_mem hk)
  have hd : ∀ j ∈ r.drop (k + 1), j < hs.length := fun j hj => h j (List.mem_of_mem_drop hj)
  have ht : ∀ j ∈ r.take k, j < hs.length := fun j hj => h j (List.mem_of_mem_take hj)
  have key : ∀ p, 0 ≤ p → p ≤ topN hs w → endN hs w p (dropAt r k) = endN hs w p r := fun p p0 p1 => by
    conv => rhs; rw [e]
    unfold dropAt
    rw [endN_app, endN_app]
    have n := endN_ok g ht p0 p1
    exact (early g hi hd hm n.1 n.2).symm
  unfold effN
  rw [key 0 (Int.le_refl 0) t0, key _ t0 (Int.le_refl _)]
end Rv

/-! P9: enumerate and membership in rows. -/
namespace Rv
open PySem L2 Lin
theorem enum_rD (r : List Nat) : enumD (r.map nD) = (List.range r.length).map fun k => PyData.tuple [nD k, nD (r.getD k 0)] := by
  unfold enumD zipD
  rw [List.length_map]
  apply List.ext_getElem?
  intro i
  rw [List.getElem?_zipWith, List.getElem?_map, List.getElem?_map, List.getElem?_map]
  by_cases h : i < r.length
  · simp [h, nD]
  · have h2 : r.length ≤ i := by omega
    simp [h, h2]
theorem any_nD (q : List Nat) (x : Nat) : ((q.map nD).any fun z => PyData.eqv z (nD x)) = decide (x ∈ q) := by
  rw [Bool.eq_iff_iff]
  simp
theorem all_nD (q : List Nat) : ((q.map nD).all fun d => match d with | .int _ => true | _ => false) = true := by simp [nD]
theorem inD_rD (x : Nat) (q : List Nat) : inD (nD x) (rD q) = some (.bool (decide (x ∈ q))) := by
  have e := any_nD q x
  unfold nD at e
  show (if ((q.map nD).all fun d => match d with | .int _ => true | _ => false) = true then some (PyData.bool ((q.map nD).any fun z => PyData.eqv z (.int x))) else none) = _
  rw [if_pos (all_nD q)]
  congr 2
theorem notInD_rD (x : Nat) (q : List Nat) : notInD (nD x) (rD q) = some (.bool (!decide (x ∈ q))) := by
  show (if ((q.map nD).all fun d => match d with | .int _ => true | _ => false) = true then some (PyData.bool (!(q.map nD).any fun z => PyData.eqv z (.int x))) else none) = _
  rw [if_pos (all_nD q)]
  have e := any_nD q x
  unfold nD at e
  congr 3
theorem notInD_lst (x : D) (ds : List D) : notInD x (.list ds) = if SeqAt.shaped x = true ∧ SeqAt.shaped (.list ds) = true then some (.bool (!ds.any fun z => PyData.eqv z x)) else none := by cases x <;> rfl
theorem notInD_nl (x : Nat) (q : List Nat) : notInD (nD x) (.list (q.map nD)) = some (.bool (!decide (x ∈ q))) := by
  rw [notInD_lst, if_pos (by simp), any_nD]
theorem inD_nl (x : Nat) (q : List Nat) : inD (nD x) (.list (q.map nD)) = some (.bool (decide (x ∈ q))) := by
  rw [inD_lst, if_pos (by simp), any_nD]
theorem lastOnes_eq : ∀ r : List Nat, ((List.range r.length).filter fun k => decide (¬ r.getD k 0 ∈ r.drop (k + 1))).map (fun k => r.getD k 0) = lastOnes r
  | [] => rfl
  | i :: r => by
    have ih := lastOnes_eq r
    rw [List.length_cons, List.range_succ_eq_map, List.filter_cons, List.filter_map]
    unfold lastOnes
    by_cases h : i ∈ r
    · simp [h, Function.comp_def, ← ih]
    · simp [h, Function.comp_def, ← ih]
theorem m_law_last_ones_eq {r : List Nat} (hl : r.length ≤ 30) : m_law_last_ones [rD r] = .ok (rD (lastOnes r)) := by
  refine fnV_eq rfl ?_
  unfold c_law_last_ones
  simp [enum_rD]
  refine lc_filter (List.range r.length) (fun k => PyData.tuple [nD k, nD (r.getD k 0)]) (fun k => decide (¬ r.getD k 0 ∈ r.drop (k + 1))) (fun k => nD (r.getD k 0)) (by simp) (by simp; omega) (fun k hk => ?_) ?_
  · have e := notInD_rD (r.getD k 0) (r.drop (k + 1))
    have s1 : slD (rD r) (some ((k : Int) + 1)) none = some (rD (r.drop (k + 1))) := slD_drop1 r k
    by_cases c : r.getD k 0 ∈ r.drop (k + 1)
    · rw [decide_eq_true c] at e
      simp only [List.getD_eq_getElem?_getD] at e c
      simp [nD, s1] at e ⊢
      simp [e, c]
    · rw [decide_eq_false c] at e
      simp only [List.getD_eq_getElem?_getD] at e c
      simp [nD, s1] at e ⊢
      simp [e, c, nD]
  · have := lastOnes_eq r
    have e : ((List.range r.length).filter fun k => decide (¬ r.getD k 0 ∈ r.drop (k + 1))).map (fun k => nD (r.getD k 0)) = (lastOnes r).map nD := by rw [← this, List.map_map]; rfl
    rw [e]
    simp [rD]
end Rv

/-! P10: chosen items; common parts of ranges. -/
namespace Rv
open PySem L2 Lin
theorem intsOf_nD (l : List Nat) : intsOf (l.map nD) = some (l.map fun n : Nat => (n : Int)) := intsOf_fun l _
theorem map_nD (r : List Nat) : (r.map fun n : Nat => (n : Int)).map PyData.int = r.map nD := by rw [List.map_map]; rfl
theorem sortN (l : List Nat) : ∃ r : List Nat, sortI (l.map fun n : Nat => (n : Int)) = r.map (fun n : Nat => (n : Int)) ∧ r.Perm l ∧ r.Pairwise (· ≤ ·) := by
  have p := sortI_perm (l.map fun n : Nat => (n : Int))
  have o := sortI_sorted (l.map fun n : Nat => (n : Int))
  refine ⟨(sortI (l.map fun n : Nat => (n : Int))).map Int.toNat, ?_, ?_, ?_⟩
  · rw [List.map_map]
    have : ∀ x ∈ sortI (l.map fun n : Nat => (n : Int)), x = ((fun n : Nat => (n : Int)) ∘ Int.toNat) x := by
      intro x hx
      obtain ⟨n, _, rfl⟩ := List.mem_map.mp (p.mem_iff.mp hx)
      simp
    conv => lhs; rw [← List.map_id (sortI (l.map fun n : Nat => (n : Int)))]
    exact List.map_congr_left this
  · have q := p.map Int.toNat
    rw [List.map_map] at q
    have e : l.map (Int.toNat ∘ fun n : Nat => (n : Int)) = l := by
      conv => rhs; rw [← List.map_id l]
      exact List.map_congr_left fun x _ => by simp
    rw [e] at q
    exact q
  · exact List.pairwise_map.mpr (o.imp fun h => by omega)
theorem asc_of {l r : List Nat} (p : r.Perm l) (o : r.Pairwise (· ≤ ·)) (n : l.Nodup) : r.Pairwise (· < ·) := by
  have n2 : r.Nodup := p.nodup_iff.mpr n
  unfold List.Nodup at n2
  exact (o.and n2).imp fun h => by omega
theorem eqvAll_nil_r (l : List D) : PyData.eqvAll l [] = decide (l = []) := by cases l <;> simp
theorem m_law_chosen_eq {hs : List Int} {w : Int} (g : Good hs w) (s : Sr) {most : Int} (m0 : 1 ≤ most) (m1 : most ≤ 6) : ∃ (r : List Nat) (s' : Sr), m_law_chosen s.d [vD hs w, .int most] = .ok (rD r, s'.d) ∧ Asc hs.length r ∧ r.length ≤ most := by
  have key : ∃ d es, m_law_chosen s.d [vD hs w, .int most] = .ok (d, es) ∧ ∃ (r : List Nat) (s' : Sr), d = rD r ∧ es = s'.d ∧ Asc hs.length r ∧ r.length ≤ most := by
    refine fnM_post rfl ?_
    unfold c_law_chosen
    have a1 : (0 : Int) < hs.length := by have := g.l1; omega
    have a2 : (hs.length : Int) < 1073741824 := by have := g.l2; omega
    have ep : ∀ s : Sr, m_law_pick s.d [.int hs.length] = .ok (.int (pk s hs.length), (nx s hs.length).d) := fun s => m_law_pick_eq s a1 a2
    have b1 : (0 : Int) < most := by omega
    have b2 : most < 1073741824 := by omega
    have c0 := pk0 s a1
    have c1 := pk1 s a1
    have d0 := pk0 (nx s hs.length) b1
    have d1 := pk1 (nx s hs.length) b1
    obtain ⟨st, est⟩ : ∃ st, pk s hs.length = st := ⟨_, rfl⟩
    rw [est] at c0 c1
    obtain ⟨cnt, ecnt⟩ : ∃ cnt, pk (nx s hs.length) most = cnt := ⟨_, rfl⟩
    rw [ecnt] at d0 d1
    simp [ep, b1, b2, est, ecnt]
    refine ⟨by omega, ?_⟩
    refine loop_gen (fun i τ => ∃ (s' : Sr) (l : List Nat) (x5 x6 : Lin.Slot), τ = [.own (some 0) s'.d, .val (vD hs w), .val (.int most), .val (.int st), .own none (l.map nD), x5, x6] ∧ l.length ≤ i ∧ l.Nodup ∧ (∀ x ∈ l, x < hs.length) ∧ (0 < i → l ≠ [])) ⟨_, [], _, _, rfl, by simp, by simp, by simp, by simp⟩ ?_ ?_
    · rintro i d τ hi ⟨s', l, x5, x6, rfl, hll, hnd, hm, hne⟩
      obtain ⟨hi, rfl⟩ := (rngD_get0 _ _ _).mp hi
      have p0 := pk0 s' a1
      have p1 := pk1 s' a1
      obtain ⟨m, em, hm2⟩ := two_at (nx s' hs.length) (pk s' hs.length) (min ((hs.length : Int) - 1) (st + i))
      have m0 : 0 ≤ m := by omega
      have m1 : m < hs.length := by omega
      obtain ⟨j, rfl⟩ := Int.eq_ofNat_of_zero_le m0
      have nn : notInD (.int (j : Int)) (.list (l.map nD)) = some (.bool (!decide (j ∈ l))) := notInD_nl j l
      have lz : l.length ≤ 999999 := by omega
      by_cases c : j ∈ l
      · rw [decide_eq_true c] at nn
        simp [ep, em, nn]
        refine ⟨_, l, ⟨rfl, rfl⟩, by omega, hnd, hm, ?_⟩
        rintro rfl
        simp at c
      · rw [decide_eq_false c] at nn
        simp [ep, em, nn, lz]
        refine ⟨_, l ++ [j], ⟨rfl, by simp [nD]⟩, by simp; omega, ?_, ?_, by simp⟩
        · rw [List.nodup_append]
          exact ⟨hnd, by simp, fun a ha b hb e => c (by simp at hb; rw [← hb, ← e]; exact ha)⟩
        · intro x hx
          rcases List.mem_append.mp hx with hx | hx
          · exact hm x hx
          · simp at hx; omega
    · rintro τ ⟨s', l, x5, x6, rfl, hll, hnd, hm, hne⟩
      obtain ⟨r, er, pr, or⟩ := sortN l
      have hlen : 0 < (rngD 0 (1 + cnt)).length := by simp; omega
      have hne := hne hlen
      have hll : l.length ≤ most := by simp at hll; omega
      have hrl := pr.length_eq
      have e2 : (r.map fun n : Nat => (n : Int)).map PyData.int = r.map nD := map_nD r
      simp [intsOf_nD, er]
      refine ⟨r, ?_, ⟨_, rfl⟩, ⟨?_, by omega, fun i hi => hm i (pr.mem_iff.mp hi), asc_of pr or hnd⟩, by omega⟩
      · simp [rD, nD]
      · rintro rfl
        exact hne (by simpa using pr.symm)
  obtain ⟨d, es, e, r, s', rfl, rfl, h⟩ := key
  exact ⟨r, s', e, h⟩
/-! common parts -/
theorem com_iff {hs : List Int} {w : Int} {r : List Nat} (hn : r ≠ []) (p : Int) : (max1 (r.map fun i => (rngN hs w i).1) ≤ p ∧ p ≤ min1 (r.map fun i => (rngN hs w i).2)) ↔ ∀ i ∈ r, (rngN hs w i).1 ≤ p ∧ p ≤ (rngN hs w i).2 := by
  have n1 : (r.map fun i => (rngN hs w i).1) ≠ [] := by simpa using hn
  have n2 : (r.map fun i => (rngN hs w i).2) ≠ [] := by simpa using hn
  obtain ⟨a1, a2⟩ := max1_mem n1
  obtain ⟨b1, b2⟩ := min1_mem n2
  constructor
  · intro ⟨h1, h2⟩ i hi
    have := a2 _ (List.mem_map.mpr ⟨i, hi, rfl⟩)
    have := b2 _ (List.mem_map.mpr ⟨i, hi, rfl⟩)
    omega
  · intro h
    obtain ⟨i, hi, e⟩ := List.mem_map.mp a1
    obtain ⟨j, hj, e2⟩ := List.mem_map.mp b1
    have := h i hi
    have := h j hj
    omega
end Rv

/-! P11: numbers as ranges; windows for items. -/
namespace Rv
open PySem L2 Lin
theorem com_some' {hs : List Int} {w : Int} {r : List Nat} {q : Int × Int} (h : comN hs w r = some q) : q = (max1 (r.map fun i => (rngN hs w i).1), min1 (r.map fun i => (rngN hs w i).2)) ∧ q.1 ≤ q.2 := by
  unfold comN at h
  split at h
  · cases h; exact ⟨rfl, by assumption⟩
  · cases h
theorem com_spec' {hs : List Int} {w : Int} {r : List Nat} {q : Int × Int} (hn : r ≠ []) (h : comN hs w r = some q) (p : Int) : (q.1 ≤ p ∧ p ≤ q.2) ↔ ∀ i ∈ r, (rngN hs w i).1 ≤ p ∧ p ≤ (rngN hs w i).2 := by
  rw [(com_some' h).1]; exact com_iff hn p
theorem helly' {hs : List Int} {w : Int} {r : List Nat} (hn : r ≠ []) (h : ∀ i ∈ r, ∀ j ∈ r, (rngN hs w i).1 ≤ (rngN hs w j).2) : comN hs w r ≠ none := by
  intro e
  have n1 : (r.map fun i => (rngN hs w i).1) ≠ [] := by simpa using hn
  have n2 : (r.map fun i => (rngN hs w i).2) ≠ [] := by simpa using hn
  obtain ⟨a1, a2⟩ := max1_mem n1
  obtain ⟨b1, b2⟩ := min1_mem n2
  obtain ⟨i, hi, e1⟩ := List.mem_map.mp a1
  obtain ⟨j, hj, e2⟩ := List.mem_map.mp b1
  have := h i hi j hj
  unfold comN at e
  split at e
  · cases e
  · omega
theorem asc_two' {n i j : Nat} (h : i < j) (hj : j < n) : Asc n [i, j] := ⟨by simp, by simp, by intro x hx; simp at hx; omega, by simp [h]⟩
@[simp] theorem notNone_oD' (p : Int × Int) : notNoneD (pD p) .none = some (.bool true) := rfl
@[simp] theorem isNone_oD' (p : Int × Int) : isNoneD (pD p) .none = some (.bool false) := rfl
theorem notNone_o (x : Option (Int × Int)) : notNoneD (oD x) .none = some (.bool x.isSome) := by cases x <;> rfl
/-! ### ascending numbers as ranges -/
def stepR (f : List (Int × Int)) (n : Nat) : List (Int × Int) := match f.getLast? with
  | some q => if q.2 = (n : Int) - 1 then f.dropLast ++ [(q.1, (n : Int))] else f ++ [((n : Int), (n : Int))]
  | none => [((n : Int), (n : Int))]
def rangesN (l : List Nat) : List (Int × Int) := l.foldl stepR []
theorem rangesN_snoc (m : List Nat) (n : Nat) : rangesN (m ++ [n]) = stepR (rangesN m) n := by simp [rangesN]
theorem stepR_nil (n : Nat) : stepR [] n = [((n : Int), (n : Int))] := rfl
theorem stepR_snoc (f : List (Int × Int)) (q : Int × Int) (n : Nat) : stepR (f ++ [q]) n = if q.2 = (n : Int) - 1 then f ++ [(q.1, (n : Int))] else f ++ [q] ++ [((n : Int), (n : Int))] := by
  unfold stepR
  simp
theorem stepR_len (f : List (Int × Int)) (n : Nat) : (stepR f n).length ≤ f.length + 1 := by
  rcases List.eq_nil_or_concat f with rfl | ⟨g, q, rfl⟩
  · simp [stepR_nil]
  · rw [List.concat_eq_append, stepR_snoc]
    split <;> simp
theorem rangesN_len (l : List Nat) : (rangesN l).length ≤ l.length := by
  have key : ∀ (l : List Nat) (f : List (Int × Int)), (l.foldl stepR f).length ≤ f.length + l.length := by
    intro l
    induction l with
    | nil => intro f; simp
    | cons n l ih =>
      intro f
      have := ih (stepR f n)
      have := stepR_len f n
      rw [List.foldl_cons, List.length_cons]
      omega
  simpa [rangesN] using key l []
theorem rangesN_run (a : Nat) : ∀ k : Nat, rangesN (List.range' a (k + 1)) = [((a : Int), ((a + k : Nat) : Int))]
  | 0 => by simp [rangesN, stepR_nil]
  | k + 1 => by
    rw [List.range'_concat, rangesN_snoc, rangesN_run a k]
    have := stepR_snoc [] ((a : Int), ((a + k : Nat) : Int)) (a + 1 * (k + 1))
    rw [List.nil_append] at this
    rw [this, if_pos (by simp only []; omega)]
    simp
theorem m_law_ranges_eq {l : List Nat} (hl : l.length ≤ 900) : m_law_ranges [.list (l.map nD)] = .ok ((rangesN l).map pD) := by
  refine fnO_eq rfl ?_
  unfold c_law_ranges
  simp
  refine loop_map l nD rfl (fun m τ => ∃ x2, τ = [.val (.list (l.map nD)), .own none ((rangesN m).map pD), x2]) ⟨_, rfl⟩ ?_ ?_
  · rintro m a q τ e ⟨x2, rfl⟩
    have ml : m.length ≤ 900 := by
      have := congrArg List.length e
      simp at this
      omega
    have rl := rangesN_len m
    rw [rangesN_snoc]
    rcases List.eq_nil_or_concat (rangesN m) with h | ⟨f, p, h⟩
    · rw [h, stepR_nil]
      simp [nD, pD]
    · rw [List.concat_eq_append] at h
      rw [h, stepR_snoc]
      rw [h] at rl
      have ne : ¬ ((f ++ [p]).map pD = []) := by simp
      have a1 : atI ((f ++ [p]).map pD) (-1) = some (pD p) := by rw [atI_neg1]; simp
      have a2 : atI (f.map pD ++ [pD p]) (-1) = some (pD p) := by rw [atI_neg1]; simp
      have i1 : ixN (f.length + 1) (-1) = some f.length := by
        unfold ixN
        rw [if_neg (by decide), if_pos (by omega)]
        congr 1
        omega
      have fl : f.length + 1 ≤ 999999 := by simp at rl; omega
      by_cases c : p.2 = (a : Int) - 1
      · simp [nD, eqvAll_nil_r, a1, a2, c, i1]
        refine ⟨?_, rfl⟩
        rintro d (⟨a', b', -, rfl⟩ | rfl) <;> simp
      · simp [nD, eqvAll_nil_r, a1, a2, c]
        refine ⟨?_, by omega, rfl⟩
        rintro d (⟨a', b', -, rfl⟩ | rfl) <;> simp
  · rintro τ ⟨x2, rfl⟩
    simp
theorem m_ranges_of_eq {l : List Nat} (hl : l.length ≤ 900) : m_ranges_of [.list (l.map nD)] = .ok ((rangesN l).map pD) := m_law_ranges_eq hl
/-! ### windows -/
def winL : List Nat := List.range' 1 500
theorem rngD_win : rngD 1 501 = winL.map nD := by
  unfold rngD winL
  rw [List.range'_eq_map_range, List.map_map]
  refine List.map_congr_left fun k _ => ?_
  show PyData.int (1 + (k : Int)) = PyData.int ((1 + k : Nat) : Int)
  congr 1
theorem winL_mem {w : Nat} : w ∈ winL ↔ 1 ≤ w ∧ w ≤ 500 := by unfold winL; rw [List.mem_range'_1]; omega
theorem winL_len : winL.length = 500 := by simp [winL]
theorem filter_win_ge {a : Nat} (P : Nat → Bool) (h1 : 1 ≤ a) (h : ∀ w, P w = true ↔ a ≤ w) : winL.filter P = if a ≤ 500 then List.range' a (501 - a) else [] := by
  unfold winL
  by_cases c : a ≤ 500
  · rw [if_pos c]
    have e : List.range' 1 500 = List.range' 1 (a - 1) ++ List.range' a (501 - a) := by
      have := List.range'_append (s := 1) (m := a - 1) (n := 501 - a) (step := 1)
      rw [show 1 + 1 * (a - 1) = a by omega, show a - 1 + (501 - a) = 500 by omega] at this
      exact this.symm
    rw [e, List.filter_append]
    have f1 : (List.range' 1 (a - 1)).filter P = [] := List.filter_eq_nil_iff.mpr fun x hx => by
      have := List.mem_range'_1.mp hx
      rw [h x]; omega
    have f2 : (List.range' a (501 - a)).filter P = List.range' a (501 - a) := List.filter_eq_self.mpr fun x hx => by
      have := List.mem_range'_1.mp hx
      rw [h x]; omega
    rw [f1, f2]
    rfl
  · rw [if_neg c]
    exact List.filter_eq_nil_iff.mpr fun x hx => by
      have := List.mem_range'_1.mp hx
      rw [h x]; omega
theorem ranges_win_ge {a : Nat} (P : Nat → Bool) (h1 : 1 ≤ a) (h : ∀ w, P w = true ↔ a ≤ w) : rangesN (winL.filter P) = if a ≤ 500 then [((a : Int), 500)] else [] := by
  rw [filter_win_ge P h1 h]
  by_cases c : a ≤ 500
  · rw [if_pos c, if_pos c]
    have := rangesN_run a (500 - a)
    rw [show 500 - a + 1 = 501 - a by omega] at this
    rw [this]
    congr 2
    omega
  · rw [if_neg c, if_neg c]; rfl
theorem good_w {hs : List Int} {w : Int} (g : Good hs w) {v : Nat} (h : v ∈ winL) : Good hs v := by
  have := winL_mem.mp h
  exact ⟨g.l1, g.l2, g.h1, g.h2, by omega, by omega⟩
theorem m_require_heights_eq {hs : List Int} {w : Int} (g : Good hs w) : m_require_heights [hD hs] = .ok .none := by
  refine fnV_eq rfl ?_
  unfold c_require_heights
  simp [m_is_heights_good g.l1 g.l2 g.h1 g.h2]
def togB (hs : List Int) (r : List Nat) (w : Nat) : Bool := (comN hs w r).isSome
theorem m_windows_together_eq {hs : List Int} {w : Int} {r : List Nat} (g : Good hs w) (a : Asc hs.length r) : m_windows_together [hD hs, rD r] = .ok ((rangesN (winL.filter (togB hs r))).map pD) := by
  refine fnO_eq rfl ?_
  unfold c_windows_together
  have rq : m_require_items [.tuple [hD hs, .int 1], rD r] = .ok .none := m_require_items_eq (w := 1) a
  have rle := a.le
  simp [m_require_heights_eq g, rq, rngD_win]
  refine lc_map winL nD (fun v => vD hs v) rfl (by rw [winL_len]; omega) (fun v hv => ?_) ?_
  · simp [nD, vD]
  · simp
    refine lc_filter winL (fun v => vD hs v) (togB hs r) nD rfl (by rw [winL_len]; omega) (fun v hv => ?_) ?_
    · have cm := m_common_eq (hs := hs) (w := v) a.ne (by omega) a.lt
      by_cases c : togB hs r v = true
      · have c' := c
        unfold togB at c'
        simp [cm, notNone_o, c, c', nD]
      · have c' := c
        unfold togB at c'
        simp [cm, notNone_o, c, c']
    · have fl : (winL.filter (togB hs r)).length ≤ 900 := Nat.le_trans (List.length_filter_le _ _) (by rw [winL_len]; omega)
      simp [m_ranges_of_eq fl]
/-! ### the span of the items -/
theorem begN_succ {hs : List Int} {i : Nat} (h : i < hs.length) : begN hs (i + 1) = begN hs i + hs.getD i 0 := by
  unfold begN
  have e1 : hs.getD i 0 = hs[i] := by simp [List.getD, h]
  rw [List.take_succ, List.getElem?_eq_getElem h, List.sum_append, e1]
  simp
theorem begN_mono {hs : List Int} {w : Int} (g : Good hs w) {i j : Nat} (h : i ≤ j) (hj : j ≤ hs.length) : begN hs i ≤ begN hs j := by
  induction j with
  | zero => have : i = 0 := by omega
            subst this; omega
  | succ j ih =>
    by_cases e : i = j + 1
    · subst e; omega
    · have := ih (by omega) (by omega)
      have := begN_succ (hs := hs) (i := j) (by omega)
      have := begN_le g (i := j) (by omega)
      omega
theorem span_iff {hs : List Int} {w w0 : Int} {r : List Nat} (g0 : Good hs w0) (h1 : 1 ≤ w) {i j : Nat} (ij : i < j) (hi : i ∈ r) (hj : j ∈ r) (hl : ∀ x ∈ r, x < hs.length) (hr : ∀ x ∈ r, i ≤ x ∧ x ≤ j) : (comN hs w r).isSome = true ↔ begN hs j + hs.getD j 0 - begN hs i ≤ w := by
  have ne : r ≠ [] := by rintro rfl; simp at hi
  have li := hl i hi
  have lj := hl j hj
  have bi := begN_le g0 li
  have bj := begN_le g0 lj
  have si := begN_succ li
  have mij := begN_mono g0 (show i + 1 ≤ j by omega) (by omega)
  constructor
  · intro h
    obtain ⟨q, hq⟩ := Option.isSome_iff_exists.mp h
    have le := (com_some' hq).2
    have k := (com_spec' ne hq q.1).mp ⟨by omega, le⟩
    have k1 := k i hi
    have k2 := k j hj
    unfold rngN at k1 k2
    simp only at k1 k2
    omega
  · intro h
    cases e : comN hs w r with
    | some q => rfl
    | none =>
      exfalso
      refine helly' ne (fun a ha b hb => ?_) e
      have la := hl a ha
      have lb := hl b hb
      have ba := begN_le g0 la
      have bb := begN_le g0 lb
      have ra := hr a ha
      have rb := hr b hb
      have m1 := begN_mono g0 (show i ≤ b by omega) (by omega)
      have m2 := begN_mono g0 (show a + 1 ≤ j + 1 by omega) (by omega)
      have sa := begN_succ la
      have sj := begN_succ lj
      have m3 := begN_mono g0 (show i ≤ a by omega) (by omega)
      unfold rngN topN
      simp only
      omega
theorem one_some {hs : List Int} {w w0 : Int} (g0 : Good hs w0) (h1 : 1 ≤ w) {i : Nat} (li : i < hs.length) : (comN hs w [i]).isSome = true := by
  cases e : comN hs w [i] with
  | some q => rfl
  | none =>
    exfalso
    refine helly' (by simp) (fun a ha b hb => ?_) e
    simp at ha hb
    subst ha hb
    have bi := begN_le g0 li
    unfold rngN topN
    simp only
    omega
end Rv

/-! P0d: what the words about dicts end in. -/
namespace Lin
open PySem L2
def dcs (x : Option Lin.Slot) (Q : Option Nat → Bool → List (D × D) → Prop) : Prop := match x with
  | some (.own t (.dct b kvs)) => Q t b kvs
  | _ => False
structure dctK (x : Option Lin.Slot) [Q : Hold (Option Nat → Bool → List (D × D) → Prop)] : Prop where
  go : dcs x Q.val
theorem dctK_def (x : Option Lin.Slot) (Q : Hold (Option Nat → Bool → List (D × D) → Prop)) : @dctK x Q = dcs x Q.val := propext ⟨fun h => h.go, fun h => ⟨h⟩⟩
@[simp] theorem dctK_own (t : Option Nat) (b : Bool) (kvs : List (D × D)) (Q : Hold (Option Nat → Bool → List (D × D) → Prop)) : @dctK (some (.own t (.dct b kvs))) Q = Q.val t b kvs := dctK_def _ _
theorem pst_dct {α : Type} (o : Option Lin.Slot) (f : Option Nat → Bool → List (D × D) → R α) (Q : α → Prop) : pst (match o with | some (.own t (.dct b kvs)) => f t b kvs | _ => .stuck) Q = dcs o fun t b kvs => pst (f t b kvs) Q := by
  rcases o with _ | s
  · rfl
  rcases s with _ | _ | ⟨u, c⟩
  · rfl
  · rfl
  cases c <;> rfl
@[simp ↓] theorem s_mvC' (i : Nat) (τ : Ev) (Q : Hold (Cont × Ev → Prop)) : @post _ (mvC i τ) Q = (@owncK (τ[i]?) ⟨fun _ c => Q.val (c, τ.set i .free)⟩) := s_mvC i τ Q
@[simp ↓] theorem s_dnewC (b : Bool) (τ : Ev) (Q : Hold (Cont × Ev → Prop)) : @post _ (dnewC b τ) Q = Q.val (.dct b [], τ) := by
  simp only [post_def]; rfl
@[simp ↓] theorem s_dispC (b : Bool) (ck cv : CE) (τ : Ev) (Q : Hold (Cont × Ev → Prop)) : @post _ (dispC b ck cv τ) Q = @post _ (ck τ) ⟨fun p => @post _ (cv p.2) ⟨fun q => isKey b p.1 = true ∧ Q.val (.dct b [(p.1, q.1)], q.2)⟩⟩ := by
  simp only [post_def, dispC, pst_bind, pst_ok, pst_stuck, pst_ite, if_false']
@[simp ↓] theorem s_frzDC (c : CD) (τ : Ev) (Q : Hold (D × Ev → Prop)) : @post _ (frzDC c τ) Q = @post _ (c τ) ⟨fun p => match p.1 with
  | .dct _ kvs => Q.val (.dict kvs, p.2)
  | _ => False⟩ := by
  simp only [post_def, frzDC, pst_bind]
  refine congrArg (pst _) (funext fun p => ?_)
  obtain ⟨d, t⟩ := p
  cases d <;> rfl
def dfs (x : Option Lin.Slot) (Q : List (D × D) → Prop) : Prop := match x with
  | some (.own _ (.dct _ kvs)) => Q kvs
  | some (.val (.dict kvs)) => Q kvs
  | _ => False
structure dfrK (x : Option Lin.Slot) [Q : Hold (List (D × D) → Prop)] : Prop where
  go : dfs x Q.val
theorem dfrK_def (x : Option Lin.Slot) (Q : Hold (List (D × D) → Prop)) : @dfrK x Q = dfs x Q.val := propext ⟨fun h => h.go, fun h => ⟨h⟩⟩
@[simp] theorem dfrK_own (t : Option Nat) (b : Bool) (kvs : List (D × D)) (Q : Hold (List (D × D) → Prop)) : @dfrK (some (.own t (.dct b kvs))) Q = Q.val kvs := dfrK_def _ _
@[simp] theorem dfrK_val (kvs : List (D × D)) (Q : Hold (List (D × D) → Prop)) : @dfrK (some (.val (.dict kvs))) Q = Q.val kvs := dfrK_def _ _
@[simp ↓] theorem s_preDS (i : Nat) (c : CS) (τ : Ev) (Q : Hold (Lin.Flow × Ev → Prop)) : @Runs ⟨preDS i c⟩ τ Q = @dfrK (τ[i]?) ⟨fun kvs => @Runs ⟨c⟩ (τ.set i (.val (.dict kvs))) Q⟩ := by
  simp only [runs_def, dfrK_def]
  show pst (preDS i c τ) _ = _
  unfold preDS
  generalize τ[i]? = o1
  rcases o1 with _ | s1
  · rfl
  rcases s1 with _ | d1 | ⟨t1, c1⟩
  · rfl
  · cases d1 <;> rfl
  rcases c1 with c1 | ⟨b1, k1⟩
  · rfl
  · rfl
@[simp ↓] theorem s_dget2Own (i : Nat) (ck cx : CE) (τ : Ev) (Q : Hold (D × Ev → Prop)) : @post _ (dget2Own i ck cx τ) Q = @dctK (τ[i]?) ⟨fun _ _ _ => @post _ (ck τ) ⟨fun p => @post _ (cx p.2) ⟨fun q => @dctK (q.2[i]?) ⟨fun _ b kvs => isKey b p.1 = true ∧ Q.val ((findD kvs p.1).getD q.1, q.2)⟩⟩⟩⟩ := by
  simp only [post_def, dctK_def]
  unfold dget2Own
  generalize τ[i]? = o1
  rcases o1 with _ | s1
  · rfl
  rcases s1 with _ | d1 | ⟨t1, c1⟩
  · rfl
  · rfl
  rcases c1 with c1 | ⟨b1, k1⟩
  · rfl
  show pst ((ck τ).bind _) _ = pst (ck τ) _
  simp only [pst_bind]
  refine congrArg (pst _) (funext fun p => congrArg (pst _) (funext fun q => ?_))
  obtain ⟨e, u⟩ := q
  simp only []
  generalize u[i]? = o2
  rcases o2 with _ | s2
  · rfl
  rcases s2 with _ | d2 | ⟨t2, c2⟩
  · rfl
  · rfl
  rcases c2 with c2 | ⟨b2, k2⟩
  · rfl
  show pst (if isKey b2 p.1 = true then _ else _) _ = (_ ∧ _)
  simp only [pst_ite, pst_ok, pst_stuck, if_false']
@[simp ↓] theorem s_dixOwn (i : Nat) (ck : CE) (τ : Ev) (Q : Hold (D × Ev → Prop)) : @post _ (dixOwn i ck τ) Q = @dctK (τ[i]?) ⟨fun _ _ _ => @post _ (ck τ) ⟨fun p => @dctK (p.2[i]?) ⟨fun _ b kvs => isKey b p.1 = true ∧ @optK _ (findD kvs p.1) ⟨fun z => Q.val (z, p.2)⟩⟩⟩⟩ := by
  simp only [post_def, dctK_def, optK_def]
  unfold dixOwn
  generalize τ[i]? = o1
  rcases o1 with _ | s1
  · rfl
  rcases s1 with _ | d1 | ⟨t1, c1⟩
  · rfl
  · rfl
  rcases c1 with c1 | ⟨b1, k1⟩
  · rfl
  show pst ((ck τ).bind _) _ = pst (ck τ) _
  simp only [pst_bind]
  refine congrArg (pst _) (funext fun p => ?_)
  obtain ⟨e, u⟩ := p
  simp only []
  generalize u[i]? = o2
  rcases o2 with _ | s2
  · rfl
  rcases s2 with _ | d2 | ⟨t2, c2⟩
  · rfl
  · rfl
  rcases c2 with c2 | ⟨b2, k2⟩
  · rfl
  show pst (if isKey b2 e = true then _ else _) _ = (_ ∧ _)
  simp only [pst_ite, pst_bind, pst_opt, pst_ok, pst_stuck, if_false']
@[simp ↓] theorem s_dinOwn (neg : Bool) (i : Nat) (ck : CE) (τ : Ev) (Q : Hold (D × Ev → Prop)) : @post _ (dinOwn neg i ck τ) Q = @post _ (ck τ) ⟨fun p => @dctK (p.2[i]?) ⟨fun _ b kvs => isKey b p.1 = true ∧ Q.val (.bool (xor neg (findD kvs p.1).isSome), p.2)⟩⟩ := by
  simp only [post_def, dctK_def]
  unfold dinOwn
  simp only [pst_bind]
  refine congrArg (pst _) (funext fun p => ?_)
  obtain ⟨e, u⟩ := p
  simp only []
  generalize u[i]? = o2
  rcases o2 with _ | s2
  · rfl
  rcases s2 with _ | d2 | ⟨t2, c2⟩
  · rfl
  · rfl
  rcases c2 with c2 | ⟨b2, k2⟩
  · rfl
  show pst (if isKey b2 e = true then _ else _) _ = (_ ∧ _)
  simp only [pst_ite, pst_ok, pst_stuck, if_false']
@[simp ↓] theorem s_dget2F (cd ck cx : CE) (τ : Ev) (Q : Hold (D × Ev → Prop)) : @post _ (dget2F cd ck cx τ) Q = @post _ (cd τ) ⟨fun p => (noDct p.1 = false ∧ tagged p.1 = false) ∧ @post _ (ck p.2) ⟨fun q => @post _ (cx q.2) ⟨fun t => @optK _ (dgetD p.1 q.1 t.1) ⟨fun z => Q.val (z, t.2)⟩⟩⟩⟩ := by
  simp only [post_def, optK_def]
  unfold dget2F
  simp only [pst_bind]
  refine congrArg (pst _) (funext fun p => ?_)
  rw [pst_ite]
  by_cases h : noDct p.1 = true ∨ tagged p.1 = true
  · have h2 : ¬ (noDct p.1 = false ∧ tagged p.1 = false) := by
      rcases h with h | h <;> simp [h]
    simp [h, h2, pst_stuck]
  · have h' : noDct p.1 = false ∧ tagged p.1 = false := by simpa [not_or] using h
    simp only [h', or_self, and_self, pst_bind, pst_opt, pst_ok, Bool.false_eq_true, if_false, true_and]
@[simp ↓] theorem s_dputS (i : Nat) (ck cv : CE) (τ : Ev) (Q : Hold (Lin.Flow × Ev → Prop)) : @Runs ⟨dputS i ck cv⟩ τ Q = @post _ (cv τ) ⟨fun p => @dctK (p.2[i]?) ⟨fun _ _ _ => @post _ (ck p.2) ⟨fun q => @dctK (q.2[i]?) ⟨fun t b kvs => (isKey b q.1 = true ∧ kvs.length < 1000000) ∧ Q.val (.next, q.2.set i (.own t (.dct b (putD kvs q.1 p.1))))⟩⟩⟩⟩ := by
  simp only [post_def, dctK_def, runs_def]
  show pst (dputS i ck cv τ) _ = _
  unfold dputS
  simp only [pst_bind]
  refine congrArg (pst _) (funext fun p => ?_)
  obtain ⟨e, u⟩ := p
  simp only []
  generalize u[i]? = o1
  rcases o1 with _ | s1
  · rfl
  rcases s1 with _ | d1 | ⟨t1, c1⟩
  · rfl
  · rfl
  rcases c1 with c1 | ⟨b1, k1⟩
  · rfl
  show pst ((ck u).bind _) _ = pst (ck u) _
  simp only [pst_bind]
  refine congrArg (pst _) (funext fun q => ?_)
  obtain ⟨e2, v⟩ := q
  simp only []
  generalize v[i]? = o2
  rcases o2 with _ | s2
  · rfl
  rcases s2 with _ | d2 | ⟨t2, c2⟩
  · rfl
  · rfl
  rcases c2 with c2 | ⟨b2, k2⟩
  · rfl
  show pst (if isKey b2 e2 = true ∧ _ then _ else _) _ = (_ ∧ _)
  simp only [pst_ite, pst_ok, pst_stuck, if_false']
@[simp ↓] theorem s_keysI (c : CE) (τ : Ev) (Q : Hold (List D × Ev → Prop)) : @post _ (keysI c τ) Q = @post _ (c τ) ⟨fun p => tagged p.1 = false ∧ @optK _ (keysOf p.1) ⟨fun j => Q.val (j, p.2)⟩⟩ := by
  simp only [post_def, optK_def, keysI, pst_bind]
  refine congrArg (pst _) (funext fun p => ?_)
  rw [pst_ite]
  by_cases h : tagged p.1 = true
  · simp [h, pst_stuck]
  · have h' : tagged p.1 = false := by simpa using h
    simp only [h', Bool.false_eq_true, if_false, pst_bind, pst_opt, pst_ok, true_and]
@[simp ↓] theorem s_ownCM (c : CD) (r : CM) (τ : Ev) (Q : Hold (List Lin.Slot × Ev → Prop)) : @post _ (ownCM c r τ) Q = @post _ (c τ) ⟨fun p => @post _ (r p.2) ⟨fun q => Q.val (.own none p.1 :: q.1, q.2)⟩⟩ := by
  simp only [post_def, ownCM, pst_bind, pst_ok]
@[simp ↓] theorem s_dsortOwn (i : Nat) (τ : Ev) (Q : Hold (List D × Ev → Prop)) : @post _ (dsortOwn i τ) Q = @dctK (τ[i]?) ⟨fun _ b kvs => b = true ∧ Q.val ((sortP (kvs.map fun p => kp p.1)).map pairD, τ)⟩ := by
  simp only [post_def, dctK_def]
  unfold dsortOwn
  generalize τ[i]? = o1
  rcases o1 with _ | s1
  · rfl
  rcases s1 with _ | d1 | ⟨t1, c1⟩
  · rfl
  · rfl
  rcases c1 with c1 | ⟨b1, k1⟩
  · rfl
  cases b1
  · show False = (false = true ∧ _)
    simp
  · show Q.val _ = (true = true ∧ _)
    simp
@[simp] theorem noDct_dict (kvs : List (D × D)) : noDct (.dict kvs) = false := rfl
@[simp] theorem isKey_f (i : Int) : isKey false (.int i) = true := rfl
@[simp] theorem isKey_t (i j : Int) : isKey true (.tuple [.int i, .int j]) = true := rfl
end Lin

/-! P12: dicts from ints to ints; the greatest distances. -/
namespace Rv
open PySem L2 Lin
def iD (l : List (Int × Int)) : List (D × D) := l.map fun p => (.int p.1, .int p.2)
def getI (l : List (Int × Int)) (q : Int) : Option Int := (l.find? fun p => decide (p.1 = q)).map (·.2)
def putI (l : List (Int × Int)) (q v : Int) : List (Int × Int) := if (l.any fun p => decide (p.1 = q)) = true then l.map (fun p => if p.1 = q then (p.1, v) else p) else l ++ [(q, v)]
theorem keyB_int (a b : Int) : keyB (.int a) (.int b) = decide (a = b) := by
  simp [keyB]
theorem find_iD (l : List (Int × Int)) (q : Int) : findD (iD l) (.int q) = (getI l q).map PyData.int := by
  induction l with
  | nil => rfl
  | cons p l ih =>
    simp only [findD, iD, getI, List.map_cons, List.find?_cons, keyB_int] at ih ⊢
    by_cases h : p.1 = q
    · simp [h]
    · simp only [h, decide_false]; exact ih
theorem put_iD (l : List (Int × Int)) (q v : Int) : putD (iD l) (.int q) (.int v) = iD (putI l q v) := by
  unfold putD putI
  have e : (iD l).any (fun p => keyB p.1 (.int q)) = l.any fun p => decide (p.1 = q) := by
    simp [iD, List.any_map, Function.comp_def, keyB_int]
  rw [e]
  by_cases h : (l.any fun p => decide (p.1 = q)) = true
  · rw [if_pos h, if_pos h]
    simp only [iD, List.map_map]
    refine List.map_congr_left fun p _ => ?_
    simp only [Function.comp, keyB_int]
    by_cases k : p.1 = q <;> simp [k]
  · rw [if_neg h, if_neg h]
    simp [iD]
@[simp] theorem tagged_iD (l : List (Int × Int)) : tagged (.dict (iD l)) = false := tagged_map (fun _ _ h => by cases h) l
theorem keys_iD (l : List (Int × Int)) : (iD l).map (·.1) = (l.map (·.1)).map PyData.int := by simp [iD]
theorem getI_put (l : List (Int × Int)) (q v r : Int) : getI (putI l q v) r = if r = q then some v else getI l r := by
  unfold putI
  by_cases h : (l.any fun p => decide (p.1 = q)) = true
  · rw [if_pos h]
    induction l with
    | nil => simp at h
    | cons p l ih =>
      by_cases hp : p.1 = q
      · by_cases hr : r = q
        · subst hr
          simp [getI, hp]
        · have e1 : ¬ q = r := fun e => hr e.symm
          simp only [getI, List.map_cons, hp, if_true, List.find?_cons, e1, decide_false, if_neg hr]
          clear ih h
          induction l with
          | nil => rfl
          | cons z l ih2 =>
            by_cases hz : z.1 = q
            · simpa [hz, e1] using ih2
            · by_cases hz2 : z.1 = r
              · simp [hz, hz2, hr]
              · simpa [hz, hz2] using ih2
      · have h2 : (l.any fun p => decide (p.1 = q)) = true := by simpa [hp] using h
        have := ih h2
        by_cases hr : p.1 = r
        · have e1 : ¬ r = q := fun e => hp (hr.trans e)
          simp [getI, hp, hr, e1]
        · simp only [getI, List.map_cons, if_neg hp, List.find?_cons, hr, decide_false] at this ⊢
          exact this
  · rw [if_neg h]
    have hn : ∀ p ∈ l, ¬ p.1 = q := fun p hp e => h (List.any_eq_true.mpr ⟨p, hp, by simpa using e⟩)
    by_cases hr : r = q
    · subst hr
      have : l.find? (fun p => decide (p.1 = r)) = none := List.find?_eq_none.mpr fun p hp => by simpa using hn p hp
      simp [getI, List.find?_append, this]
    · have e1 : ¬ q = r := fun e => hr e.symm
      simp [getI, List.find?_append, hr, e1]
theorem getI_mem {l : List (Int × Int)} {q : Int} : (getI l q).isSome = true ↔ q ∈ l.map (·.1) := by
  simp [getI]
theorem getI_some {l : List (Int × Int)} {q : Int} (h : q ∈ l.map (·.1)) : ∃ v, getI l q = some v := Option.isSome_iff_exists.mp (getI_mem.mpr h)
theorem getI_key {l : List (Int × Int)} {q v : Int} (h : getI l q = some v) : q ∈ l.map (·.1) := getI_mem.mp (by rw [h]; rfl)
theorem putI_keys (l : List (Int × Int)) (q v : Int) : (putI l q v).map (·.1) = if q ∈ l.map (·.1) then l.map (·.1) else l.map (·.1) ++ [q] := by
  unfold putI
  have e : ((l.any fun p => decide (p.1 = q)) = true) = (q ∈ l.map (·.1)) := by simp
  simp only [e]
  split
  · rw [List.map_map]
    refine List.map_congr_left fun p _ => ?_
    simp only [Function.comp]
    split <;> rfl
  · simp
/-- no key twice, all keys from 0 to T -/
structure Kys (T : Int) (l : List (Int × Int)) : Prop where
  nd : (l.map (·.1)).Nodup
  lo : ∀ q ∈ l.map (·.1), 0 ≤ q ∧ q ≤ T
theorem Kys.put {T : Int} {l : List (Int × Int)} {q : Int} (h : Kys T l) (v : Int) (h0 : 0 ≤ q) (h1 : q ≤ T) : Kys T (putI l q v) := by
  refine ⟨?_, ?_⟩
  · rw [putI_keys]
    split
    · exact h.nd
    · rename_i hq
      rw [List.nodup_append]
      exact ⟨h.nd, by simp, fun a ha b hb => by simp at hb; subst hb; intro e; subst e; exact hq ha⟩
  · rw [putI_keys]
    intro z hz
    split at hz
    · exact h.lo z hz
    · rcases List.mem_append.mp hz with h2 | h2
      · exact h.lo z h2
      · simp at h2; subst h2; exact ⟨h0, h1⟩
theorem len_split (P : Int → Bool) (l : List Int) : l.length = (l.filter P).length + (l.filter fun q => !P q).length := by
  induction l with
  | nil => rfl
  | cons a l ih => cases h : P a <;> simp [h] <;> omega
theorem nodup_le : ∀ (N : Nat) (l : List Int), l.Nodup → (∀ q ∈ l, 0 ≤ q ∧ q < N) → l.length ≤ N
  | 0, [], _, _ => Nat.le_refl _
  | 0, a :: l, _, h => by have := h a (by simp); omega
  | N + 1, l, n, h => by
    have ih := nodup_le N (l.filter fun q => decide (q ≠ (N : Int))) (n.filter _) fun q hq => by
      obtain ⟨a, b⟩ := List.mem_filter.mp hq
      have := h q a
      simp at b
      omega
    have e : (l.filter fun q => !decide (q ≠ (N : Int))).length ≤ 1 := by
      have n2 : (l.filter fun q => !decide (q ≠ (N : Int))).Nodup := n.filter _
      match hh : l.filter fun q => !decide (q ≠ (N : Int)), n2 with
      | [], _ => simp
      | [a], _ => simp
      | a :: b :: r, n2 =>
        have ha : a ∈ l.filter fun q => !decide (q ≠ (N : Int)) := by rw [hh]; simp
        have hb : b ∈ l.filter fun q => !decide (q ≠ (N : Int)) := by rw [hh]; simp
        have e1 := (List.mem_filter.mp ha).2
        have e2 := (List.mem_filter.mp hb).2
        simp at e1 e2 n2
        omega
    have := len_split (fun q => decide (q ≠ (N : Int))) l
    omega
theorem Kys.len {T : Int} {l : List (Int × Int)} (h : Kys T l) (h0 : 0 ≤ T) (h1 : T ≤ 1999) : l.length ≤ 2000 := by
  have := nodup_le 2000 (l.map (·.1)) h.nd fun q hq => by have := h.lo q hq; omega
  simpa using this
/-! ### how far -/
def lowN (hs : List Int) (w : Int) : Int := (rngN hs w 0).2
def higN (hs : List Int) (w : Int) : Int := (rngN hs w (hs.length - 1)).1
def firN (hs : List Int) (w p : Int) : Int := max 0 (max (p - lowN hs w) (higN hs w - p))
def eacN (hs : List Int) (w : Int) : Int := max 0 (higN hs w - lowN hs w)
def farN (hs : List Int) (w p : Int) (n : Nat) : Int := if n = 0 then 0 else firN hs w p + ((n : Int) - 1) * eacN hs w
theorem farN_succ (hs : List Int) (w p : Int) (n : Nat) : farN hs w p (n + 1) = firN hs w p + (n : Int) * eacN hs w := by
  unfold farN
  rw [if_neg (by omega), show (((n + 1 : Nat) : Int) - 1) = (n : Int) by omega]
theorem low_le {hs : List Int} {w : Int} (g : Good hs w) {i : Nat} (h : i < hs.length) : lowN hs w ≤ (rngN hs w i).2 := by
  have h0 := begN_le g (show 0 < hs.length by omega)
  have hi := begN_le g h
  have e0 : begN hs 0 = 0 := rfl
  unfold lowN rngN
  simp only []
  by_cases c : i = 0
  · subst c; exact Int.le_refl _
  · have m := begN_mono g (show 1 ≤ i by omega) (by omega)
    have e1 : begN hs 1 = begN hs 0 + hs.getD 0 0 := begN_succ (i := 0) (by omega)
    omega
theorem hig_ge {hs : List Int} {w : Int} (g : Good hs w) {i : Nat} (h : i < hs.length) : (rngN hs w i).1 ≤ higN hs w := by
  have hi := begN_le g h
  have hl := begN_le g (show hs.length - 1 < hs.length by omega)
  unfold higN rngN
  simp only []
  by_cases c : i = hs.length - 1
  · subst c; exact Int.le_refl _
  · have m := begN_mono g (show i + 1 ≤ hs.length - 1 by omega) (by omega)
    have e1 := begN_succ h
    have m2 := begN_mono g (show i ≤ hs.length - 1 by omega) (by omega)
    omega
theorem eac0 (hs : List Int) (w : Int) : 0 ≤ eacN hs w := by unfold eacN; omega
theorem fir0 (hs : List Int) (w p : Int) : 0 ≤ firN hs w p := by unfold firN; omega
/-- no reveal scrolls further -/
theorem step_ub {hs : List Int} {w : Int} (g : Good hs w) {i : Nat} (h : i < hs.length) (q : Int) :
    0 ≤ dab (nearN q (rngN hs w i) - q) ∧ dab (nearN q (rngN hs w i) - q) ≤ firN hs w q ∧ dab (nearN q (rngN hs w i) - q) + firN hs w (nearN q (rngN hs w i)) ≤ firN hs w q + eacN hs w := by
  have h1 := low_le g h
  have h2 := hig_ge g h
  have h3 := (rng_ok g h).2.1
  unfold dab nearN firN eacN
  generalize (rngN hs w i).1 = lo at *
  generalize (rngN hs w i).2 = hi at *
  refine ⟨by split <;> omega, by split <;> omega, by split <;> omega⟩
/-- one reveal scrolls as far -/
theorem step_lb {hs : List Int} {w : Int} (g : Good hs w) (q : Int) : ∃ i, i < hs.length ∧ dab (nearN q (rngN hs w i) - q) = firN hs w q ∧ dab (nearN q (rngN hs w i) - q) + firN hs w (nearN q (rngN hs w i)) = firN hs w q + eacN hs w := by
  have l1 := g.l1
  have k0 := rng_ok g (show 0 < hs.length by omega)
  have k1 := rng_ok g (show hs.length - 1 < hs.length by omega)
  have u0 := step_ub g (show 0 < hs.length by omega) q
  have u1 := step_ub g (show hs.length - 1 < hs.length by omega) q
  by_cases c : higN hs w - q ≤ q - lowN hs w
  · refine ⟨0, by omega, ?_⟩
    have e : lowN hs w = (rngN hs w 0).2 := rfl
    unfold dab nearN firN eacN at *
    generalize (rngN hs w 0).1 = lo at *
    generalize (rngN hs w 0).2 = hi at *
    refine ⟨by split at * <;> omega, by split at * <;> omega⟩
  · refine ⟨hs.length - 1, by omega, ?_⟩
    have e : higN hs w = (rngN hs w (hs.length - 1)).1 := rfl
    unfold dab nearN firN eacN at *
    generalize (rngN hs w (hs.length - 1)).1 = lo at *
    generalize (rngN hs w (hs.length - 1)).2 = hi at *
    refine ⟨by split at * <;> omega, by split at * <;> omega⟩
theorem m_farthest_eq {hs : List Int} {w : Int} (g : Good hs w) (p : Int) : m_farthest [vD hs w, .int p] = .ok (.tuple [.int (firN hs w p), .int (eacN hs w)]) := by
  have l1 := g.l1
  have r0 : m_range_of [.tuple [hD hs, .int w], .int 0] = .ok (pD (rngN hs w 0)) := m_range_of_eq (i := 0) (by omega)
  have r1 : m_range_of [.tuple [hD hs, .int w], .int ((hs.length : Int) - 1)] = .ok (pD (rngN hs w (hs.length - 1))) := by
    rw [show ((hs.length : Int) - 1) = ((hs.length - 1 : Nat) : Int) by omega]
    exact m_range_of_eq (by omega)
  refine fnV_eq rfl ?_
  unfold c_farthest
  simp [vD, len_vD hs w, r0, r1]
  simp [pD, firN, eacN, lowN, higN]
theorem m_require_number_eq {n m : Int} (h0 : 0 ≤ n) (h1 : n ≤ m) : m_require_number [.int n, .int m] = .ok .none := by
  refine fnV_eq rfl ?_
  unfold c_require_number
  simp [m_is_integer_int, h0, h1]
theorem near_eac {hs : List Int} {w : Int} (g : Good hs w) : near64 (eacN hs w) = true := by
  have l1 := g.l1
  have k1 := rng_ok g (show hs.length - 1 < hs.length by omega)
  have k0 := rng_ok g (show 0 < hs.length by omega)
  have t := top1 g
  refine near (eac0 hs w) ?_
  unfold eacN lowN higN
  omega
theorem m_greatest_scroll_eq {hs : List Int} {w p n : Int} (g : Good hs w) (p0 : 0 ≤ p) (p1 : p ≤ topN hs w) (n0 : 0 ≤ n) (n1 : n ≤ 1000000000000) : m_greatest_scroll [vD hs w, .int p, .int n] = .ok (.int (if 0 < n then firN hs w p + (n - 1) * eacN hs w else 0)) := by
  refine fnV_eq rfl ?_
  unfold c_greatest_scroll
  simp [m_require_view_good g, m_require_position_good p0 p1, m_require_number_eq n0 n1, m_farthest_eq g]
  by_cases c : 0 < n
  · simp [c, near_eac g]
    intro h
    omega
  · simp [c]
end Rv

/-! P14: dicts from pairs of ints to ints; counting. -/
namespace Rv
open PySem L2 Lin
abbrev PI := Int × Int
def tD (l : List (PI × Int)) : List (D × D) := l.map fun p => (pD p.1, .int p.2)
def getP (l : List (PI × Int)) (q : PI) : Option Int := (l.find? fun p => decide (p.1 = q)).map (·.2)
def putP (l : List (PI × Int)) (q : PI) (v : Int) : List (PI × Int) := if (l.any fun p => decide (p.1 = q)) = true then l.map (fun p => if p.1 = q then (p.1, v) else p) else l ++ [(q, v)]
theorem keyB_pD (a b : PI) : keyB (pD a) (pD b) = decide (a = b) := by
  obtain ⟨a1, a2⟩ := a
  obtain ⟨b1, b2⟩ := b
  simp [keyB, pD]
theorem find_tD (l : List (PI × Int)) (q : PI) : findD (tD l) (pD q) = (getP l q).map PyData.int := by
  induction l with
  | nil => rfl
  | cons p l ih =>
    simp only [findD, tD, getP, List.map_cons, List.find?_cons, keyB_pD] at ih ⊢
    by_cases h : p.1 = q
    · simp [h]
    · simp only [h, decide_false]; exact ih
theorem put_tD (l : List (PI × Int)) (q : PI) (v : Int) : putD (tD l) (pD q) (.int v) = tD (putP l q v) := by
  unfold putD putP
  have e : (tD l).any (fun p => keyB p.1 (pD q)) = l.any fun p => decide (p.1 = q) := by
    simp [tD, List.any_map, Function.comp_def, keyB_pD]
  rw [e]
  by_cases h : (l.any fun p => decide (p.1 = q)) = true
  · rw [if_pos h, if_pos h]
    simp only [tD, List.map_map]
    refine List.map_congr_left fun p _ => ?_
    simp only [Function.comp, keyB_pD]
    by_cases k : p.1 = q <;> simp [k]
  · rw [if_neg h, if_neg h]
    simp [tD]
@[simp] theorem tagged_tD (l : List (PI × Int)) : tagged (.dict (tD l)) = false := tagged_map (fun _ _ h => by cases h) l
theorem keys_tD (l : List (PI × Int)) : (tD l).map (·.1) = (l.map (·.1)).map pD := by simp [tD]
theorem kp_pD (q : PI) : kp (pD q) = q := rfl
theorem getP_put (l : List (PI × Int)) (q r : PI) (v : Int) : getP (putP l q v) r = if r = q then some v else getP l r := by
  unfold putP
  by_cases h : (l.any fun p => decide (p.1 = q)) = true
  · rw [if_pos h]
    induction l with
    | nil => simp at h
    | cons p l ih =>
      by_cases hp : p.1 = q
      · by_cases hr : r = q
        · subst hr
          simp [getP, hp]
        · have e1 : ¬ q = r := fun e => hr e.symm
          simp only [getP, List.map_cons, hp, if_true, List.find?_cons, e1, decide_false, if_neg hr]
          clear ih h
          induction l with
          | nil => rfl
          | cons z l ih2 =>
            by_cases hz : z.1 = q
            · simpa [hz, e1] using ih2
            · by_cases hz2 : z.1 = r
              · simp [hz, hz2, hr]
              · simpa [hz, hz2] using ih2
      · have h2 : (l.any fun p => decide (p.1 = q)) = true := by simpa [hp] using h
        have := ih h2
        by_cases hr : p.1 = r
        · have e1 : ¬ r = q := fun e => hp (hr.trans e)
          simp [getP, hp, hr, e1]
        · simp only [getP, List.map_cons, if_neg hp, List.find?_cons, hr, decide_false] at this ⊢
          exact this
  · rw [if_neg h]
    have hn : ∀ p ∈ l, ¬ p.1 = q := fun p hp e => h (List.any_eq_true.mpr ⟨p, hp, by simpa using e⟩)
    by_cases hr : r = q
    · subst hr
      have : l.find? (fun p => decide (p.1 = r)) = none := List.find?_eq_none.mpr fun p hp => by simpa using hn p hp
      simp [getP, List.find?_append, this]
    · have e1 : ¬ q = r := fun e => hr e.symm
      simp [getP, List.find?_append, hr, e1]
theorem putP_keys (l : List (PI × Int)) (q : PI) (v : Int) : (putP l q v).map (·.1) = if q ∈ l.map (·.1) then l.map (·.1) else l.map (·.1) ++ [q] := by
  unfold putP
  have e : ((l.any fun p => decide (p.1 = q)) = true) = (q ∈ l.map (·.1)) := by
    refine propext ⟨fun h => ?_, fun h => ?_⟩
    · obtain ⟨p, hp, e⟩ := List.any_eq_true.mp h
      exact List.mem_map.mpr ⟨p, hp, by simpa using e⟩
    · obtain ⟨p, hp, e⟩ := List.mem_map.mp h
      exact List.any_eq_true.mpr ⟨p, hp, by simpa using e⟩
  simp only [e]
  split
  · rw [List.map_map]
    refine List.map_congr_left fun p _ => ?_
    simp only [Function.comp]
    split <;> rfl
  · simp
theorem putP_mem (l : List (PI × Int)) (q : PI) (v : Int) (x : PI) : x ∈ (putP l q v).map (·.1) ↔ x ∈ l.map (·.1) ∨ x = q := by
  rw [putP_keys]
  split
  · rename_i h
    exact ⟨.inl, fun z => z.elim id fun e => by rw [e]; exact h⟩
  · rw [List.mem_append, List.mem_singleton]
theorem putP_nodup {l : List (PI × Int)} (h : (l.map (·.1)).Nodup) (q : PI) (v : Int) : ((putP l q v).map (·.1)).Nodup := by
  rw [putP_keys]
  split
  · exact h
  · rename_i hq
    rw [List.nodup_append]
    exact ⟨h, by simp, fun a ha b hb => by simp at hb; subst hb; intro e; subst e; exact hq ha⟩
theorem putP_len (l : List (PI × Int)) (q : PI) (v : Int) : (putP l q v).length ≤ l.length + 1 := by
  unfold putP
  split <;> simp
def valP (l : List (PI × Int)) (q : PI) : Int := (getP l q).getD 0
theorem valP_add (l : List (PI × Int)) (q x : PI) (c : Int) : valP (putP l q (valP l q + c)) x = valP l x + (if q = x then c else 0) := by
  unfold valP
  rw [getP_put]
  by_cases h : x = q
  · subst h
    simp
  · have : ¬ q = x := fun e => h e.symm
    simp [h, this]
theorem getP_key {l : List (PI × Int)} {q : PI} (h : q ∈ l.map (·.1)) : getP l q = some (valP l q) := by
  have : (getP l q).isSome = true := by
    unfold getP
    rw [Option.isSome_map]
    obtain ⟨p, hp, e⟩ := List.mem_map.mp h
    exact List.find?_isSome.mpr ⟨p, hp, by simpa using e⟩
  obtain ⟨v, hv⟩ := Option.isSome_iff_exists.mp this
  unfold valP
  rw [hv]
  rfl
/-! ### sums -/
def sumI {α : Type} (l : List α) (f : α → Int) : Int := (l.map f).sum
theorem sumI_nil {α : Type} (f : α → Int) : sumI [] f = 0 := rfl
theorem sumI_cons {α : Type} (a : α) (l : List α) (f : α → Int) : sumI (a :: l) f = f a + sumI l f := by simp [sumI]
theorem sumI_snoc {α : Type} (a : α) (l : List α) (f : α → Int) : sumI (l ++ [a]) f = sumI l f + f a := by simp [sumI]
theorem sumI_add {α : Type} (l : List α) (f g : α → Int) : sumI l (fun a => f a + g a) = sumI l f + sumI l g := by
  induction l with
  | nil => rfl
  | cons a l ih => rw [sumI_cons, sumI_cons, sumI_cons, ih]; omega
theorem sumI_congr {α : Type} {l : List α} {f g : α → Int} (h : ∀ a ∈ l, f a = g a) : sumI l f = sumI l g := by
  induction l with
  | nil => rfl
  | cons a l ih => rw [sumI_cons, sumI_cons, h a (by simp), ih fun b hb => h b (by simp [hb])]
theorem sumI_zero {α : Type} {l : List α} {f : α → Int} (h : ∀ a ∈ l, f a = 0) : sumI l f = 0 := by
  induction l with
  | nil => rfl
  | cons a l ih => rw [sumI_cons, h a (by simp), ih fun b hb => h b (by simp [hb])]; rfl
theorem sumI_mul {α : Type} (l : List α) (f : α → Int) (c : Int) : sumI l (fun a => c * f a) = c * sumI l f := by
  induction l with
  | nil => simp [sumI]
  | cons a l ih => rw [sumI_cons, sumI_cons, ih, Int.mul_add]
theorem sumI_one {l : List PI} (nd : l.Nodup) {a : PI} (ha : a ∈ l) (f : PI → Int) : sumI l (fun q => if a = q then f q else 0) = f a := by
  induction l with
  | nil => cases ha
  | cons b l ih =>
    rw [sumI_cons]
    have nd' := List.nodup_cons.mp nd
    rcases List.mem_cons.mp ha with rfl | h
    · rw [if_pos rfl, sumI_zero fun q hq => if_neg fun e => nd'.1 (by rw [e]; exact hq)]
      omega
    · rw [if_neg fun e => nd'.1 (by rw [← e]; exact h), ih nd'.2 h]
      omega
/-- a sum over a list, by its different members -/
theorem sum_keys {ks : List PI} (nd : ks.Nodup) (f : PI → Int) : ∀ {L : List PI}, (∀ x ∈ L, x ∈ ks) → sumI ks (fun q => (L.count q : Int) * f q) = sumI L f
  | [], _ => by rw [sumI_nil]; exact sumI_zero fun q _ => by simp
  | a :: L, h => by
    have ih := sum_keys nd f (L := L) fun x hx => h x (by simp [hx])
    have e : sumI ks (fun q => ((a :: L).count q : Int) * f q) = sumI ks (fun q => (L.count q : Int) * f q + if a = q then f q else 0) := by
      refine sumI_congr fun q _ => ?_
      rw [List.count_cons]
      by_cases c : a = q
      · simp [c, Int.add_mul]
      · simp [c]
    rw [e, sumI_add, ih, sumI_one nd (h a (by simp)) f, sumI_cons]
    omega
theorem count_map {α : Type} (l : List α) (f : α → PI) (x : PI) : (((l.map f).count x : Nat) : Int) = sumI l fun a => if f a = x then 1 else 0 := by
  induction l with
  | nil => rfl
  | cons a l ih =>
    rw [List.map_cons, List.count_cons, sumI_cons, ← ih]
    by_cases c : f a = x
    · simp [c]; omega
    · simp [c]
theorem count_flat {α : Type} (l : List α) (g : α → List PI) (x : PI) : (((l.flatMap g).count x : Nat) : Int) = sumI l fun a => ((g a).count x : Int) := by
  induction l with
  | nil => rfl
  | cons a l ih =>
    rw [List.flatMap_cons, List.count_append, sumI_cons, ← ih]
    omega
/-- l counts the members of L -/
structure Cnt (l : List (PI × Int)) (L : List PI) : Prop where
  nd : (l.map (·.1)).Nodup
  mem : ∀ x, x ∈ l.map (·.1) ↔ x ∈ L
  val : ∀ x, valP l x = (L.count x : Int)
theorem cnt_nil : Cnt [] [] := ⟨by simp, by simp, fun x => rfl⟩
theorem Cnt.one {l : List (PI × Int)} {L : List PI} (h : Cnt l L) (q : PI) : Cnt (putP l q (valP l q + 1)) (L ++ [q]) := by
  refine ⟨putP_nodup h.nd _ _, fun x => ?_, fun x => ?_⟩
  · rw [putP_mem, h.mem, List.mem_append, List.mem_singleton]
  · rw [valP_add, h.val, List.count_append, List.count_singleton]
    by_cases c : q = x
    · simp [c]
    · have : ¬ (x = q) := fun e => c e.symm
      simp [c]
theorem Cnt.sum {l : List (PI × Int)} {L : List PI} (h : Cnt l L) (f : PI → Int) : sumI (l.map (·.1)) (fun q => valP l q * f q) = sumI L f := by
  rw [← sum_keys h.nd f fun x hx => (h.mem x).mpr hx]
  exact sumI_congr fun q _ => by rw [h.val]
end Rv

/-! P15: rows counted. -/
namespace Rv
open PySem L2 Lin
def stepP (hs : List Int) (w : Int) (q : PI) (i : Nat) : PI := (nearN q.1 (rngN hs w i), nearN q.2 (rngN hs w i))
def nextL (hs : List Int) (w : Int) (L : List PI) : List PI := L.flatMap fun q => (List.range hs.length).map (stepP hs w q)
def allR (n : Nat) : Nat → List (List Nat)
  | 0 => [[]]
  | k + 1 => (allR n k).flatMap fun r => (List.range n).map fun i => r ++ [i]
def effL (hs : List Int) (w : Int) (k : Nat) : List PI := (allR hs.length k).map (effN hs w)
theorem effL_succ (hs : List Int) (w : Int) (k : Nat) : effL hs w (k + 1) = nextL hs w (effL hs w k) := by
  unfold effL nextL
  show ((allR hs.length k).flatMap fun r => (List.range hs.length).map fun i => r ++ [i]).map (effN hs w) = _
  rw [List.map_flatMap, List.flatMap_map]
  refine congrArg (fun g => List.flatMap g (allR hs.length k)) (funext fun r => ?_)
  rw [List.map_map]
  refine List.map_congr_left fun i _ => ?_
  simp [effN, endN_snoc, stepP]
theorem allR_mem {n : Nat} : ∀ {k : Nat} {r : List Nat}, r ∈ allR n k → r.length = k ∧ ∀ i ∈ r, i < n
  | 0, r, h => by
    simp [allR] at h
    subst h
    simp
  | k + 1, r, h => by
    simp only [allR, List.mem_flatMap, List.mem_map, List.mem_range] at h
    obtain ⟨q, hq, i, hi, rfl⟩ := h
    obtain ⟨h1, h2⟩ := allR_mem hq
    refine ⟨by simp [h1], fun j hj => ?_⟩
    rcases List.mem_append.mp hj with h3 | h3
    · exact h2 j h3
    · simp at h3; omega
theorem sum_cst {α : Type} (l : List α) (k : Nat) : (l.map fun _ => k).sum = l.length * k := by
  induction l with
  | nil => simp
  | cons a l ih => simp [ih, Nat.add_mul]; omega
theorem allR_len (n : Nat) : ∀ k : Nat, (allR n k).length = n ^ k
  | 0 => rfl
  | k + 1 => by
    simp only [allR, List.length_flatMap, List.length_map, List.length_range]
    rw [sum_cst, allR_len n k, Nat.pow_succ]
theorem pow_small {n k : Nat} (hn : n ≤ 10) (hk : k ≤ 5) : n ^ k ≤ 100000 := Nat.le_trans (Nat.pow_le_pow_left hn k) (Nat.le_trans (Nat.pow_le_pow_right (by decide) hk) (by decide))
theorem m_law_all_rows_eq {hs : List Int} (w : Int) (hl : hs.length ≤ 10) {k : Nat} (hk : k ≤ 5) : m_law_all_rows [vD hs w, .int k] = .ok (.list ((allR hs.length k).map rD)) := by
  refine fnV_eq rfl ?_
  unfold c_law_all_rows
  simp
  refine ⟨by omega, ?_⟩
  refine loop_gen (fun i τ => ∃ (x3 x4 x5 x6 : Lin.Slot), τ = [.val (vD hs w), .val (.int k), .val (.list ((allR hs.length i).map rD)), x3, x4, x5, x6]) ⟨.free, .free, .free, .free, by simp [allR, rD]⟩ ?_ ?_
  · rintro i d τ hi ⟨x3, x4, x5, x6, rfl⟩
    obtain ⟨hi, rfl⟩ := (rngD_get0 _ _ _).mp hi
    simp
    refine loop_map (allR hs.length i) rD rfl (fun m τ => ∃ (x5 x6 : Lin.Slot), τ = [.val (vD hs w), .val (.int k), .val (.list ((allR hs.length i).map rD)), .val (.int i), .val (.list ((m.flatMap fun r => (List.range hs.length).map fun j => r ++ [j]).map rD)), x5, x6]) ⟨_, _, rfl⟩ ?_ ?_
    · rintro m r r' τ e ⟨x5, x6, rfl⟩
      have hr : r.length = i := (allR_mem (n := hs.length) (k := i) (by rw [e]; simp)).1
      have lm : (m.flatMap fun r => (List.range hs.length).map fun j => r ++ [j]).length = m.length * hs.length := by
        simp only [List.length_flatMap, List.length_map, List.length_range]
        exact sum_cst m hs.length
      have ml : m.length + 1 ≤ hs.length ^ i := by
        have := congrArg List.length e
        rw [allR_len] at this
        simp at this
        omega
      have pw : hs.length ^ (i + 1) ≤ 100000 := pow_small hl (by omega)
      have ms : (m.length + 1) * hs.length ≤ 100000 := by
        refine Nat.le_trans (Nat.mul_le_mul_right _ ml) ?_
        rw [← Nat.pow_succ]
        exact pw
      rw [Nat.add_mul, Nat.one_mul] at ms
      simp [rD]
      refine ⟨by omega, ?_⟩
      refine lc_map (List.range hs.length) nD (fun j => rD (r ++ [j])) (rngD_0 _) (by simp; omega) (fun j hj => ?_) ?_
      · simp [rD, nD]
        omega
      · rw [List.length_flatMap] at lm
        simp
        rw [sum_cst]
        omega
    · rintro τ ⟨x5, x6, rfl⟩
      simp
      rfl
  · rintro τ ⟨x3, x4, x5, x6, rfl⟩
    simp
/-! ### the counting dict -/
/-- the keys done in ks, and the items done in it for the key q -/
def partS (hs : List Int) (w : Int) (l : List (PI × Int)) (ks : List PI) (x : PI) : Int := sumI ks fun q => valP l q * sumI (List.range hs.length) fun i => if stepP hs w q i = x then 1 else 0
structure Prt (hs : List Int) (w : Int) (l : List (PI × Int)) (ks : List PI) (q : PI) (is : List Nat) (m : List (PI × Int)) : Prop where
  nd : (m.map (·.1)).Nodup
  mem : ∀ x, x ∈ m.map (·.1) ↔ (∃ p ∈ ks, ∃ i, i < hs.length ∧ x = stepP hs w p i) ∨ ∃ i ∈ is, x = stepP hs w q i
  val : ∀ x, valP m x = partS hs w l ks x + sumI is (fun i => if stepP hs w q i = x then valP l q else 0)
  len : m.length ≤ ks.length * hs.length + is.length
theorem Prt.put {hs : List Int} {w : Int} {l : List (PI × Int)} {ks : List PI} {q : PI} {is : List Nat} {m : List (PI × Int)} (h : Prt hs w l ks q is m) (i : Nat) : Prt hs w l ks q (is ++ [i]) (putP m (stepP hs w q i) (valP m (stepP hs w q i) + valP l q)) := by
  refine ⟨putP_nodup h.nd _ _, fun x => ?_, fun x => ?_, ?_⟩
  · rw [putP_mem, h.mem]
    constructor
    · rintro ((h1 | ⟨j, hj, e⟩) | e)
      · exact .inl h1
      · exact .inr ⟨j, by simp [hj], e⟩
      · exact .inr ⟨i, by simp, e⟩
    · rintro (h1 | ⟨j, hj, e⟩)
      · exact .inl (.inl h1)
      · rcases List.mem_append.mp hj with hj | hj
        · exact .inl (.inr ⟨j, hj, e⟩)
        · simp at hj
          subst hj
          exact .inr e
  · rw [valP_add, h.val, sumI_snoc]
    omega
  · have := putP_len m (stepP hs w q i) (valP m (stepP hs w q i) + valP l q)
    have := h.len
    simp
    omega
theorem Prt.next {hs : List Int} {w : Int} {l : List (PI × Int)} {ks : List PI} {q q' : PI} {m : List (PI × Int)} (h : Prt hs w l ks q (List.range hs.length) m) : Prt hs w l (ks ++ [q]) q' [] m := by
  refine ⟨h.nd, fun x => ?_, fun x => ?_, ?_⟩
  · rw [h.mem]
    constructor
    · rintro (⟨p, hp, i, hi, e⟩ | ⟨i, hi, e⟩)
      · exact .inl ⟨p, by simp [hp], i, hi, e⟩
      · exact .inl ⟨q, by simp, i, by simpa using hi, e⟩
    · rintro (⟨p, hp, i, hi, e⟩ | ⟨i, hi, e⟩)
      · rcases List.mem_append.mp hp with hp | hp
        · exact .inl ⟨p, hp, i, hi, e⟩
        · simp at hp
          subst hp
          exact .inr ⟨i, by simpa using hi, e⟩
      · cases hi
  · rw [h.val, sumI_nil]
    unfold partS
    rw [sumI_snoc]
    have : sumI (List.range hs.length) (fun i => if stepP hs w q i = x then valP l q else 0) = valP l q * sumI (List.range hs.length) (fun i => if stepP hs w q i = x then 1 else 0) := by
      rw [← sumI_mul]
      refine sumI_congr fun i _ => ?_
      by_cases c : stepP hs w q i = x <;> simp [c]
    rw [this]
    omega
  · have := h.len
    simp at this
    simp [Nat.add_mul]
    exact this
theorem Prt.done {hs : List Int} {w : Int} {l : List (PI × Int)} {L : List PI} {q : PI} {m : List (PI × Int)} (c : Cnt l L) (h : Prt hs w l (l.map (·.1)) q [] m) : Cnt m (nextL hs w L) := by
  refine ⟨h.nd, fun x => ?_, fun x => ?_⟩
  · rw [h.mem]
    unfold nextL
    simp only [List.mem_flatMap, List.mem_map, List.mem_range]
    constructor
    · rintro (⟨p, hp, i, hi, e⟩ | ⟨i, hi, e⟩)
      · exact ⟨p, (c.mem p).mp (by simpa using hp), i, hi, e.symm⟩
      · cases hi
    · rintro ⟨p, hp, i, hi, e⟩
      exact .inl ⟨p, by simpa using (c.mem p).mpr hp, i, hi, e.symm⟩
  · rw [h.val, sumI_nil]
    unfold partS
    rw [c.sum]
    unfold nextL
    rw [count_flat]
    have : (fun q => sumI (List.range hs.length) fun i => if stepP hs w q i = x then (1 : Int) else 0) = fun q => ((((List.range hs.length).map (stepP hs w q)).count x : Nat) : Int) := funext fun q => (count_map _ _ _).symm
    rw [this]
    omega
theorem dix_tD {l : List (PI × Int)} {q : PI} (h : q ∈ l.map (·.1)) : dixD (.dict (tD l)) (pD q) = some (.int (valP l q)) := by
  have sk : sameKind (tD l) (pD q) = true := by
    cases l with
    | nil => cases h
    | cons a l => rfl
  rw [dixD_dict, if_pos sk, find_tD, getP_key h]
  rfl
theorem get_tD (l : List (PI × Int)) (q : PI) : (findD (tD l) (pD q)).getD (.int 0) = .int (valP l q) := by
  rw [find_tD]
  unfold valP
  cases getP l q <;> rfl
end Rv

/-! P16: the counting defs. -/
namespace Rv
open PySem L2 Lin
theorem m_require_number_eq' {n m : Int} (h0 : 0 ≤ n) (h1 : n ≤ m) : m_require_number [.int n, .int m] = .ok .none := by
  refine fnV_eq rfl ?_
  unfold c_require_number
  simp [m_is_integer_int, h0, h1]
theorem m_counts_of_eq {hs : List Int} {w : Int} (hl : hs.length ≤ 10) {k : Nat} (hk : k ≤ 5) : ∃ l, m_counts_of [vD hs w, .int k] = .ok (.dct true (tD l)) ∧ Cnt l (effL hs w k) ∧ l.length ≤ 100000 := by
  have key : ∃ c, m_counts_of [vD hs w, .int k] = .ok c ∧ ∃ l, c = .dct true (tD l) ∧ Cnt l (effL hs w k) ∧ l.length ≤ 100000 := by
    refine fnD_post rfl ?_
    unfold c_counts_of
    simp
    refine ⟨by omega, ?_⟩
    refine lc_map (List.range hs.length) nD (fun i => pD (rngN hs w i)) (rngD_0 _) (by simp; omega) (fun i hi => ?_) ?_
    · have lp : m_range_of [vD hs w, .int i] = .ok (pD (rngN hs w i)) := m_range_of_eq (by simpa using hi)
      simp [nD, lp]
    simp [m_top_of_eq]
    refine ⟨by omega, ?_⟩
    refine loop_gen (fun i τ => ∃ (l : List (PI × Int)) (x4 x5 x6 x7 x8 x9 x10 : Lin.Slot), τ = [.val (vD hs w), .val (.int k), .val (.list ((List.range hs.length).map fun i => pD (rngN hs w i))), .own none (.dct true (tD l)), x4, x5, x6, x7, x8, x9, x10] ∧ Cnt l (effL hs w i) ∧ l.length ≤ hs.length ^ i) ?_ ?_ ?_
    · exact ⟨[((0, topN hs w), 1)], _, _, _, _, _, _, _, rfl, cnt_nil.one (0, topN hs w), by simp⟩
    · rintro i d τ hi ⟨l, x4, x5, x6, x7, x8, x9, x10, rfl, C, len⟩
      obtain ⟨hi, rfl⟩ := (rngD_get0 _ _ _).mp hi
      have pw : hs.length ^ (i + 1) ≤ 100000 := pow_small hl (by omega)
      have pw2 : l.length * hs.length ≤ hs.length ^ (i + 1) := by rw [Nat.pow_succ]; exact Nat.mul_le_mul_right _ len
      simp [keys_tD]
      refine loop_map (l.map (·.1)) pD (by simp [Function.comp_def]) (fun m τ => ∃ (l2 : List (PI × Int)) (x6 x7 x8 x9 x10 : Lin.Slot), τ = [.val (vD hs w), .val (.int k), .val (.list ((List.range hs.length).map fun i => pD (rngN hs w i))), .val (.dict (tD l)), .val (.int i), .own none (.dct true (tD l2)), x6, x7, x8, x9, x10] ∧ ∀ q', Prt hs w l m q' [] l2) ?_ ?_ ?_
      · exact ⟨[], _, _, _, _, _, rfl, fun q' => ⟨by simp, by simp, fun x => rfl, by simp⟩⟩
      · rintro m q r τ e ⟨l2, x6, x7, x8, x9, x10, rfl, P0⟩
        have hq : q ∈ l.map (·.1) := by rw [e]; simp
        have ml : m.length + 1 ≤ l.length := by
          have := congrArg List.length e
          simp at this
          omega
        have mm : (m.length + 1) * hs.length ≤ l.length * hs.length := Nat.mul_le_mul_right _ ml
        rw [Nat.add_mul, Nat.one_mul] at mm
        have d1 : dixD (.dict (tD l)) (.tuple [.int q.1, .int q.2]) = some (.int (valP l q)) := dix_tD hq
        simp [pD]
        refine loop_map (List.range hs.length) (fun i => pD (rngN hs w i)) rfl (fun m' τ => ∃ (l2 : List (PI × Int)) (x8 x9 x10 : Lin.Slot), τ = [.val (vD hs w), .val (.int k), .val (.list ((List.range hs.length).map fun i => pD (rngN hs w i))), .val (.dict (tD l)), .val (.int i), .own none (.dct true (tD l2)), .val (.int q.1), .val (.int q.2), x8, x9, x10] ∧ Prt hs w l m q m' l2) ?_ ?_ ?_
        · exact ⟨l2, _, _, _, rfl, P0 q⟩
        · rintro m' j r' τ e' ⟨l2, x8, x9, x10, rfl, P⟩
          have mj : m'.length + 1 ≤ hs.length := by
            have := congrArg List.length e'
            simp at this
            omega
          have ll := P.len
          have g1 : (findD (tD l2) (.tuple [.int (nearN q.1 (rngN hs w j)), .int (nearN q.2 (rngN hs w j))])).getD (.int 0) = .int (valP l2 (stepP hs w q j)) := get_tD l2 (stepP hs w q j)
          have p1 : ∀ v, putD (tD l2) (.tuple [.int (nearN q.1 (rngN hs w j)), .int (nearN q.2 (rngN hs w j))]) (.int v) = tD (putP l2 (stepP hs w q j) v) := put_tD l2 (stepP hs w q j)
          simp [d1, g1, p1]
          exact ⟨by simp [tD]; omega, _, rfl, P.put j⟩
        · rintro τ ⟨l2, x8, x9, x10, rfl, P⟩
          simp
          exact ⟨l2, rfl, fun _ _ => P.next⟩
      · rintro τ ⟨l2, x6, x7, x8, x9, x10, rfl, P⟩
        have C2 := (P (0, 0)).done C
        have ll := (P (0, 0)).len
        rw [← effL_succ] at C2
        simp at ll
        simp
        exact ⟨l2, rfl, C2, by omega⟩
    · rintro τ ⟨l, x4, x5, x6, x7, x8, x9, x10, rfl, C, len⟩
      have pw : hs.length ^ k ≤ 100000 := pow_small hl hk
      simp at C len
      simp
      exact ⟨l, rfl, C, by omega⟩
  obtain ⟨c, e, l, rfl, h⟩ := key
  exact ⟨l, e, h⟩
theorem m_require_pair_eq {hs : List Int} {w : Int} {q : PI} (h0 : 0 ≤ q.1) (h1 : q.1 ≤ q.2) (h2 : q.2 ≤ topN hs w) : m_require_pair [vD hs w, pD q] = .ok .none := by
  have a0 : q.1 ≤ topN hs w := by omega
  have a1 : 0 ≤ q.2 := by omega
  have a2 : ¬ q.2 < q.1 := by omega
  refine fnV_eq rfl ?_
  unfold c_require_pair
  simp [m_top_of_eq, pD]
  refine lc_map [q.1, q.2] PyData.int (fun _ => .bool true) rfl (by simp) (fun i hi => ?_) ?_
  · have : 0 ≤ i ∧ i ≤ topN hs w := by
      simp at hi
      omega
    simp [m_is_integer_int, this]
  · have b2 : boolsOf [PyData.bool true, PyData.bool true] = some [true, true] := rfl
    simp [b2, a2]
theorem sum_filter (l : List PI) (f : PI → Int) (p : PI → Prop) [DecidablePred p] : ((l.filter fun q => decide (p q)).map f).sum = sumI l fun q => f q * if p q then 1 else 0 := by
  induction l with
  | nil => rfl
  | cons a l ih =>
    rw [sumI_cons, ← ih]
    by_cases c : p a
    · simp [c]
    · simp [c]
theorem effL_ne {hs : List Int} {w : Int} (h : 1 ≤ hs.length) (k : Nat) : ∃ x, x ∈ effL hs w k := by
  have : 0 < (effL hs w k).length := by
    unfold effL
    rw [List.length_map, allR_len]
    exact Nat.pow_pos h
  obtain ⟨x, r, e⟩ := List.exists_cons_of_length_pos this
  exact ⟨x, by rw [e]; simp⟩
theorem Cnt.ne {l : List (PI × Int)} {L : List PI} (c : Cnt l L) {x : PI} (h : x ∈ L) : l ≠ [] := fun e => by
  subst e
  have := (c.mem x).mpr h
  simp at this
theorem sameK_tD {l : List (PI × Int)} (h : l ≠ []) (q : PI) : sameKind (tD l) (pD q) = true := by
  cases l with
  | nil => exact absurd rfl h
  | cons a l => rfl
theorem m_count_rows_eq {hs : List Int} {w : Int} (g : Good hs w) (hl : hs.length ≤ 10) {k : Nat} (hk : k ≤ 5) {q : PI} (h0 : 0 ≤ q.1) (h1 : q.1 ≤ q.2) (h2 : q.2 ≤ topN hs w) : m_count_rows [vD hs w, pD q, .int k] = .ok (.int ((effL hs w k).count q)) := by
  obtain ⟨l, e, C, len⟩ := m_counts_of_eq (w := w) hl hk
  have rn : m_require_number [.int k, .int 60] = .ok .none := m_require_number_eq' (by omega) (by omega)
  have sk : sameKind (tD l) (pD q) = true := by
    obtain ⟨x, hx⟩ := effL_ne (hs := hs) (w := w) g.l1 k
    exact sameK_tD (C.ne hx) q
  refine fnV_eq rfl ?_
  unfold c_count_rows
  simp [m_require_view_good g, m_require_pair_eq h0 h1 h2, rn, e, sk, get_tD, C.val]
theorem m_count_sure_eq {hs : List Int} {w : Int} (g : Good hs w) (hl : hs.length ≤ 10) {k : Nat} (hk : k ≤ 5) : m_count_sure [vD hs w, .int k] = .ok (.int (sumI (effL hs w k) fun q => if q.1 = q.2 then 1 else 0)) := by
  obtain ⟨l, e, C, len⟩ := m_counts_of_eq (w := w) hl hk
  have rn : m_require_number [.int k, .int 60] = .ok .none := m_require_number_eq' (by omega) (by omega)
  refine fnV_eq rfl ?_
  unfold c_count_sure
  simp [m_require_view_good g, rn, e, keys_tD]
  refine lc_filter (l.map (·.1)) pD (fun q => decide (q.1 = q.2)) (fun q => .int (valP l q)) (by simp [Function.comp_def]) (by simp; omega) (fun q hq => ?_) ?_
  · have d1 := dix_tD hq
    obtain ⟨a, b⟩ := q
    by_cases c : a = b
    · subst c
      simp [pD] at d1 ⊢
      simp [d1]
    · simp [pD, c]
  · have ei := intsOf_fun ((l.map (·.1)).filter fun q => decide (q.1 = q.2)) fun q => valP l q
    simp [ei]
    rw [← C.sum]
    exact sum_filter _ _ _
end Rv

/-! P20: the words about enumerate of an own list. -/
namespace Lin
open PySem L2
theorem ows_eq {α : Type} (o : Option Lin.Slot) (f : List D → R α) (Q : α → Prop) : pst (match o with | some (.own none (.lst d)) => f d | _ => .stuck) Q = ows o fun t d => t = none ∧ pst (f d) Q := by
  rcases o with _ | s
  · rfl
  rcases s with _ | _ | ⟨u, c⟩
  · rfl
  · rfl
  cases c with
  | lst d =>
    cases u with
    | none => exact propext ⟨fun h => ⟨rfl, h⟩, fun h => h.2⟩
    | some k => exact propext ⟨fun h => h.elim, fun h => nomatch h.1⟩
  | dct b kvs => cases u <;> rfl
@[simp ↓] theorem s_isiOwn (T : String) (i : Nat) (τ : Ev) (Q : Hold (D × Ev → Prop)) : @post _ (isiOwn T i τ) Q = @ownK (τ[i]?) ⟨fun _ _ => Q.val (.bool (isT T (.list [])), τ)⟩ := by
  simp only [post_def, ownK_def]
  unfold isiOwn
  generalize τ[i]? = o
  rcases o with _ | s
  · rfl
  rcases s with _ | _ | ⟨u, c⟩
  · rfl
  · rfl
  cases c <;> rfl
@[simp ↓] theorem s_lcEnumOwn (i : Nat) (vs : List Nat) (g : D → Ev → Option Ev) (ct : CT) (ce : CE) (τ : Ev) (Q : Hold (List D × Ev → Prop)) : @post _ (lcEnumOwn i vs g ct ce τ) Q = @ownK (τ[i]?) ⟨fun t ds => t = none ∧ @lcK ⟨(vs, g, ct, ce)⟩ (enumD ds) (wipeE (τ.set i .free) vs) ⟨fun q => Q.val (q.1, (wipeE q.2 vs).set i (.own none (.lst ds)))⟩⟩ := by
  simp only [post_def, ownK_def, lcK_def]
  refine (ows_eq (τ[i]?) (fun ds => (R.noexc (lcLoop vs g ct ce (enumD ds) [] (wipeE (τ.set i .free) vs))).bind fun q => .ok (q.1, (wipeE q.2 vs).set i (.own none (.lst ds)))) Q.val).trans ?_
  refine congrArg (ows _) (funext fun t => funext fun ds => ?_)
  refine congrArg (t = none ∧ ·) ?_
  rw [pst_bind]
  cases lcLoop vs g ct ce (enumD ds) [] (wipeE (τ.set i .free) vs) <;> rfl
/-- a loop through which a slot keeps its list -/
structure loopOK [c : Hold (Nat × List D × (D → Ev → Option Ev) × CS)] (ds : List D) (τ : Ev) [Q : Hold (Lin.Flow × Ev → Prop)] : Prop where
  go : pst (loopO c.val.1 c.val.2.1 (bodyS c.val.2.2.1 c.val.2.2.2) ds τ) Q.val
theorem loopOK_def (c : Hold (Nat × List D × (D → Ev → Option Ev) × CS)) (ds : List D) (τ : Ev) (Q : Hold (Lin.Flow × Ev → Prop)) : @loopOK c ds τ Q = pst (loopO c.val.1 c.val.2.1 (bodyS c.val.2.2.1 c.val.2.2.2) ds τ) Q.val := propext ⟨fun h => h.go, fun h => ⟨h⟩⟩
@[simp ↓] theorem s_forEnumOwn (i : Nat) (g : D → Ev → Option Ev) (c : CS) (τ : Ev) (Q : Hold (Lin.Flow × Ev → Prop)) : @Runs ⟨forEnumOwnS i g c⟩ τ Q = @ownK (τ[i]?) ⟨fun t ds => t = none ∧ @loopOK ⟨(i, ds, g, c)⟩ (enumD ds) (τ.set i (.own (some 0) (.lst ds))) ⟨fun q => @owncK (q.2[i]?) ⟨fun u cc => u = some 0 ∧ Q.val (q.1, q.2.set i (.own none cc))⟩⟩⟩ := by
  simp only [runs_def, ownK_def, loopOK_def, owncK_def]
  refine (ows_eq (τ[i]?) (fun ds => (loopO i ds (bodyS g c) (enumD ds) (τ.set i (.own (some 0) (.lst ds)))).bind (unC i)) Q.val).trans ?_
  refine congrArg (ows _) (funext fun t => funext fun ds => ?_)
  refine congrArg (t = none ∧ ·) ?_
  rw [pst_bind]
  refine congrArg (pst _) (funext fun q => ?_)
  show pst (unC i q) _ = _
  unfold unC
  generalize q.2[i]? = o
  rcases o with _ | s
  · rfl
  rcases s with _ | _ | ⟨u, cc⟩
  · rfl
  · rfl
  rcases u with _ | k
  · exact propext ⟨fun h => h.elim, fun h => nomatch h.1⟩
  cases k with
  | zero => exact propext ⟨fun h => ⟨rfl, h⟩, fun h => h.2⟩
  | succ k => exact propext ⟨fun h => h.elim, fun h => nomatch h.1⟩
theorem loopO_map {α : Type} {i : Nat} {g : D → Ev → Option Ev} {c : CS} {xs ds : List D} {τ : Ev} {Q : Hold (Lin.Flow × Ev → Prop)} (l : List α) (e : α → D) (hd : ds = l.map e) (P : List α → Ev → Prop) (h0 : P [] τ) (hs : ∀ m τ, P m τ → τ[i]? = some (.own (some 0) (.lst xs)))
    (ht : ∀ (m : List α) (a : α) (r : List α) τ, l = m ++ a :: r → P m τ → @optK _ (g (e a) τ) ⟨fun τ1 => @Runs ⟨c⟩ τ1 ⟨fun q => match q.1 with
      | .next => P (m ++ [a]) q.2
      | .cont => P (m ++ [a]) q.2
      | .brk => Q.val (.next, q.2)
      | f => Q.val (f, q.2)⟩⟩) (hq : ∀ τ, P l τ → Q.val (.next, τ)) : @loopOK ⟨(i, xs, g, c)⟩ ds τ Q := by
  subst hd
  rw [loopOK_def]
  have key : ∀ (r m : List α) (τ : Ev), l = m ++ r → P m τ → pst (loopO i xs (bodyS g c) (r.map e) τ) Q.val := by
    intro r
    induction r with
    | nil =>
      intro m τ el hp
      rw [List.append_nil] at el
      subst el
      unfold loopO
      rw [List.map_nil]
      simp only
      rw [if_pos (show HoldsAt i xs τ from hs _ τ hp)]
      exact hq τ hp
    | cons a r ih =>
      intro m τ el hp
      have h := opt_out (ht m a r τ el hp)
      unfold loopO
      rw [List.map_cons]
      simp only
      rw [if_pos (show HoldsAt i xs τ from hs _ τ hp), pst_bind]
      show pst ((R.ofOpt (g (e a) τ)).bind c) _
      cases e1 : g (e a) τ with
      | none => rw [e1] at h; exact h.elim
      | some τ1 =>
        rw [e1] at h
        obtain ⟨⟨f, τ2⟩, e2, h2⟩ := pst_get (run_out h)
        simp only at e2
        show pst (c τ1) _
        rw [e2]
        have nxt : P (m ++ [a]) τ2 → pst (loopO i xs (bodyS g c) (r.map e) τ2) Q.val := fun hp2 => ih (m ++ [a]) τ2 (by rw [el]; simp) hp2
        cases f with
        | next => exact nxt h2
        | cont => exact nxt h2
        | brk => exact h2
        | ret d => exact h2
        | retO d => exact h2
        | retC d => exact h2
  exact key l [] τ rfl h0
end Lin

/-! P21: rows in classes. -/
namespace Rv
open PySem L2 Lin
theorem enumD_map {α : Type} (e : α → D) (l : List α) (d : α) : enumD (l.map e) = (List.range l.length).map fun k => PyData.tuple [nD k, e (l.getD k d)] := by
  apply List.ext_getElem?
  intro i
  by_cases h : i < l.length
  · have h1 : i < (enumD (l.map e)).length := by rw [enumD_len]; simpa using h
    obtain ⟨x, e1, e2⟩ := enumD_get (List.getElem?_eq_getElem h1)
    rw [List.getElem?_eq_getElem h1, e2]
    simp [h] at e1
    simp [h, nD, ← e1]
  · rw [List.getElem?_eq_none (by rw [enumD_len]; simp; omega), List.getElem?_eq_none (by simp; omega)]
def spotsN (f : Nat → Int × Int) (due : List (List Nat)) (k : Nat) : List Nat := (List.range due.length).filter fun s => decide (f ((due.getD s []).getD 0 0) = f k)
def stepC (f : Nat → Int × Int) (due : List (List Nat)) (k : Nat) : List (List Nat) := match spotsN f due k with
  | [] => due ++ [[k]]
  | s :: _ => due.set s (due.getD s [] ++ [k])
def clsN (f : Nat → Int × Int) (n : Nat) : List (List Nat) := (List.range n).foldl (stepC f) []
/-- the lots made of the first k -/
structure Lots (f : Nat → Int × Int) (k : Nat) (due : List (List Nat)) : Prop where
  ok : ∀ lot ∈ due, lot ≠ [] ∧ ∀ i ∈ lot, i < k ∧ f i = f (lot.getD 0 0)
  len : due.length ≤ k
  tot : ∀ lot ∈ due, lot.length ≤ k
theorem lots0 (f : Nat → Int × Int) : Lots f 0 [] := ⟨by simp, by simp, by simp⟩
theorem getD_mem {α : Type} {l : List α} {s : Nat} {d : α} (h : s < l.length) : l.getD s d ∈ l := by
  rw [List.getD_eq_getElem?_getD, List.getElem?_eq_getElem h]
  exact List.getElem_mem h
theorem spots_mem {f : Nat → Int × Int} {due : List (List Nat)} {k s : Nat} {r : List Nat} (h : spotsN f due k = s :: r) : s < due.length ∧ f ((due.getD s []).getD 0 0) = f k := by
  have : s ∈ spotsN f due k := by rw [h]; simp
  obtain ⟨h1, h2⟩ := List.mem_filter.mp this
  exact ⟨by simpa using h1, by simpa using h2⟩
theorem Lots.step {f : Nat → Int × Int} {k : Nat} {due : List (List Nat)} (h : Lots f k due) : Lots f (k + 1) (stepC f due k) := by
  unfold stepC
  cases hs : spotsN f due k with
  | nil =>
    simp only []
    refine ⟨fun lot hl => ?_, by simp; have := h.len; omega, fun lot hl => ?_⟩
    · rcases List.mem_append.mp hl with hl | hl
      · obtain ⟨h1, h2⟩ := h.ok lot hl
        exact ⟨h1, fun i hi => ⟨by have := (h2 i hi).1; omega, (h2 i hi).2⟩⟩
      · simp at hl
        subst hl
        simp
    · rcases List.mem_append.mp hl with hl | hl
      · have := h.tot lot hl; omega
      · simp at hl; subst hl; simp
  | cons s r =>
    simp only []
    obtain ⟨s1, s2⟩ := spots_mem hs
    have m := getD_mem (l := due) (d := ([] : List Nat)) s1
    obtain ⟨g1, g2⟩ := h.ok _ m
    have hd : ∀ x, (due.getD s [] ++ [x]).getD 0 0 = (due.getD s []).getD 0 0 := fun x => by
      cases e : due.getD s [] with
      | nil => exact absurd e g1
      | cons a b => rfl
    refine ⟨fun lot hl => ?_, by simp; have := h.len; omega, fun lot hl => ?_⟩
    · rcases List.mem_or_eq_of_mem_set hl with hl | rfl
      · obtain ⟨h1, h2⟩ := h.ok lot hl
        exact ⟨h1, fun i hi => ⟨by have := (h2 i hi).1; omega, (h2 i hi).2⟩⟩
      · refine ⟨by simp, fun i hi => ?_⟩
        rw [hd]
        rcases List.mem_append.mp hi with hi | hi
        · exact ⟨by have := (g2 i hi).1; omega, (g2 i hi).2⟩
        · simp at hi
          subst hi
          exact ⟨by omega, s2.symm⟩
    · rcases List.mem_or_eq_of_mem_set hl with hl | rfl
      · have := h.tot lot hl; omega
      · have := h.tot _ m
        simp
        exact this
theorem clsN_succ (f : Nat → Int × Int) (n : Nat) : clsN f (n + 1) = stepC f (clsN f n) n := by
  unfold clsN
  rw [List.range_succ, List.foldl_append]
  rfl
theorem lotsN (f : Nat → Int × Int) : ∀ n, Lots f n (clsN f n)
  | 0 => lots0 f
  | n + 1 => by rw [clsN_succ]; exact (lotsN f n).step
theorem clsN_congr {f g : Nat → Int × Int} : ∀ {n : Nat}, (∀ i, i < n → f i = g i) → clsN f n = clsN g n
  | 0, _ => rfl
  | n + 1, h => by
    rw [clsN_succ, clsN_succ, ← clsN_congr (f := f) (g := g) (n := n) fun i hi => h i (by omega)]
    have L := lotsN f n
    have e : spotsN f (clsN f n) n = spotsN g (clsN f n) n := by
      unfold spotsN
      refine List.filter_congr fun s hs => ?_
      have hs' : s < (clsN f n).length := by simpa using hs
      obtain ⟨h1, h2⟩ := L.ok _ (getD_mem (d := ([] : List Nat)) hs')
      have lt : ((clsN f n).getD s []).getD 0 0 < n := by
        cases e : (clsN f n).getD s [] with
        | nil => exact absurd e h1
        | cons a b => exact (h2 a (by rw [e]; simp)).1
      rw [h _ (by omega), h n (by omega)]
    unfold stepC
    rw [e]
def rowsD (R : List (List Nat)) : D := .tuple (R.map rD)
def effF (hs : List Int) (w : Int) (R : List (List Nat)) (i : Nat) : Int × Int := effN hs w (R.getD i [])
theorem head_rD {q : List Nat} (h : q ≠ []) : ixD (rD q) (.int 0) = some (nD (q.getD 0 0)) := by
  cases q with
  | nil => exact absurd rfl h
  | cons a b => simp [rD]
theorem ix_list {α : Type} (e : α → D) (l : List α) (d : α) {k : Nat} (h : k < l.length) : ixD (.list (l.map e)) (.int (k : Int)) = some (e (l.getD k d)) := by
  simp [h]
theorem ix_tup {α : Type} (e : α → D) (l : List α) (d : α) {k : Nat} (h : k < l.length) : ixD (.tuple (l.map e)) (.int (k : Int)) = some (e (l.getD k d)) := by
  simp [h]
theorem eq_pD (a b : Int × Int) : eqD (pD a) (pD b) = some (.bool (decide (a = b))) := by
  obtain ⟨a1, a2⟩ := a
  obtain ⟨b1, b2⟩ := b
  simp [pD]
theorem m_classes_eq {hs : List Int} {w : Int} (g : Good hs w) {R : List (List Nat)} (h1 : 1 ≤ R.length) (h6 : R.length ≤ 6) (hR : ∀ q ∈ R, q.length ≤ 30 ∧ ∀ i ∈ q, i < hs.length) : m_classes [vD hs w, rowsD R] = .ok ((clsN (effF hs w R) R.length).map rD) := by
  refine fnO_eq rfl ?_
  unfold c_classes
  have c1 : (1 : Int) ≤ R.length := by omega
  have c6 : (R.length : Int) ≤ 6 := by omega
  simp [m_require_view_good g, rowsD, c1, c6]
  refine lc_map R rD (fun _ => .bool true) rfl (by omega) (fun q hq => ?_) ?_
  · simp [m_is_row_eq (w := w) (hR q hq).2 (hR q hq).1]
  have fE : ∀ i, i < R.length → (R.map fun q => pD (effN hs w q))[i]? = some (pD (effF hs w R i)) := fun i hi => by
    unfold effF
    simp [hi]
  simp
  refine lc_map R rD (fun q => pD (effN hs w q)) rfl (by omega) (fun q hq => ?_) ?_
  · simp [m_effect_of_eq (w := w) (r := q) (hR q hq).2]
  simp
  generalize hf : effF hs w R = f at *
  refine loop_gen (fun i τ => ∃ (x4 x5 x6 x7 x8 x9 : Lin.Slot), τ = [.val (vD hs w), .val (rowsD R), .val (.list (R.map fun q => pD (effN hs w q))), .own none (.lst ((clsN f i).map rD)), x4, x5, x6, x7, x8, x9]) ⟨_, _, _, _, _, _, rfl⟩ ?_ ?_
  · rintro i d τ hi ⟨x4, x5, x6, x7, x8, x9, rfl⟩
    have lt : i < R.length := by
      have := (List.getElem?_eq_some_iff.mp hi).1
      rw [enumD_len] at this
      simpa using this
    obtain ⟨x, ex, rfl⟩ := enumD_get hi
    rw [fE i lt] at ex
    cases ex
    have L := lotsN f i
    have len := L.len
    simp
    refine lc_filter (List.range (clsN f i).length) (fun s => .tuple [nD s, rD ((clsN f i).getD s [])]) (fun s => decide (f (((clsN f i).getD s []).getD 0 0) = f i)) nD (enumD_map rD _ []) (by simp; omega) (fun s hsx => ?_) ?_
    · have hs' : s < (clsN f i).length := by simpa using hsx
      obtain ⟨h1, h2⟩ := L.ok _ (getD_mem (d := ([] : List Nat)) hs')
      generalize (clsN f i).getD s [] = lot at *
      have lt2 : lot.getD 0 0 < R.length := by
        cases lot with
        | nil => exact absurd rfl h1
        | cons a b => have := (h2 a (by simp)).1; simp; omega
      have i0 := head_rD h1
      have i1 : ixD (.list (R.map fun q => pD (effN hs w q))) (.int ((lot.getD 0 0 : Nat) : Int)) = some (pD (f (lot.getD 0 0))) := by
        have := fE _ lt2
        simpa using this
      have i2 := eq_pD (f (lot.getD 0 0)) (f i)
      have i0' : ixD (rD lot) (.int 0) = some (.int ((lot.getD 0 0 : Nat) : Int)) := i0
      generalize lot.getD 0 0 = j at *
      have i1' : Option.map (fun q => pD (effN hs w q)) R[j]? = some (pD (f j)) := by
        have := fE j lt2
        rwa [List.getElem?_map] at this
      simp only [show ∀ k : Nat, nD k = .int k from fun _ => rfl]
      by_cases c : f j = f i
      · simp only [c, decide_true] at i2
        simp [i0', i1', i2, c, nD]
      · simp only [c, decide_false] at i2
        simp [i0', i1', i2, c]
    · have sp : (List.range (clsN f i).length).filter (fun s => decide (f (((clsN f i).getD s []).getD 0 0) = f i)) = spotsN f (clsN f i) i := rfl
      have cs := clsN_succ f i
      unfold stepC at cs
      simp only [sp]
      cases hsp : spotsN f (clsN f i) i with
      | nil =>
        rw [hsp] at cs
        simp only [] at cs
        simp
        exact ⟨by omega, by rw [cs]; simp [rD, nD]⟩
      | cons s r =>
        rw [hsp] at cs
        simp only [] at cs
        obtain ⟨s1, s2⟩ := spots_mem hsp
        have i3 : ixD (.list ((clsN f i).map rD)) (nD s) = some (rD ((clsN f i).getD s [])) := ix_list rD _ [] s1
        have tl := L.tot _ (getD_mem (d := ([] : List Nat)) s1)
        generalize (clsN f i).getD s [] = lot at *
        simp [i3, rD]
        refine ⟨by omega, ?_⟩
        have i4 : ixN (clsN f i).length (s : Int) = some s := by
          unfold ixN
          have : ¬ ((s : Int) < 0) := by omega
          simp [this]
          omega
        simp [nD, i4]
        rw [cs]
        simp [rD, List.map_set, nD]
  · rintro τ ⟨x4, x5, x6, x7, x8, x9, rfl⟩
    have : (enumD (R.map fun q => pD (effN hs w q))).length = R.length := by rw [enumD_len]; simp
    simp [this]
theorem drop1 (q : List Nat) : cutD (q.map nD) (some 1) none = (q.drop 1).map nD := by
  rw [cutD_map]
  congr 1
  cases q with
  | nil => rfl
  | cons a b =>
    simp [cutL, HT.sIx]
theorem take1 {α : Type} (e : α → D) (a : α) (l : List α) : cutD ((a :: l).map e) none (some 1) = [e a] := by
  rw [cutD_map]
  simp [cutL, HT.sIx]
end Rv

namespace Rv
open PySem L2 Lin
noncomputable section
/-- the words of the errors that are raised -/
def errNm (n : Nat) : Option Str := match n with
  | 0 => some "view"
  | 2 => some "position"
  | 3 => some "row"
  | 4 => some "items"
  | 5 => some "heights"
  | 6 => some "number"
  | _ => none
theorem errNm_cases (n : Nat) (w : Str) (h : errNm n = some w) : n = 0 ∨ n = 2 ∨ n = 3 ∨ n = 4 ∨ n = 5 ∨ n = 6 := by
  unfold errNm at h
  split at h
  · simp
  · simp
  · simp
  · simp
  · simp
  · simp
  · cases h
def c_law_error_name (n : Nat) (a : Addr) : CS := (seqS (setOS 1 (lstO (consA (isEC 0 a (takesE n 0)) (consA (isEC 0 a (takesE n 1)) (consA (isEC 0 a (takesE n 2)) nilA)))))
    (seqS (preS 1 (setOS 1 (catO (varC 1) (frzC (lstO (consA (isEC 0 a (takesE n 3)) (consA (isEC 0 a (takesE n 4)) (consA (isEC 0 a (takesE n 5)) nilA))))))))
    (seqS (preS 1 (setOS 1 (catO (varC 1) (frzC (lstO (consA (isEC 0 a (takesE n 7)) (consA (isEC 0 a (takesE n 8)) (consA (isEC 0 a (takesE n 9)) nilA))))))))
    (seqS (appS 1 (isEC 0 a (takesE n 6)))
    (seqS (preS 1 (setOS 1 (catO (varC 1) (frzC (lstO (consA (isEC 0 a (takesE n 10)) (consA (isEC 0 a true) nilA)))))))
    (seqS (setS 2 (litC (.str "view item position row items heights sightings other undo number base value")))
    (seqS (preS 1 (setS 3 (frzC (lcO [5, 4] (zipIE (consA (frzC (splitC (varC 2) (litC (.str " ")))) (consA (varC 1) nilA))) (tupG (consG (setG 5) (consG (setG 4) nilG))) (bvC (varC 4)) (varC 5)))))
    (retS (ifC (bvC (op2C eqD (sliceC slD (varC 3) (partP (litC (.int 1))) noP) (frzC (lstO (consA (litC (.str "base")) (consA (litC (.str "value")) nilA)))))) (op2C ixD (varC 3) (litC (.int 0))) (litC (.str "else")))))))))))
def tb0_law_one : Nat → Option (List D → R D) := fun n => match n with
  | 17 => some m_count_sure
  | 18 => some (asV m_classes)
  | _ => none
def tb1_law_one : Nat → Option (List D → R D) := fun n => match n with
  | 19 => some m_greatest_scroll
  | 20 => some m_fewest_for
  | 21 => some m_count_rows
  | _ => none
def c_law_one : CS := (seqS (asgS (varC 1) (tupG (consG (setG 2) (consG (setG 3) (consG (setG 4) nilG)))))
    (ifS (bvC (op2C ltD (varC 0) (litC (.int 2)))) (exprS (callF tb0_law_one (op2C ixD (frzC (lstO (consA (litC (funD 17)) (consA (litC (funD 18)) nilA)))) (varC 0)) (consA (varC 2) (consA (varC 3) nilA)))) (ifS (bvC (op2C ltD (varC 0) (litC (.int 5)))) (exprS (callF tb1_law_one (op2C ixD (frzC (lstO (consA (litC (funD 19)) (consA (litC (funD 20)) (consA (litC (funD 21)) nilA))))) (op2C subD (varC 0) (litC (.int 2)))) (consA (varC 2) (consA (varC 3) (consA (varC 4) nilA))))) (ifS (bvC (op2C eqD (varC 0) (litC (.int 5)))) (exprS (frzC (fnCO m_windows_together (consA (varC 2) (consA (varC 3) nilA))))) (exprS (frzC (fnCO m_windows_alike (consA (varC 2) (consA (varC 3) (consA (varC 4) nilA))))))))))
def m_law_one : List D → R D := fnV 2 5 c_law_one
def c_law_outcome_of : CS := (seqS (tryErrS 2 errNm (exprS (fnC m_law_one (consA (varC 0) (consA (varC 1) nilA)))))
    (retS (litC (.str "fine"))))
def m_law_outcome_of : List D → R D := fnV 2 3 c_law_outcome_of
def c_law_rows_right : CS := (retS (op2C eqD (frzC (lcO [1, 2, 3] (seqI (varC 0)) (tupG (consG (setG 1) (consG (setG 2) (consG (setG 3) nilG)))) (bvC (op2C neD (fnC m_law_outcome_of (consA (varC 1) (consA (varC 2) nilA))) (varC 3))) (litC (.int 1)))) (frzC (lstO nilA))))
def m_law_rows_right : List D → R D := fnV 1 4 c_law_rows_right
def c_law_bounds_right : CS := (seqS (asgS (tupC (consA (tupC (consA (op2C mulD (tupC (consA (litC (.int 10)) nilA)) (litC (.int 10))) (consA (litC (.int 30)) nilA))) (consA (op2C mulD (tupC (consA (litC (.int 10)) nilA)) (litC (.int 10))) (consA (op2C powD (litC (.int 10)) (litC (.int 12))) nilA)))) (tupG (consG (setG 0) (consG (setG 1) (consG (setG 2) nilG)))))
    (seqS (setS 3 (frzC (lstO (consA (tupC (consA (litC (.int 2)) (consA (tupC (consA (varC 0) (consA (litC (.int 70)) (consA (varC 2) nilA)))) (consA (litC (.str "fine")) nilA)))) (consA (tupC (consA (litC (.int 2)) (consA (tupC (consA (varC 0) (consA (litC (.int 71)) (consA (litC (.int 0)) nilA)))) (consA (litC (.str "position")) nilA)))) (consA (tupC (consA (litC (.int 2)) (consA (tupC (consA (varC 0) (consA (litC (.int 0)) (consA (op2C addD (varC 2) (litC (.int 1))) nilA)))) (consA (litC (.str "number")) nilA)))) nilA))))))
    (seqS (setS 3 (op2C addD (varC 3) (frzC (lstO (consA (tupC (consA (litC (.int 3)) (consA (tupC (consA (varC 0) (consA (litC (.int 0)) (consA (op2C powD (litC (.int 10)) (litC (.int 15))) nilA)))) (consA (litC (.str "fine")) nilA)))) (consA (tupC (consA (litC (.int 0)) (consA (tupC (consA (varC 0) (consA (litC (.int 60)) (consA (litC (.int 0)) nilA)))) (consA (litC (.str "fine")) nilA)))) (consA (tupC (consA (litC (.int 4)) (consA (tupC (consA (varC 0) (consA (tupC (consA (litC (.int 0)) (consA (litC (.int 70)) nilA))) (consA (litC (.int 60)) nilA)))) (consA (litC (.str "fine")) nilA)))) nilA)))))))
    (seqS (setS 3 (op2C addD (varC 3) (frzC (lcO [4] (tupI (tupC (consA (op2C addD (op2C powD (litC (.int 10)) (litC (.int 15))) (litC (.int 1))) (consA (op1C negD (litC (.int 1))) nilA)))) (setG 4) yesT (tupC (consA (litC (.int 3)) (consA (tupC (consA (varC 0) (consA (litC (.int 0)) (consA (varC 4) nilA)))) (consA (litC (.str "number")) nilA))))))))
    (seqS (setS 3 (op2C addD (varC 3) (frzC (lcO [4] (tupI (tupC (consA (litC (.int 61)) (consA (litC (.bool true)) (consA (op1C negD (litC (.int 1))) nilA))))) (setG 4) yesT (tupC (consA (litC (.int 0)) (consA (tupC (consA (varC 0) (consA (varC 4) (consA (litC (.int 0)) nilA)))) (consA (litC (.str "number")) nilA))))))))
    (seqS (setS 3 (op2C addD (varC 3) (frzC (lcO [5] (tupI (tupC (consA (tupC (consA (litC (.int 5)) (consA (litC (.int 4)) nilA))) (consA (tupC (consA (litC (.int 0)) (consA (litC (.int 71)) nilA))) (consA (frzC (lstO (consA (litC (.int 0)) (consA (litC (.int 0)) nilA)))) (consA (tupC (consA (litC (.int 0)) (consA (litC (.int 0)) (consA (litC (.int 0)) nilA)))) nilA)))))) (setG 5) yesT (tupC (consA (litC (.int 4)) (consA (tupC (consA (varC 0) (consA (varC 5) (consA (litC (.int 0)) nilA)))) (consA (litC (.str "position")) nilA))))))))
    (seqS (setS 3 (op2C addD (varC 3) (frzC (lstO (consA (tupC (consA (litC (.int 4)) (consA (tupC (consA (varC 0) (consA (tupC (consA (litC (.int 0)) (consA (litC (.int 0)) nilA))) (consA (litC (.int 61)) nilA)))) (consA (litC (.str "number")) nilA)))) (consA (tupC (consA (litC (.int 1)) (consA (tupC (consA (varC 0) (consA (op2C mulD (tupC (consA (tupC (consA (litC (.int 0)) nilA)) nilA)) (litC (.int 6))) (consA (litC (.int 0)) nilA)))) (consA (litC (.str "fine")) nilA)))) nilA))))))
    (seqS (setS 3 (op2C addD (varC 3) (frzC (lcO [6] (tupI (tupC (consA (op2C mulD (tupC (consA (tupC (consA (litC (.int 0)) nilA)) nilA)) (litC (.int 7))) (consA (tupC nilA) (consA (tupC (consA (tupC (consA (litC (.int 10)) nilA)) nilA)) nilA))))) (setG 6) yesT (tupC (consA (litC (.int 1)) (consA (tupC (consA (varC 0) (consA (varC 6) (consA (litC (.int 0)) nilA)))) (consA (litC (.str "row")) nilA))))))))
    (seqS (setS 3 (op2C addD (varC 3) (frzC (lstO (consA (tupC (consA (litC (.int 5)) (consA (tupC (consA (varC 1) (consA (tupC (consA (litC (.int 0)) (consA (litC (.int 9)) nilA))) (consA (litC (.int 0)) nilA)))) (consA (litC (.str "fine")) nilA)))) (consA (tupC (consA (litC (.int 6)) (consA (tupC (consA (varC 1) (consA (op2C mulD (tupC (consA (litC (.int 0)) nilA)) (litC (.int 30))) (consA (tupC nilA) nilA)))) (consA (litC (.str "fine")) nilA)))) nilA))))))
    (seqS (setS 3 (op2C addD (varC 3) (frzC (lcO [6] (tupI (tupC (consA (tupC (consA (litC (.int 0)) (consA (litC (.int 10)) nilA))) (consA (tupC (consA (litC (.int 1)) (consA (litC (.int 0)) nilA))) (consA (tupC nilA) nilA))))) (setG 6) yesT (tupC (consA (litC (.int 5)) (consA (tupC (consA (varC 1) (consA (varC 6) (consA (litC (.int 0)) nilA)))) (consA (litC (.str "items")) nilA))))))))
    (seqS (setS 3 (op2C addD (varC 3) (frzC (lcO [6] (tupI (tupC (consA (tupC (consA (litC (.int 101)) nilA)) (consA (tupC nilA) (consA (frzC (lstO (consA (litC (.int 10)) nilA))) nilA))))) (setG 6) yesT (tupC (consA (litC (.int 5)) (consA (tupC (consA (varC 6) (consA (tupC (consA (litC (.int 0)) nilA)) (consA (litC (.int 0)) nilA)))) (consA (litC (.str "heights")) nilA))))))))
    (seqS (setS 3 (op2C addD (varC 3) (frzC (lstO (consA (tupC (consA (litC (.int 6)) (consA (tupC (consA (varC 1) (consA (op2C mulD (tupC (consA (litC (.int 0)) nilA)) (litC (.int 31))) (consA (tupC nilA) nilA)))) (consA (litC (.str "row")) nilA)))) (consA (tupC (consA (litC (.int 6)) (consA (tupC (consA (varC 1) (consA (tupC nilA) (consA (tupC (consA (litC (.int 10)) nilA)) nilA)))) (consA (litC (.str "row")) nilA)))) nilA))))))
    (retS (fnC m_law_rows_right (consA (varC 3) nilA)))))))))))))))
def m_law_bounds_right : List D → R D := fnV 0 7 c_law_bounds_right
def c_law : CS := (seqS (forS (rng1I (consA (callC maxD (consA (litC (.int 4)) (consA (callC minD (consA (litC (.int 12)) (consA (callC lenD (consA (varC 0) nilA)) nilA))) nilA))) nilA)) (setG 1) (seqS (setOS 2 (fnCO m_law_source (consA (varC 0) (consA (varC 1) nilA))))
    (seqS (setS 3 (fnCM 2 m_law_view (consA (litC (.int 8)) (consA (litC (.int 9)) nilA))))
    (seqS (setS 4 (op2C ixD (frzC (lstO (consA (litC .none) (consA (litC (.bool true)) (consA (frzC (lstO (consA (litC (.int 0)) nilA))) (consA (litC (.str "0")) (consA (tupC (consA (op1C negD (litC (.int 1))) nilA)) (consA (op1C negD (litC (.int 1))) nilA)))))))) (fnCM 2 m_law_pick (consA (litC (.int 6)) nilA))))
    (seqS (setS 5 (op2C addD (frzC (repO 5 (lstO (consA (litC (.str "view")) nilA)))) (frzC (repO 2 (lstO (consA (litC (.str "heights")) nilA))))))
    (seqS (ifS (bvC (op2C neD (frzC (lcO [7] (rng1I (consA (litC (.int 7)) nilA)) (setG 7) yesT (fnC m_law_outcome_of (consA (varC 7) (consA (tupC (consA (varC 4) (consA (varC 4) (consA (varC 4) nilA)))) nilA))))) (varC 5))) (retS (litC (.bool false))) nextS)
    (seqS (setS 5 (frzC (lstO (consA (litC (.str "number")) (consA (litC (.str "row")) (consA (litC (.str "position")) (consA (litC (.str "position")) (consA (litC (.str "position")) nilA))))))))
    (seqS (ifS (bvC (op2C neD (frzC (lcO [7] (rng1I (consA (litC (.int 5)) nilA)) (setG 7) yesT (fnC m_law_outcome_of (consA (varC 7) (consA (tupC (consA (varC 3) (consA (varC 4) (consA (varC 4) nilA)))) nilA))))) (varC 5))) (retS (litC (.bool false))) nextS)
    (seqS (setOS 6 (lstO (consA (tupC (consA (litC (.int 2)) (consA (tupC (consA (varC 3) (consA (litC (.int 0)) (consA (varC 4) nilA)))) (consA (litC (.str "number")) nilA)))) (consA (tupC (consA (litC (.int 3)) (consA (tupC (consA (varC 3) (consA (litC (.int 0)) (consA (varC 4) nilA)))) (consA (litC (.str "number")) nilA)))) (consA (tupC (consA (litC (.int 4)) (consA (tupC (consA (varC 3) (consA (tupC (consA (litC (.int 0)) (consA (litC (.int 0)) nilA))) (consA (varC 4) nilA)))) (consA (litC (.str "number")) nilA)))) nilA)))))
    (seqS (preS 6 (setOS 6 (catO (varC 6) (frzC (lstO (consA (tupC (consA (litC (.int 5)) (consA (tupC (consA (op2C ixD (varC 3) (litC (.int 0))) (consA (varC 4) (consA (varC 4) nilA)))) (consA (litC (.str "items")) nilA)))) (consA (tupC (consA (litC (.int 6)) (consA (tupC (consA (op2C ixD (varC 3) (litC (.int 0))) (consA (varC 4) (consA (varC 4) nilA)))) (consA (litC (.str "row")) nilA)))) nilA)))))))
    (seqS (appS 6 (tupC (consA (litC (.int 6)) (consA (tupC (consA (op2C ixD (varC 3) (litC (.int 0))) (consA (tupC nilA) (consA (varC 4) nilA)))) (consA (litC (.str "row")) nilA)))))
    (preS 6 (ifS (notT (bvC (fnC m_law_rows_right (consA (varC 6) nilA)))) (retS (litC (.bool false))) nextS)))))))))))))
    (retS (fnC m_law_bounds_right nilA)))
def m_law : List D → R D := fnV 1 8 c_law
end
end Rv

/-! P22: values that are not allowed. -/
namespace Rv
open PySem L2 Lin
/-- the odd values -/
inductive Odd : D → Prop
  | a : Odd .none
  | b : Odd (.bool true)
  | c : Odd (.list [.int 0])
  | d : Odd (.str "0")
  | e : Odd (.tuple [.int (-1)])
  | f : Odd (.int (-1))
theorem odd_int {d : D} (h : Odd d) (t : Int) : m_is_integer [d, .int 0, .int t] = .ok (.bool false) := by
  cases h <;> kernel_rfl
theorem odd_view {d : D} (h : Odd d) : m_require_view [d] = .exc 0 := by
  cases h <;> kernel_rfl
theorem odd_heights {d : D} (h : Odd d) : m_require_heights [d] = .exc 5 := by
  cases h <;> kernel_rfl
theorem odd_row {d : D} (h : Odd d) (hs : List Int) (w : Int) : m_require_row [.tuple [.tuple (hs.map .int), .int w], d] = .exc 3 := by
  cases h <;> kernel_rfl
theorem odd_items {d : D} (h : Odd d) (hs : List Int) (w : Int) : m_require_items [.tuple [.tuple (hs.map .int), .int w], d] = .exc 4 := by
  cases h <;> kernel_rfl
theorem odd_number {d : D} (h : Odd d) (t : Int) : m_require_number [d, .int t] = .exc 6 := by
  cases h <;> kernel_rfl
theorem odd_position {d : D} (h : Odd d) (hs : List Int) (w : Int) : m_require_position [vD hs w, d] = .exc 2 := by
  simp [m_require_position, c_require_position, m_top_of_eq, odd_int h]
theorem odd_pair {d : D} (h : Odd d) (hs : List Int) (w : Int) : m_require_pair [vD hs w, d] = .exc 2 := by
  cases h <;> simp [m_require_pair, c_require_pair, m_top_of_eq]
theorem e_count_sure {hs : List Int} {w : Int} {d : D} (g : Good hs w) (h : Odd d) : m_count_sure [vD hs w, d] = .exc 6 := by
  simp [m_count_sure, c_count_sure, m_require_view_good g, odd_number h]
theorem e_classes {hs : List Int} {w : Int} {d : D} (g : Good hs w) (h : Odd d) : m_classes [vD hs w, d] = .exc 3 := by
  have o : m_is_row [vD hs w, .int (-1)] = .ok (.bool false) := by kernel_rfl
  cases h <;> simp [m_classes, c_classes, m_require_view_good g, lcLoop, o, sized, allD, boolsOf]
theorem e_greatest {hs : List Int} {w : Int} {d e : D} (g : Good hs w) (h : Odd d) : m_greatest_scroll [vD hs w, d, e] = .exc 2 := by
  simp [m_greatest_scroll, c_greatest_scroll, m_require_view_good g, odd_position h]
theorem e_greatest2 {hs : List Int} {w : Int} {d : D} (g : Good hs w) (h : Odd d) : m_greatest_scroll [vD hs w, .int 0, d] = .exc 6 := by
  simp [m_greatest_scroll, c_greatest_scroll, m_require_view_good g, m_require_position_good (Int.le_refl 0) (top0 hs w), odd_number h]
theorem e_fewest {hs : List Int} {w : Int} {d e : D} (g : Good hs w) (h : Odd d) : m_fewest_for [vD hs w, d, e] = .exc 2 := by
  simp [m_fewest_for, c_fewest_for, m_require_view_good g, odd_position h]
theorem e_fewest2 {hs : List Int} {w : Int} {d : D} (g : Good hs w) (h : Odd d) : m_fewest_for [vD hs w, .int 0, d] = .exc 6 := by
  simp [m_fewest_for, c_fewest_for, m_require_view_good g, m_require_position_good (Int.le_refl 0) (top0 hs w), odd_number h]
theorem e_count_rows {hs : List Int} {w : Int} {d e : D} (g : Good hs w) (h : Odd d) : m_count_rows [vD hs w, d, e] = .exc 2 := by
  simp [m_count_rows, c_count_rows, m_require_view_good g, odd_pair h]
theorem e_count_rows2 {hs : List Int} {w : Int} {d : D} (g : Good hs w) (h : Odd d) : m_count_rows [vD hs w, .tuple [.int 0, .int 0], d] = .exc 6 := by
  have p : m_require_pair [vD hs w, .tuple [.int 0, .int 0]] = .ok .none := m_require_pair_eq (q := (0, 0)) (Int.le_refl 0) (Int.le_refl 0) (top0 hs w)
  simp [m_count_rows, c_count_rows, m_require_view_good g, p, odd_number h]
theorem e_together {hs : List Int} {w : Int} {d : D} (g : Good hs w) (h : Odd d) : m_windows_together [hD hs, d] = .exc 4 := by
  have o := odd_items h hs 1
  have rh : m_require_heights [.tuple (hs.map .int)] = .ok .none := m_require_heights_eq g
  simp [m_windows_together, c_windows_together, rh, hD, o]
theorem e_alike {hs : List Int} {w : Int} {d e : D} (g : Good hs w) (h : Odd d) : m_windows_alike [hD hs, d, e] = .exc 3 := by
  have o := odd_row h hs 1
  have rh : m_require_heights [.tuple (hs.map .int)] = .ok .none := m_require_heights_eq g
  simp [m_windows_alike, c_windows_alike, rh, hD, o]
theorem e_alike2 {hs : List Int} {w : Int} {d : D} (g : Good hs w) (h : Odd d) : m_windows_alike [hD hs, .tuple [], d] = .exc 3 := by
  have o := odd_row h hs 1
  have rh : m_require_heights [.tuple (hs.map .int)] = .ok .none := m_require_heights_eq g
  have o2 : m_require_row [.tuple [.tuple (hs.map .int), .int 1], .tuple []] = .ok .none := by kernel_rfl
  simp [m_windows_alike, c_windows_alike, rh, hD, o, o2]
/-! ### the outcome of a call -/
def told : R D → R D
  | .ok _ => .ok (.str "fine")
  | .exc e => match errNm e with
    | some w => .ok (.str w)
    | none => .stuck
  | .stuck => .stuck
theorem out_eq (k s : D) : m_law_outcome_of [k, s] = told (m_law_one [k, s]) := by
  cases e : m_law_one [k, s] with
  | ok d => simp [m_law_outcome_of, c_law_outcome_of, e, told]
  | stuck => simp [m_law_outcome_of, c_law_outcome_of, e, told]
  | exc x =>
    cases h : errNm x with
    | none => simp [m_law_outcome_of, c_law_outcome_of, e, told, h]
    | some w => simp [m_law_outcome_of, c_law_outcome_of, e, told, h]
theorem told_bind (r : R D) : told (r.bind fun _ => .ok .none) = told r := by cases r <;> rfl
theorem told_asV (f : List D → R (List D)) (ds : List D) (e : Nat) (h : f ds = .exc e) : told (asV f ds) = told (.exc e) := by
  unfold asV
  rw [h]
  rfl
theorem one0 (a b c : D) : told (m_law_one [.int 0, .tuple [a, b, c]]) = told (m_count_sure [a, b]) := by
  rw [← told_bind (m_count_sure [a, b])]
  cases e : m_count_sure [a, b] <;> simp [m_law_one, c_law_one, tb0_law_one, e, sized, ltD, told]
theorem one1 (a b c : D) : told (m_law_one [.int 1, .tuple [a, b, c]]) = told (asV m_classes [a, b]) := by
  rw [← told_bind (asV m_classes [a, b])]
  cases e : asV m_classes [a, b] <;> simp only [asV] at e <;> simp [m_law_one, c_law_one, tb0_law_one, e, sized, ltD, told]
theorem one2 (a b c : D) : told (m_law_one [.int 2, .tuple [a, b, c]]) = told (m_greatest_scroll [a, b, c]) := by
  rw [← told_bind (m_greatest_scroll [a, b, c])]
  cases e : m_greatest_scroll [a, b, c] <;> simp [m_law_one, c_law_one, tb1_law_one, e, sized, ltD, subD, told]
theorem one3 (a b c : D) : told (m_law_one [.int 3, .tuple [a, b, c]]) = told (m_fewest_for [a, b, c]) := by
  rw [← told_bind (m_fewest_for [a, b, c])]
  cases e : m_fewest_for [a, b, c] <;> simp [m_law_one, c_law_one, tb1_law_one, e, sized, ltD, subD, told]
theorem one4 (a b c : D) : told (m_law_one [.int 4, .tuple [a, b, c]]) = told (m_count_rows [a, b, c]) := by
  rw [← told_bind (m_count_rows [a, b, c])]
  cases e : m_count_rows [a, b, c] <;> simp [m_law_one, c_law_one, tb1_law_one, e, sized, ltD, subD, told]
theorem one5 (a b c : D) : told (m_law_one [.int 5, .tuple [a, b, c]]) = told (asV m_windows_together [a, b]) := by
  rw [← told_bind (asV m_windows_together [a, b])]
  unfold asV
  cases e : m_windows_together [a, b] <;> simp [m_law_one, c_law_one, e, sized, ltD, subD, told]
theorem one6 (a b c : D) : told (m_law_one [.int 6, .tuple [a, b, c]]) = told (asV m_windows_alike [a, b, c]) := by
  rw [← told_bind (asV m_windows_alike [a, b, c])]
  unfold asV
  cases e : m_windows_alike [a, b, c] <;> simp [m_law_one, c_law_one, e, sized, ltD, subD, told]
theorem oc_exc {k s : D} {r : R D} {x : Nat} {w : Str} (h : told (m_law_one [k, s]) = told r) (e : r = .exc x) (hw : errNm x = some w) : m_law_outcome_of [k, s] = .ok (.str w) := by
  rw [out_eq, h, e]
  simp only [told, hw]
theorem oc_fine {k s : D} {r : R D} {d : D} (h : told (m_law_one [k, s]) = told r) (e : r = .ok d) : m_law_outcome_of [k, s] = .ok (.str "fine") := by
  rw [out_eq, h, e]
  rfl
theorem asV_exc {f : List D → R (List D)} {ds : List D} {x : Nat} (h : f ds = .exc x) : asV f ds = .exc x := by
  unfold asV
  rw [h]
  rfl
theorem asV_ok {f : List D → R (List D)} {ds es : List D} (h : f ds = .ok es) : asV f ds = .ok (.list es) := by
  unfold asV
  rw [h]
  rfl
/-! ### rows of calls -/
@[simp] theorem shp_str (n : Nat) (i : Str) : Shp n (.str i) ↔ PyData.strOk i = true := by simp [Shp, PyData.canLay0, PyData.depth]
def rowOf (r : Int × D × Str) : D := .tuple [.int r.1, r.2.1, .str r.2.2]
theorem rows_true (l : List (Int × D × Str)) (hl : l.length ≤ 1000) (h : ∀ r ∈ l, m_law_outcome_of [.int r.1, r.2.1] = .ok (.str r.2.2)) (hw : ∀ r ∈ l, PyData.strOk r.2.2 = true) : m_law_rows_right [.list (l.map rowOf)] = .ok (.bool true) := by
  refine fnV_eq rfl ?_
  unfold c_law_rows_right
  simp
  refine lc_filter l rowOf (fun _ => false) (fun _ => .int 1) rfl (by omega) (fun r hr => ?_) ?_
  · obtain ⟨a, b, c⟩ := r
    have := h _ hr
    have o := hw _ hr
    simp at this o
    simp [rowOf, this, PyData.eqv, o]
  · have : l.filter (fun _ => false) = [] := List.filter_eq_nil_iff.mpr (by simp)
    rw [this]
    simp [PyData.eqvAll]
def wA (i : Int) : Str := if i < 5 then "view" else "heights"
def wB (i : Int) : Str := if i = 0 then "number" else if i = 1 then "row" else "position"
theorem outA {d : D} (h : Odd d) : ∀ i ∈ ([0, 1, 2, 3, 4, 5, 6] : List Int), m_law_outcome_of [.int i, .tuple [d, d, d]] = .ok (.str (wA i)) := by
  have v := odd_view h
  intro i hi
  simp only [List.mem_cons, List.not_mem_nil, or_false] at hi
  rcases hi with rfl | rfl | rfl | rfl | rfl | rfl | rfl
  · exact oc_exc (one0 d d d) (x := 0) (by simp [m_count_sure, c_count_sure, v]) rfl
  · exact oc_exc (one1 d d d) (x := 0) (asV_exc (by simp [m_classes, c_classes, v])) rfl
  · exact oc_exc (one2 d d d) (x := 0) (by simp [m_greatest_scroll, c_greatest_scroll, v]) rfl
  · exact oc_exc (one3 d d d) (x := 0) (by simp [m_fewest_for, c_fewest_for, v]) rfl
  · exact oc_exc (one4 d d d) (x := 0) (by simp [m_count_rows, c_count_rows, v]) rfl
  · exact oc_exc (one5 d d d) (x := 5) (asV_exc (by simp [m_windows_together, c_windows_together, odd_heights h])) rfl
  · exact oc_exc (one6 d d d) (x := 5) (asV_exc (by simp [m_windows_alike, c_windows_alike, odd_heights h])) rfl
theorem outB {hs : List Int} {w : Int} {d : D} (g : Good hs w) (h : Odd d) : ∀ i ∈ ([0, 1, 2, 3, 4] : List Int), m_law_outcome_of [.int i, .tuple [vD hs w, d, d]] = .ok (.str (wB i)) := by
  intro i hi
  simp only [List.mem_cons, List.not_mem_nil, or_false] at hi
  rcases hi with rfl | rfl | rfl | rfl | rfl
  · exact oc_exc (one0 _ d d) (e_count_sure g h) rfl
  · exact oc_exc (one1 _ d d) (asV_exc (e_classes g h)) rfl
  · exact oc_exc (one2 _ d d) (e_greatest g h) rfl
  · exact oc_exc (one3 _ d d) (e_fewest g h) rfl
  · exact oc_exc (one4 _ d d) (e_count_rows g h) rfl
theorem rowsC {hs : List Int} {w : Int} {d : D} (g : Good hs w) (h : Odd d) : m_law_rows_right [.list [.tuple [.int 2, .tuple [vD hs w, .int 0, d], .str "number"], .tuple [.int 3, .tuple [vD hs w, .int 0, d], .str "number"], .tuple [.int 4, .tuple [vD hs w, .tuple [.int 0, .int 0], d], .str "number"],
    .tuple [.int 5, .tuple [hD hs, d, d], .str "items"], .tuple [.int 6, .tuple [hD hs, d, d], .str "row"], .tuple [.int 6, .tuple [hD hs, .tuple [], d], .str "row"]]] = .ok (.bool true) := by
  refine rows_true [(2, .tuple [vD hs w, .int 0, d], "number"), (3, .tuple [vD hs w, .int 0, d], "number"), (4, .tuple [vD hs w, .tuple [.int 0, .int 0], d], "number"), (5, .tuple [hD hs, d, d], "items"), (6, .tuple [hD hs, d, d], "row"), (6, .tuple [hD hs, .tuple [], d], "row")] (by simp) (fun r hr => ?_) (fun r hr => by simp only [List.mem_cons, List.not_mem_nil, or_false] at hr; rcases hr with rfl | rfl | rfl | rfl | rfl | rfl <;> kernel_rfl)
  simp only [List.mem_cons, List.not_mem_nil, or_false] at hr
  rcases hr with rfl | rfl | rfl | rfl | rfl | rfl
  · exact oc_exc (one2 _ _ d) (e_greatest2 g h) rfl
  · exact oc_exc (one3 _ _ d) (e_fewest2 g h) rfl
  · exact oc_exc (one4 _ _ d) (e_count_rows2 g h) rfl
  · exact oc_exc (one5 _ d d) (asV_exc (e_together g h)) rfl
  · exact oc_exc (one6 _ d d) (asV_exc (e_alike g h)) rfl
  · exact oc_exc (one6 _ _ d) (asV_exc (e_alike2 g h)) rfl
end Rv

/-! P23: counts and windows come to an end. -/
namespace Rv
open PySem L2 Lin
abbrev H10 : List Int := [10, 10, 10, 10, 10, 10, 10, 10, 10, 10]
structure KeysOk (l : List (PI × Int)) : Prop where
  nd : (l.map (·.1)).Nodup
  bd : ∀ q ∈ l.map (·.1), 0 ≤ q.1 ∧ q.1 ≤ 70 ∧ 0 ≤ q.2 ∧ q.2 ≤ 70
theorem nodup_len2 {l m : List (Int × Int)} (n : l.Nodup) (s : ∀ x ∈ l, x ∈ m) : l.length ≤ m.length := by
  induction l generalizing m with
  | nil => simp
  | cons a l ih =>
    have hn := List.nodup_cons.mp n
    have := ih (m := m.erase a) hn.2 fun x hx => by
      have ne : x ≠ a := fun e => hn.1 (e ▸ hx)
      exact (List.mem_erase_of_ne ne).mpr (s x (by simp [hx]))
    have ha := s a (by simp)
    rw [List.length_erase_of_mem ha] at this
    have : 0 < m.length := List.length_pos_of_mem ha
    simp
    omega
def allP : List PI := (List.range 71).flatMap fun (i : Nat) => (List.range 71).map fun (j : Nat) => (((i : Nat) : Int), ((j : Nat) : Int))
theorem KeysOk.len {l : List (PI × Int)} (h : KeysOk l) : l.length ≤ 5041 := by
  have := nodup_len2 h.nd (m := allP) fun x hx => by
    obtain ⟨a, b, c, d⟩ := h.bd x hx
    refine List.mem_flatMap.mpr ⟨x.1.toNat, List.mem_range.mpr (by omega), List.mem_map.mpr ⟨x.2.toNat, List.mem_range.mpr (by omega), ?_⟩⟩
    obtain ⟨x1, x2⟩ := x
    simp at *
    omega
  rw [show allP.length = 5041 by decide +kernel] at this
  simpa using this
theorem KeysOk.put {l : List (PI × Int)} (h : KeysOk l) {q : PI} (hq : 0 ≤ q.1 ∧ q.1 ≤ 70 ∧ 0 ≤ q.2 ∧ q.2 ≤ 70) (v : Int) : KeysOk (putP l q v) := by
  refine ⟨putP_nodup h.nd q v, fun x hx => ?_⟩
  rcases (putP_mem l q v x).mp hx with z | z
  · exact h.bd x z
  · rw [z]; exact hq
theorem putP_ne (l : List (PI × Int)) (q : PI) (v : Int) : putP l q v ≠ [] := fun e => by
  have := (putP_mem l q v q).mpr (.inr rfl)
  rw [e] at this
  cases this
theorem rng10 : ∀ j < 10, 0 ≤ (rngN H10 30 j).1 ∧ (rngN H10 30 j).1 ≤ 70 ∧ (rngN H10 30 j).2 ≤ 70 := by decide +kernel
theorem near10 {p : Int} {j : Nat} (hj : j < 10) (h0 : 0 ≤ p) (h1 : p ≤ 70) : 0 ≤ nearN p (rngN H10 30 j) ∧ nearN p (rngN H10 30 j) ≤ 70 := by
  obtain ⟨a, b, c⟩ := rng10 j hj
  unfold nearN
  omega
theorem counts_ok {k : Nat} (hk : k ≤ 60) : ∃ l, m_counts_of [vD H10 30, .int k] = .ok (.dct true (tD l)) ∧ KeysOk l ∧ l ≠ [] := by
  have key : ∃ c, m_counts_of [vD H10 30, .int k] = .ok c ∧ ∃ l, c = .dct true (tD l) ∧ KeysOk l ∧ l ≠ [] := by
    refine fnD_post rfl ?_
    unfold c_counts_of
    simp
    refine lc_map (List.range 10) nD (fun i => pD (rngN H10 30 i)) (rngD_0 _) (by simp) (fun i hi => ?_) ?_
    · have lp : m_range_of [vD H10 30, .int i] = .ok (pD (rngN H10 30 i)) := m_range_of_eq (by simpa using hi)
      simp [nD, lp]
    simp [m_top_of_eq]
    refine ⟨by omega, ?_⟩
    refine loop_gen (fun i τ => ∃ (l : List (PI × Int)) (x4 x5 x6 x7 x8 x9 x10 : Lin.Slot), τ = [.val (vD H10 30), .val (.int k), .val (.list ((List.range 10).map fun i => pD (rngN H10 30 i))), .own none (.dct true (tD l)), x4, x5, x6, x7, x8, x9, x10] ∧ KeysOk l ∧ l ≠ []) ?_ ?_ ?_
    · exact ⟨[((0, topN H10 30), 1)], _, _, _, _, _, _, _, rfl, ⟨by simp, by decide +kernel⟩, by simp⟩
    · rintro i d τ hi ⟨l, x4, x5, x6, x7, x8, x9, x10, rfl, C, nl⟩
      obtain ⟨hi, rfl⟩ := (rngD_get0 _ _ _).mp hi
      have cl := C.len
      simp [keys_tD]
      refine loop_map (l.map (·.1)) pD (by simp [Function.comp_def]) (fun m τ => ∃ (l2 : List (PI × Int)) (x6 x7 x8 x9 x10 : Lin.Slot), τ = [.val (vD H10 30), .val (.int k), .val (.list ((List.range 10).map fun i => pD (rngN H10 30 i))), .val (.dict (tD l)), .val (.int i), .own none (.dct true (tD l2)), x6, x7, x8, x9, x10] ∧ KeysOk l2 ∧ (m ≠ [] → l2 ≠ [])) ?_ ?_ ?_
      · exact ⟨[], _, _, _, _, _, rfl, ⟨by simp, by simp⟩, by simp⟩
      · rintro m q r τ e ⟨l2, x6, x7, x8, x9, x10, rfl, P0, n0⟩
        have hq : q ∈ l.map (·.1) := by rw [e]; simp
        obtain ⟨q1, q2, q3, q4⟩ := C.bd q hq
        have d1 : dixD (.dict (tD l)) (.tuple [.int q.1, .int q.2]) = some (.int (valP l q)) := dix_tD hq
        simp [pD]
        refine loop_map (List.range 10) (fun i => pD (rngN H10 30 i)) rfl (fun m' τ => ∃ (l2 : List (PI × Int)) (x8 x9 x10 : Lin.Slot), τ = [.val (vD H10 30), .val (.int k), .val (.list ((List.range 10).map fun i => pD (rngN H10 30 i))), .val (.dict (tD l)), .val (.int i), .own none (.dct true (tD l2)), .val (.int q.1), .val (.int q.2), x8, x9, x10] ∧ KeysOk l2 ∧ (m' ≠ [] → l2 ≠ [])) ?_ ?_ ?_
        · exact ⟨l2, _, _, _, rfl, P0, by simp⟩
        · rintro m' j r' τ e' ⟨l2, x8, x9, x10, rfl, P, nP⟩
          have hj : j < 10 := List.mem_range.mp (by rw [e']; simp)
          have ll := P.len
          obtain ⟨n1, n2⟩ := near10 hj q1 q2
          obtain ⟨n3, n4⟩ := near10 hj q3 q4
          have g1 : (findD (tD l2) (.tuple [.int (nearN q.1 (rngN H10 30 j)), .int (nearN q.2 (rngN H10 30 j))])).getD (.int 0) = .int (valP l2 (nearN q.1 (rngN H10 30 j), nearN q.2 (rngN H10 30 j))) := get_tD l2 (nearN q.1 (rngN H10 30 j), nearN q.2 (rngN H10 30 j))
          have p1 : ∀ v, putD (tD l2) (.tuple [.int (nearN q.1 (rngN H10 30 j)), .int (nearN q.2 (rngN H10 30 j))]) (.int v) = tD (putP l2 (nearN q.1 (rngN H10 30 j), nearN q.2 (rngN H10 30 j)) v) := put_tD l2 (nearN q.1 (rngN H10 30 j), nearN q.2 (rngN H10 30 j))
          simp [d1, g1, p1]
          exact ⟨by simp [tD]; omega, _, rfl, P.put ⟨n1, n2, n3, n4⟩ _, putP_ne _ _ _⟩
        · rintro τ ⟨l2, x8, x9, x10, rfl, P, nP⟩
          simp
          exact ⟨l2, rfl, P, nP (by decide)⟩
      · rintro τ ⟨l2, x6, x7, x8, x9, x10, rfl, P, nP⟩
        simp
        exact ⟨l2, rfl, P, nP (by simpa using nl)⟩
    · rintro τ ⟨l, x4, x5, x6, x7, x8, x9, x10, rfl, C, nl⟩
      simp
      exact ⟨l, rfl, C, nl⟩
  obtain ⟨c, e, l, rfl, C⟩ := key
  exact ⟨l, e, C⟩
theorem V10 : Good H10 30 := ⟨by decide, by decide, by decide, by decide, by decide, by decide⟩
theorem fine_sure : ∃ d, m_count_sure [vD H10 30, .int 60] = .ok d := by
  obtain ⟨l, e, C, nl⟩ := counts_ok (k := 60) (by decide)
  have e2 : m_counts_of [vD H10 30, .int 60] = .ok (.dct true (tD l)) := e
  have n : m_require_number [.int 60, .int 60] = .ok .none := m_require_number_eq' (by decide) (by decide)
  have cl := C.len
  refine ⟨.int (((l.map (·.1)).filter fun q => decide (q.1 = q.2)).map fun q => valP l q).sum, fnV_eq rfl ?_⟩
  unfold c_count_sure
  simp [m_require_view_good V10, n, e2, keys_tD]
  refine lc_filter (l.map (·.1)) pD (fun q => decide (q.1 = q.2)) (fun q => .int (valP l q)) (by simp [Function.comp_def]) (by simp; omega) (fun q hq => ?_) ?_
  · have d1 := dix_tD hq
    obtain ⟨a, b⟩ := q
    by_cases c : a = b
    · subst c
      simp [pD] at d1 ⊢
      simp [d1]
    · simp [pD, c]
  · have ei := intsOf_fun ((l.map (·.1)).filter fun q => decide (q.1 = q.2)) fun q => valP l q
    simp [ei]
theorem fine_rows : ∃ d, m_count_rows [vD H10 30, pD (0, 70), .int 60] = .ok d := by
  obtain ⟨l, e, C, nl⟩ := counts_ok (k := 60) (by decide)
  have e2 : m_counts_of [vD H10 30, .int 60] = .ok (.dct true (tD l)) := e
  have n : m_require_number [.int 60, .int 60] = .ok .none := m_require_number_eq' (by decide) (by decide)
  have sk : sameKind (tD l) (pD (0, 70)) = true := sameK_tD nl _
  refine ⟨.int (valP l (0, 70)), fnV_eq rfl ?_⟩
  unfold c_count_rows
  simp [m_require_view_good V10, m_require_pair_eq (hs := H10) (w := 30) (q := (0, 70)) (by decide) (by decide) (by decide), n, e2, sk, get_tD]
theorem alike_ok {R : List Nat} (hR : ∀ i ∈ R, i < 10) (hl : R.length ≤ 30) : ∃ d, m_windows_alike [hD H10, rD R, rD []] = .ok d := by
  have r1 : m_require_row [.tuple [hD H10, .int 1], rD R] = .ok .none := m_require_row_eq (hs := H10) (w := 1) hR hl
  have r2 : m_require_row [.tuple [hD H10, .int 1], rD []] = .ok .none := m_require_row_eq (hs := H10) (w := 1) (by simp) (by simp)
  refine ⟨(rangesN (winL.filter fun v => decide (effN H10 v R = effN H10 v []))).map pD, fnO_eq rfl ?_⟩
  unfold c_windows_alike
  simp [m_require_heights_eq V10, r1, r2, rngD_win]
  refine lc_map winL nD (fun v => vD H10 v) rfl (by rw [winL_len]; omega) (fun v hv => ?_) ?_
  · simp [nD, vD]
  · simp
    refine lc_filter winL (fun v => vD H10 v) (fun v => decide (effN H10 v R = effN H10 v [])) nD rfl (by rw [winL_len]; omega) (fun v hv => ?_) ?_
    · have e1 := m_effect_of_eq (hs := H10) (w := v) hR
      have e2 := m_effect_of_eq (hs := H10) (w := v) (r := []) (by simp)
      by_cases c : effN H10 v R = effN H10 v []
      · simp [e1, e2, nD, c]
      · simp [e1, e2, nD, c]
    · have fl : (winL.filter fun (v : Nat) => decide (effN H10 v R = effN H10 v [])).length ≤ 900 := Nat.le_trans (List.length_filter_le _ _) (by rw [winL_len]; omega)
      simp [m_ranges_of_eq fl]
abbrev V0 : D := .tuple [.tuple [.int 10, .int 10, .int 10, .int 10, .int 10, .int 10, .int 10, .int 10, .int 10, .int 10], .int 30]
abbrev HD : D := .tuple [.int 10, .int 10, .int 10, .int 10, .int 10, .int 10, .int 10, .int 10, .int 10, .int 10]
theorem b_sure : m_law_outcome_of [.int 0, .tuple [V0, .int 60, .int 0]] = .ok (.str "fine") := by
  obtain ⟨d, e⟩ := fine_sure
  exact oc_fine (one0 _ _ _) e
theorem b_rows : m_law_outcome_of [.int 4, .tuple [V0, .tuple [.int 0, .int 70], .int 60]] = .ok (.str "fine") := by
  obtain ⟨d, e⟩ := fine_rows
  exact oc_fine (one4 _ _ _) e
theorem b_tog : m_law_outcome_of [.int 5, .tuple [HD, .tuple [.int 0, .int 9], .int 0]] = .ok (.str "fine") := by
  have e := m_windows_together_eq (w := 30) (r := [0, 9]) V10 ⟨by decide, by decide, by decide, by decide⟩
  exact oc_fine (one5 _ _ _) (asV_ok e)
theorem b_alike : m_law_outcome_of [.int 6, .tuple [HD, .tuple [.int 0, .int 0, .int 0, .int 0, .int 0, .int 0, .int 0, .int 0, .int 0, .int 0, .int 0, .int 0, .int 0, .int 0, .int 0, .int 0, .int 0, .int 0, .int 0, .int 0, .int 0, .int 0, .int 0, .int 0, .int 0, .int 0, .int 0, .int 0, .int 0, .int 0], .tuple []]] = .ok (.str "fine") := by
  obtain ⟨d, e⟩ := alike_ok (R := List.replicate 30 0) (by simp) (by simp)
  exact oc_fine (one6 _ _ _) (asV_ok e)
def rowsB : List (Int × D × Str) := [(2, .tuple [V0, .int 70, .int 1000000000000], "fine"), (2, .tuple [V0, .int 71, .int 0], "position"), (2, .tuple [V0, .int 0, .int 1000000000001], "number"),
  (3, .tuple [V0, .int 0, .int 1000000000000000], "fine"), (0, .tuple [V0, .int 60, .int 0], "fine"), (4, .tuple [V0, .tuple [.int 0, .int 70], .int 60], "fine"),
  (3, .tuple [V0, .int 0, .int 1000000000000001], "number"), (3, .tuple [V0, .int 0, .int (-1)], "number"),
  (0, .tuple [V0, .int 61, .int 0], "number"), (0, .tuple [V0, .bool true, .int 0], "number"), (0, .tuple [V0, .int (-1), .int 0], "number"),
  (4, .tuple [V0, .tuple [.int 5, .int 4], .int 0], "position"), (4, .tuple [V0, .tuple [.int 0, .int 71], .int 0], "position"), (4, .tuple [V0, .list [.int 0, .int 0], .int 0], "position"), (4, .tuple [V0, .tuple [.int 0, .int 0, .int 0], .int 0], "position"),
  (4, .tuple [V0, .tuple [.int 0, .int 0], .int 61], "number"), (1, .tuple [V0, .tuple [.tuple [.int 0], .tuple [.int 0], .tuple [.int 0], .tuple [.int 0], .tuple [.int 0], .tuple [.int 0]], .int 0], "fine"),
  (1, .tuple [V0, .tuple [.tuple [.int 0], .tuple [.int 0], .tuple [.int 0], .tuple [.int 0], .tuple [.int 0], .tuple [.int 0], .tuple [.int 0]], .int 0], "row"), (1, .tuple [V0, .tuple [], .int 0], "row"), (1, .tuple [V0, .tuple [.tuple [.int 10]], .int 0], "row"),
  (5, .tuple [HD, .tuple [.int 0, .int 9], .int 0], "fine"), (6, .tuple [HD, .tuple [.int 0, .int 0, .int 0, .int 0, .int 0, .int 0, .int 0, .int 0, .int 0, .int 0, .int 0, .int 0, .int 0, .int 0, .int 0, .int 0, .int 0, .int 0, .int 0, .int 0, .int 0, .int 0, .int 0, .int 0, .int 0, .int 0, .int 0, .int 0, .int 0, .int 0], .tuple []], "fine"),
  (5, .tuple [HD, .tuple [.int 0, .int 10], .int 0], "items"), (5, .tuple [HD, .tuple [.int 1, .int 0], .int 0], "items"), (5, .tuple [HD, .tuple [], .int 0], "items"),
  (5, .tuple [.tuple [.int 101], .tuple [.int 0], .int 0], "heights"), (5, .tuple [.tuple [], .tuple [.int 0], .int 0], "heights"), (5, .tuple [.list [.int 10], .tuple [.int 0], .int 0], "heights"),
  (6, .tuple [HD, .tuple [.int 0, .int 0, .int 0, .int 0, .int 0, .int 0, .int 0, .int 0, .int 0, .int 0, .int 0, .int 0, .int 0, .int 0, .int 0, .int 0, .int 0, .int 0, .int 0, .int 0, .int 0, .int 0, .int 0, .int 0, .int 0, .int 0, .int 0, .int 0, .int 0, .int 0, .int 0], .tuple []], "row"), (6, .tuple [HD, .tuple [], .tuple [.int 10]], "row")]
theorem rows_b : m_law_rows_right [.list (rowsB.map rowOf)] = .ok (.bool true) := by
  refine rows_true rowsB (by decide) (fun r hr => ?_) (fun r hr => ?_)
  · unfold rowsB at hr
    simp only [List.mem_cons, List.not_mem_nil, or_false] at hr
    rcases hr with rfl | rfl | rfl | rfl | rfl | rfl | rfl | rfl | rfl | rfl | rfl | rfl | rfl | rfl | rfl | rfl | rfl | rfl | rfl | rfl | rfl | rfl | rfl | rfl | rfl | rfl | rfl | rfl | rfl | rfl
    · kernel_rfl
    · kernel_rfl
    · kernel_rfl
    · kernel_rfl
    · exact b_sure
    · exact b_rows
    · kernel_rfl
    · kernel_rfl
    · kernel_rfl
    · kernel_rfl
    · kernel_rfl
    · kernel_rfl
    · kernel_rfl
    · kernel_rfl
    · kernel_rfl
    · kernel_rfl
    · kernel_rfl
    · kernel_rfl
    · kernel_rfl
    · kernel_rfl
    · exact b_tog
    · exact b_alike
    · kernel_rfl
    · kernel_rfl
    · kernel_rfl
    · kernel_rfl
    · kernel_rfl
    · kernel_rfl
    · kernel_rfl
    · kernel_rfl
  · unfold rowsB at hr
    simp only [List.mem_cons, List.not_mem_nil, or_false] at hr
    rcases hr with rfl | rfl | rfl | rfl | rfl | rfl | rfl | rfl | rfl | rfl | rfl | rfl | rfl | rfl | rfl | rfl | rfl | rfl | rfl | rfl | rfl | rfl | rfl | rfl | rfl | rfl | rfl | rfl | rfl | rfl <;> kernel_rfl
end Rv

namespace Rv
open PySem L2 Lin
noncomputable section
def top (i : Nat) : Stmt := PySem.Challenge.pw_revealscrolls_k73_errors_of_spans_and_co.main.body.getD i (.Pass ⟨0, 0, 0, 0⟩)
structure Tx (C : Lin.Ctx) : Prop where
  n_ValueError : C.mg "ValueError" = none
  n_all : C.mg "all" = none
  n_bool : C.mg "bool" = none
  n_enumerate : C.mg "enumerate" = none
  n_int : C.mg "int" = none
  n_isinstance : C.mg "isinstance" = none
  n_len : C.mg "len" = none
  n_max : C.mg "max" = none
  n_min : C.mg "min" = none
  n_range : C.mg "range" = none
  n_sum : C.mg "sum" = none
  n_tuple : C.mg "tuple" = none
  n_zip : C.mg "zip" = none
  t_MAX_CHOSEN : ∃ t, C.mg "MAX_CHOSEN" = some (.int 6 t)
  t_MAX_CLASSED : ∃ t, C.mg "MAX_CLASSED" = some (.int 6 t)
  t_MAX_HEIGHT : ∃ t, C.mg "MAX_HEIGHT" = some (.int 100 t)
  t_MAX_ITEMS : ∃ t, C.mg "MAX_ITEMS" = some (.int 20 t)
  t_MAX_ROW : ∃ t, C.mg "MAX_ROW" = some (.int 30 t)
  t_MAX_WINDOW : ∃ t, C.mg "MAX_WINDOW" = some (.int 500 t)
  t_MOST_COUNTED : ∃ t, C.mg "MOST_COUNTED" = some (.int 60 t)
  t_MOST_DISTANCE : ∃ t, C.mg "MOST_DISTANCE" = some (.int 1000000000000000 t)
  t_MOST_REVEALS : ∃ t, C.mg "MOST_REVEALS" = some (.int 1000000000000 t)
  e_InvalidView : ExcT C "InvalidView" 0
  e_InvalidPosition : ExcT C "InvalidPosition" 2
  e_InvalidRow : ExcT C "InvalidRow" 3
  e_InvalidNumber : ExcT C "InvalidNumber" 6
  e_InvalidItems : ExcT C "InvalidItems" 4
  e_InvalidHeights : ExcT C "InvalidHeights" 5
  err : ∀ n w, errNm n = some w → ErrT C n
  sb : ∃ a, C.mg "ScrollError" = some (.ref a)
  v_classes : FunV C "classes"
  v_count_sure : FunV C "count_sure"
  v_count_rows : FunV C "count_rows"
  v_fewest_for : FunV C "fewest_for"
  v_greatest_scroll : FunV C "greatest_scroll"
  d_is_integer : ∃ f fd, Def C "is_integer" (top 17) ["value", "low", "high"] f fd
  d_is_heights : ∃ f fd, Def C "is_heights" (top 18) ["value"] f fd
  d_is_view : ∃ f fd, Def C "is_view" (top 19) ["value"] f fd
  d_require_view : ∃ f fd, Def C "require_view" (top 20) ["value"] f fd
  d_top_of : ∃ f fd, Def C "top_of" (top 21) ["view"] f fd
  d_begin_of : ∃ f fd, Def C "begin_of" (top 22) ["view", "item"] f fd
  d_range_of : ∃ f fd, Def C "range_of" (top 23) ["view", "item"] f fd
  d_require_position : ∃ f fd, Def C "require_position" (top 24) ["view", "value"] f fd
  d_is_row : ∃ f fd, Def C "is_row" (top 26) ["view", "value"] f fd
  d_require_row : ∃ f fd, Def C "require_row" (top 27) ["view", "value"] f fd
  d_nearest : ∃ f fd, Def C "nearest" (top 28) ["position", "pair"] f fd
  d_end_of : ∃ f fd, Def C "end_of" (top 29) ["view", "position", "row"] f fd
  d_effect_of : ∃ f fd, Def C "effect_of" (top 31) ["view", "row"] f fd
  d_require_number : ∃ f fd, Def C "require_number" (top 35) ["value", "most"] f fd
  d_farthest : ∃ f fd, Def C "farthest" (top 36) ["view", "position"] f fd
  d_greatest_scroll : ∃ f fd, Def C "greatest_scroll" (top 37) ["view", "position", "number"] f fd
  d_fewest_for : ∃ f fd, Def C "fewest_for" (top 38) ["view", "position", "distance"] f fd
  d_require_pair : ∃ f fd, Def C "require_pair" (top 42) ["view", "value"] f fd
  d_counts_of : ∃ f fd, Def C "counts_of" (top 43) ["view", "number"] f fd
  d_count_rows : ∃ f fd, Def C "count_rows" (top 44) ["view", "pair", "number"] f fd
  d_count_sure : ∃ f fd, Def C "count_sure" (top 45) ["view", "number"] f fd
  d_classes : ∃ f fd, Def C "classes" (top 46) ["view", "rows"] f fd
  d_require_items : ∃ f fd, Def C "require_items" (top 49) ["view", "value"] f fd
  d_common : ∃ f fd, Def C "common" (top 50) ["view", "items"] f fd
  d_require_heights : ∃ f fd, Def C "require_heights" (top 52) ["value"] f fd
  d_ranges_of : ∃ f fd, Def C "ranges_of" (top 53) ["numbers"] f fd
  d_windows_together : ∃ f fd, Def C "windows_together" (top 54) ["heights", "items"] f fd
  d_windows_alike : ∃ f fd, Def C "windows_alike" (top 55) ["heights", "first", "second"] f fd
  d_law_source : ∃ f fd, Def C "_law_source" (top 57) ["script", "k"] f fd
  d_law_pick : ∃ f fd, Def C "_law_pick" (top 58) ["source", "size"] f fd
  d_law_error_name : ∃ f fd, Def C "_law_error_name" (top 59) ["e"] f fd
  d_law_view : ∃ f fd, Def C "_law_view" (top 60) ["source", "many", "wide"] f fd
  d_law_one : ∃ f fd, Def C "_law_one" (top 61) ["call", "some"] f fd
  d_law_outcome_of : ∃ f fd, Def C "_law_outcome_of" (top 62) ["call", "some"] f fd
  d_law_rows_right : ∃ f fd, Def C "_law_rows_right" (top 63) ["rows"] f fd
  d_law_bounds_right : ∃ f fd, Def C "_law_bounds_right" (top 64) [] f fd
  d_law : ∃ f fd, Def C "law" (top 65) ["script"] f fd
abbrev s_is_integer : Stmt := top 17
theorem sc_is_integer : FnScope ["value", "low", "high"] ["value", "low", "high"] (defScope s_is_integer) := ⟨rfl, rfl, rfl, by decide +kernel, rfl, by decide +kernel, by decide +kernel⟩
theorem ok_is_integer {C : Lin.Ctx} (T : Tx C) : HasV C "is_integer" 1 m_is_integer := by
  obtain ⟨f, fd, d⟩ := T.d_is_integer
  refine mkV d sc_is_integer fun cdv A outer s H E hr => ?_
  have tk := takes_body (C := C) (N := ["value", "low", "high"]) (x := "is_integer") (st := s_is_integer) (f := f) (cdv := cdv) (A := A) (outer := outer) (s := s) (H := H) (E := E)
  have ic : In C (bodyX C ["value", "low", "high"] "is_integer" s_is_integer f cdv A outer s H E) := ⟨rfl, rfl, rfl, rfl, rfl⟩
  exact (ss_one (ss_ret (se_and (e_isi kit_int T.n_isinstance T.n_int b_int (se_var 0 (pv 0))) (se_and (se_not (e_isi kit_bool T.n_isinstance T.n_bool b_bool (se_var 0 (pv 0)))) (se_one (e_le2 (se_var 1 (pv 1)) (se_var 0 (pv 0)) (se_var 2 (pv 2))))))))
abbrev s_is_heights : Stmt := top 18
theorem sc_is_heights : FnScope ["value", "height"] ["value"] (defScope s_is_heights) := ⟨rfl, rfl, rfl, by decide +kernel, rfl, by decide +kernel, by decide +kernel⟩
theorem ok_is_heights {C : Lin.Ctx} (T : Tx C) : HasV C "is_heights" 2 m_is_heights := by
  obtain ⟨f, fd, d⟩ := T.d_is_heights
  refine mkV d sc_is_heights fun cdv A outer s H E hr => ?_
  have tk := takes_body (C := C) (N := ["value", "height"]) (x := "is_heights") (st := s_is_heights) (f := f) (cdv := cdv) (A := A) (outer := outer) (s := s) (H := H) (E := E)
  have ic : In C (bodyX C ["value", "height"] "is_heights" s_is_heights f cdv A outer s H E) := ⟨rfl, rfl, rfl, rfl, rfl⟩
  exact (ss_cons (ss_if (PW.st (sw_or (st_not (st_val (e_isi kit_tuple T.n_isinstance T.n_tuple b_tuple (se_var 0 (pv 0))))) (sw_one (st_not (t_le2 se_int (e_len T.n_len (sa_cons (se_var 0 (pv 0)) sa_nil)) (se_globX T.t_MAX_ITEMS ic))) (.inr rfl)))) (ss_one (ss_ret se_bl)) ss_nil)
    (ss_one (ss_ret (e_all rfl T.n_all (sa_cons (so_frz (so_lc (own := [("height", 1)]) rfl sc_is_heights.nd (si_seq (se_var 0 (pv 0))) (blkOk_by (N := ["value", "height"]) (sc := defScope s_is_heights) (by decide +kernel)) rfl (fun _ _ _ _ _ => (sg_name 1 sc_is_heights.nd)) (fun _ _ _ _ _ => sts_nil) (fun _ _ _ _ _ => (se_call (ok_is_integer T) ⟨rfl, rfl, rfl, rfl, rfl⟩ takesN hr (by rfl) (sa_cons (se_var 1 (pv 1)) (sa_cons se_int (sa_cons (se_globX T.t_MAX_HEIGHT ⟨rfl, rfl, rfl, rfl, rfl⟩) sa_nil))))))) sa_nil)))))
abbrev s_is_view : Stmt := top 19
theorem sc_is_view : FnScope ["value"] ["value"] (defScope s_is_view) := ⟨rfl, rfl, rfl, by decide +kernel, rfl, by decide +kernel, by decide +kernel⟩
theorem ok_is_view {C : Lin.Ctx} (T : Tx C) : HasV C "is_view" 3 m_is_view := by
  obtain ⟨f, fd, d⟩ := T.d_is_view
  refine mkV d sc_is_view fun cdv A outer s H E hr => ?_
  have tk := takes_body (C := C) (N := ["value"]) (x := "is_view") (st := s_is_view) (f := f) (cdv := cdv) (A := A) (outer := outer) (s := s) (H := H) (E := E)
  have ic : In C (bodyX C ["value"] "is_view" s_is_view f cdv A outer s H E) := ⟨rfl, rfl, rfl, rfl, rfl⟩
  exact (ss_cons (ss_if (PW.st (sw_or (st_not (st_val (e_isi kit_tuple T.n_isinstance T.n_tuple b_tuple (se_var 0 (pv 0))))) (sw_or (t_ne hr (e_len T.n_len (sa_cons (se_var 0 (pv 0)) sa_nil)) se_int) (sw_one (st_not (st_val (se_call (ok_is_heights T) ic tk hr (by rfl) (sa_cons (e_ix (se_var 0 (pv 0)) se_int) sa_nil)))) (.inr rfl))))) (ss_one (ss_ret se_bl)) ss_nil)
    (ss_one (ss_ret (se_call (ok_is_integer T) ic tk (hr.mono (by decide)) (by rfl) (sa_cons (e_ix (se_var 0 (pv 0)) se_int) (sa_cons se_int (sa_cons (se_globX T.t_MAX_WINDOW ic) sa_nil)))))))
abbrev s_require_view : Stmt := top 20
theorem sc_require_view : FnScope ["value"] ["value"] (defScope s_require_view) := ⟨rfl, rfl, rfl, by decide +kernel, rfl, by decide +kernel, by decide +kernel⟩
theorem ok_require_view {C : Lin.Ctx} (T : Tx C) : HasV C "require_view" 4 m_require_view := by
  obtain ⟨f, fd, d⟩ := T.d_require_view
  refine mkV d sc_require_view fun cdv A outer s H E hr => ?_
  have tk := takes_body (C := C) (N := ["value"]) (x := "require_view") (st := s_require_view) (f := f) (cdv := cdv) (A := A) (outer := outer) (s := s) (H := H) (E := E)
  have ic : In C (bodyX C ["value"] "require_view" s_require_view f cdv A outer s H E) := ⟨rfl, rfl, rfl, rfl, rfl⟩
  exact (ss_one (ss_if (st_not (st_val (se_call (ok_is_view T) ic tk hr (by rfl) (sa_cons (se_var 0 (pv 0)) sa_nil)))) (ss_one (ss_raiseX T.e_InvalidView ic rfl tk)) ss_nil))
abbrev s_top_of : Stmt := top 21
theorem sc_top_of : FnScope ["view"] ["view"] (defScope s_top_of) := ⟨rfl, rfl, rfl, by decide +kernel, rfl, by decide +kernel, by decide +kernel⟩
theorem ok_top_of {C : Lin.Ctx} (T : Tx C) : HasV C "top_of" 1 m_top_of := by
  obtain ⟨f, fd, d⟩ := T.d_top_of
  refine mkV d sc_top_of fun cdv A outer s H E hr => ?_
  have tk := takes_body (C := C) (N := ["view"]) (x := "top_of") (st := s_top_of) (f := f) (cdv := cdv) (A := A) (outer := outer) (s := s) (H := H) (E := E)
  have ic : In C (bodyX C ["view"] "top_of" s_top_of f cdv A outer s H E) := ⟨rfl, rfl, rfl, rfl, rfl⟩
  exact (ss_one (ss_ret (e_max rfl T.n_max (sa_cons se_int (sa_cons (e_sub (e_sum rfl T.n_sum (sa_cons (e_ix (se_var 0 (pv 0)) se_int) sa_nil)) (e_ix (se_var 0 (pv 0)) se_int)) sa_nil)))))
abbrev s_begin_of : Stmt := top 22
theorem sc_begin_of : FnScope ["view", "item"] ["view", "item"] (defScope s_begin_of) := ⟨rfl, rfl, rfl, by decide +kernel, rfl, by decide +kernel, by decide +kernel⟩
theorem ok_begin_of {C : Lin.Ctx} (T : Tx C) : HasV C "begin_of" 1 m_begin_of := by
  obtain ⟨f, fd, d⟩ := T.d_begin_of
  refine mkV d sc_begin_of fun cdv A outer s H E hr => ?_
  have tk := takes_body (C := C) (N := ["view", "item"]) (x := "begin_of") (st := s_begin_of) (f := f) (cdv := cdv) (A := A) (outer := outer) (s := s) (H := H) (E := E)
  have ic : In C (bodyX C ["view", "item"] "begin_of" s_begin_of f cdv A outer s H E) := ⟨rfl, rfl, rfl, rfl, rfl⟩
  exact (ss_one (ss_ret (e_sum rfl T.n_sum (sa_cons (e_sl (e_ix (se_var 0 (pv 0)) se_int) sp_none (sp_some (se_var 1 (pv 1)))) sa_nil))))
abbrev s_range_of : Stmt := top 23
theorem sc_range_of : FnScope ["view", "item", "begin", "other", "last"] ["view", "item"] (defScope s_range_of) := ⟨rfl, rfl, rfl, by decide +kernel, rfl, by decide +kernel, by decide +kernel⟩
theorem ok_range_of {C : Lin.Ctx} (T : Tx C) : HasV C "range_of" 2 m_range_of := by
  obtain ⟨f, fd, d⟩ := T.d_range_of
  refine mkV d sc_range_of fun cdv A outer s H E hr => ?_
  have tk := takes_body (C := C) (N := ["view", "item", "begin", "other", "last"]) (x := "range_of") (st := s_range_of) (f := f) (cdv := cdv) (A := A) (outer := outer) (s := s) (H := H) (E := E)
  have ic : In C (bodyX C ["view", "item", "begin", "other", "last"] "range_of" s_range_of f cdv A outer s H E) := ⟨rfl, rfl, rfl, rfl, rfl⟩
  exact (ss_cons (ss_set 2 (se_call (ok_begin_of T) ic tk hr (by rfl) (sa_cons (se_var 0 (pv 0)) (sa_cons (se_var 1 (pv 1)) sa_nil))) sc_range_of.nd)
    (ss_cons (ss_par 3 4 rfl sc_range_of.nd (sm_val (e_sub (e_add (se_var 2 (pv 2)) (e_ix (e_ix (se_var 0 (pv 0)) se_int) (se_var 1 (pv 1)))) (e_ix (se_var 0 (pv 0)) se_int)) (sm_val (se_call (ok_top_of T) ic tk hr (by rfl) (sa_cons (se_var 0 (pv 0)) sa_nil)) sm_nil)))
    (ss_one (ss_ret (se_tup (sa_cons (e_max rfl T.n_max (sa_cons se_int (sa_cons (e_min rfl T.n_min (sa_cons (se_var 2 (pv 2)) (sa_cons (se_var 3 (pv 3)) sa_nil))) sa_nil))) (sa_cons (e_min rfl T.n_min (sa_cons (se_var 4 (pv 4)) (sa_cons (e_max rfl T.n_max (sa_cons (se_var 2 (pv 2)) (sa_cons (se_var 3 (pv 3)) sa_nil))) sa_nil))) sa_nil)))))))
abbrev s_require_position : Stmt := top 24
theorem sc_require_position : FnScope ["view", "value"] ["view", "value"] (defScope s_require_position) := ⟨rfl, rfl, rfl, by decide +kernel, rfl, by decide +kernel, by decide +kernel⟩
theorem ok_require_position {C : Lin.Ctx} (T : Tx C) : HasV C "require_position" 2 m_require_position := by
  obtain ⟨f, fd, d⟩ := T.d_require_position
  refine mkV d sc_require_position fun cdv A outer s H E hr => ?_
  have tk := takes_body (C := C) (N := ["view", "value"]) (x := "require_position") (st := s_require_position) (f := f) (cdv := cdv) (A := A) (outer := outer) (s := s) (H := H) (E := E)
  have ic : In C (bodyX C ["view", "value"] "require_position" s_require_position f cdv A outer s H E) := ⟨rfl, rfl, rfl, rfl, rfl⟩
  exact (ss_one (ss_if (st_not (st_val (se_call (ok_is_integer T) ic tk hr (by rfl) (sa_cons (se_var 1 (pv 1)) (sa_cons se_int (sa_cons (se_call (ok_top_of T) ic tk hr (by rfl) (sa_cons (se_var 0 (pv 0)) sa_nil)) sa_nil)))))) (ss_one (ss_raiseX T.e_InvalidPosition ic rfl tk)) ss_nil))
abbrev s_is_row : Stmt := top 26
theorem sc_is_row : FnScope ["view", "value", "item"] ["view", "value"] (defScope s_is_row) := ⟨rfl, rfl, rfl, by decide +kernel, rfl, by decide +kernel, by decide +kernel⟩
theorem ok_is_row {C : Lin.Ctx} (T : Tx C) : HasV C "is_row" 2 m_is_row := by
  obtain ⟨f, fd, d⟩ := T.d_is_row
  refine mkV d sc_is_row fun cdv A outer s H E hr => ?_
  have tk := takes_body (C := C) (N := ["view", "value", "item"]) (x := "is_row") (st := s_is_row) (f := f) (cdv := cdv) (A := A) (outer := outer) (s := s) (H := H) (E := E)
  have ic : In C (bodyX C ["view", "value", "item"] "is_row" s_is_row f cdv A outer s H E) := ⟨rfl, rfl, rfl, rfl, rfl⟩
  exact (ss_cons (ss_if (PW.st (sw_or (st_not (st_val (e_isi kit_tuple T.n_isinstance T.n_tuple b_tuple (se_var 1 (pv 1))))) (sw_one (t_gt (e_len T.n_len (sa_cons (se_var 1 (pv 1)) sa_nil)) (se_globX T.t_MAX_ROW ic)) (.inr rfl)))) (ss_one (ss_ret se_bl)) ss_nil)
    (ss_one (ss_ret (e_all rfl T.n_all (sa_cons (so_frz (so_lc (own := [("item", 2)]) rfl sc_is_row.nd (si_seq (se_var 1 (pv 1))) (blkOk_by (N := ["view", "value", "item"]) (sc := defScope s_is_row) (by decide +kernel)) rfl (fun _ _ _ _ _ => (sg_name 2 sc_is_row.nd)) (fun _ _ _ _ _ => sts_nil) (fun _ _ _ _ _ => (se_call (ok_is_integer T) ⟨rfl, rfl, rfl, rfl, rfl⟩ takesN hr (by rfl) (sa_cons (se_var 2 (pv 2)) (sa_cons se_int (sa_cons (e_sub (e_len T.n_len (sa_cons (e_ix (se_var 0 (pv 0)) se_int) sa_nil)) se_int) sa_nil))))))) sa_nil)))))
abbrev s_require_row : Stmt := top 27
theorem sc_require_row : FnScope ["view", "value"] ["view", "value"] (defScope s_require_row) := ⟨rfl, rfl, rfl, by decide +kernel, rfl, by decide +kernel, by decide +kernel⟩
theorem ok_require_row {C : Lin.Ctx} (T : Tx C) : HasV C "require_row" 3 m_require_row := by
  obtain ⟨f, fd, d⟩ := T.d_require_row
  refine mkV d sc_require_row fun cdv A outer s H E hr => ?_
  have tk := takes_body (C := C) (N := ["view", "value"]) (x := "require_row") (st := s_require_row) (f := f) (cdv := cdv) (A := A) (outer := outer) (s := s) (H := H) (E := E)
  have ic : In C (bodyX C ["view", "value"] "require_row" s_require_row f cdv A outer s H E) := ⟨rfl, rfl, rfl, rfl, rfl⟩
  exact (ss_one (ss_if (st_not (st_val (se_call (ok_is_row T) ic tk hr (by rfl) (sa_cons (se_var 0 (pv 0)) (sa_cons (se_var 1 (pv 1)) sa_nil))))) (ss_one (ss_raiseX T.e_InvalidRow ic rfl tk)) ss_nil))
abbrev s_nearest : Stmt := top 28
theorem sc_nearest : FnScope ["position", "pair"] ["position", "pair"] (defScope s_nearest) := ⟨rfl, rfl, rfl, by decide +kernel, rfl, by decide +kernel, by decide +kernel⟩
theorem ok_nearest {C : Lin.Ctx} (T : Tx C) : HasV C "nearest" 1 m_nearest := by
  obtain ⟨f, fd, d⟩ := T.d_nearest
  refine mkV d sc_nearest fun cdv A outer s H E hr => ?_
  have tk := takes_body (C := C) (N := ["position", "pair"]) (x := "nearest") (st := s_nearest) (f := f) (cdv := cdv) (A := A) (outer := outer) (s := s) (H := H) (E := E)
  have ic : In C (bodyX C ["position", "pair"] "nearest" s_nearest f cdv A outer s H E) := ⟨rfl, rfl, rfl, rfl, rfl⟩
  exact (ss_one (ss_ret (e_max rfl T.n_max (sa_cons (e_ix (se_var 1 (pv 1)) se_int) (sa_cons (e_min rfl T.n_min (sa_cons (e_ix (se_var 1 (pv 1)) se_int) (sa_cons (se_var 0 (pv 0)) sa_nil))) sa_nil)))))
abbrev s_end_of : Stmt := top 29
theorem sc_end_of : FnScope ["view", "position", "row", "item"] ["view", "position", "row"] (defScope s_end_of) := ⟨rfl, rfl, rfl, by decide +kernel, rfl, by decide +kernel, by decide +kernel⟩
theorem ok_end_of {C : Lin.Ctx} (T : Tx C) : HasV C "end_of" 3 m_end_of := by
  obtain ⟨f, fd, d⟩ := T.d_end_of
  refine mkV d sc_end_of fun cdv A outer s H E hr => ?_
  have tk := takes_body (C := C) (N := ["view", "position", "row", "item"]) (x := "end_of") (st := s_end_of) (f := f) (cdv := cdv) (A := A) (outer := outer) (s := s) (H := H) (E := E)
  have ic : In C (bodyX C ["view", "position", "row", "item"] "end_of" s_end_of f cdv A outer s H E) := ⟨rfl, rfl, rfl, rfl, rfl⟩
  exact (ss_cons (ss_for passes_body rfl (si_seq (se_var 2 (pv 2))) (sg_name 3 sc_end_of.nd) (ss_one (ss_set 1 (se_call (ok_nearest T) ic tk (hr.mono (by decide)) (by rfl) (sa_cons (se_var 1 (pv 1)) (sa_cons (se_call (ok_range_of T) ic tk hr (by rfl) (sa_cons (se_var 0 (pv 0)) (sa_cons (se_var 3 (pv 3)) sa_nil))) sa_nil))) sc_end_of.nd)))
    (ss_one (ss_ret (se_var 1 (pv 1)))))
abbrev s_effect_of : Stmt := top 31
theorem sc_effect_of : FnScope ["view", "row"] ["view", "row"] (defScope s_effect_of) := ⟨rfl, rfl, rfl, by decide +kernel, rfl, by decide +kernel, by decide +kernel⟩
theorem ok_effect_of {C : Lin.Ctx} (T : Tx C) : HasV C "effect_of" 4 m_effect_of := by
  obtain ⟨f, fd, d⟩ := T.d_effect_of
  refine mkV d sc_effect_of fun cdv A outer s H E hr => ?_
  have tk := takes_body (C := C) (N := ["view", "row"]) (x := "effect_of") (st := s_effect_of) (f := f) (cdv := cdv) (A := A) (outer := outer) (s := s) (H := H) (E := E)
  have ic : In C (bodyX C ["view", "row"] "effect_of" s_effect_of f cdv A outer s H E) := ⟨rfl, rfl, rfl, rfl, rfl⟩
  exact (ss_one (ss_ret (se_tup (sa_cons (se_call (ok_end_of T) ic tk hr (by rfl) (sa_cons (se_var 0 (pv 0)) (sa_cons se_int (sa_cons (se_var 1 (pv 1)) sa_nil)))) (sa_cons (se_call (ok_end_of T) ic tk hr (by rfl) (sa_cons (se_var 0 (pv 0)) (sa_cons (se_call (ok_top_of T) ic tk (hr.mono (by decide)) (by rfl) (sa_cons (se_var 0 (pv 0)) sa_nil)) (sa_cons (se_var 1 (pv 1)) sa_nil)))) sa_nil)))))
abbrev s_require_number : Stmt := top 35
theorem sc_require_number : FnScope ["value", "most"] ["value", "most"] (defScope s_require_number) := ⟨rfl, rfl, rfl, by decide +kernel, rfl, by decide +kernel, by decide +kernel⟩
theorem ok_require_number {C : Lin.Ctx} (T : Tx C) : HasV C "require_number" 2 m_require_number := by
  obtain ⟨f, fd, d⟩ := T.d_require_number
  refine mkV d sc_require_number fun cdv A outer s H E hr => ?_
  have tk := takes_body (C := C) (N := ["value", "most"]) (x := "require_number") (st := s_require_number) (f := f) (cdv := cdv) (A := A) (outer := outer) (s := s) (H := H) (E := E)
  have ic : In C (bodyX C ["value", "most"] "require_number" s_require_number f cdv A outer s H E) := ⟨rfl, rfl, rfl, rfl, rfl⟩
  exact (ss_one (ss_if (st_not (st_val (se_call (ok_is_integer T) ic tk hr (by rfl) (sa_cons (se_var 0 (pv 0)) (sa_cons se_int (sa_cons (se_var 1 (pv 1)) sa_nil)))))) (ss_one (ss_raiseX T.e_InvalidNumber ic rfl tk)) ss_nil))
abbrev s_farthest : Stmt := top 36
theorem sc_farthest : FnScope ["view", "position", "low", "high"] ["view", "position"] (defScope s_farthest) := ⟨rfl, rfl, rfl, by decide +kernel, rfl, by decide +kernel, by decide +kernel⟩
theorem ok_farthest {C : Lin.Ctx} (T : Tx C) : HasV C "farthest" 3 m_farthest := by
  obtain ⟨f, fd, d⟩ := T.d_farthest
  refine mkV d sc_farthest fun cdv A outer s H E hr => ?_
  have tk := takes_body (C := C) (N := ["view", "position", "low", "high"]) (x := "farthest") (st := s_farthest) (f := f) (cdv := cdv) (A := A) (outer := outer) (s := s) (H := H) (E := E)
  have ic : In C (bodyX C ["view", "position", "low", "high"] "farthest" s_farthest f cdv A outer s H E) := ⟨rfl, rfl, rfl, rfl, rfl⟩
  exact (ss_cons (ss_par 2 3 rfl sc_farthest.nd (sm_val (e_ix (se_call (ok_range_of T) ic tk hr (by rfl) (sa_cons (se_var 0 (pv 0)) (sa_cons se_int sa_nil))) se_int) (sm_val (e_ix (se_call (ok_range_of T) ic tk hr (by rfl) (sa_cons (se_var 0 (pv 0)) (sa_cons (e_sub (e_len T.n_len (sa_cons (e_ix (se_var 0 (pv 0)) se_int) sa_nil)) se_int) sa_nil))) se_int) sm_nil)))
    (ss_one (ss_ret (se_tup (sa_cons (e_max rfl T.n_max (sa_cons se_int (sa_cons (e_sub (se_var 1 (pv 1)) (se_var 2 (pv 2))) (sa_cons (e_sub (se_var 3 (pv 3)) (se_var 1 (pv 1))) sa_nil)))) (sa_cons (e_max rfl T.n_max (sa_cons se_int (sa_cons (e_sub (se_var 3 (pv 3)) (se_var 2 (pv 2))) sa_nil))) sa_nil))))))
abbrev s_greatest_scroll : Stmt := top 37
theorem sc_greatest_scroll : FnScope ["view", "position", "number", "first", "each"] ["view", "position", "number"] (defScope s_greatest_scroll) := ⟨rfl, rfl, rfl, by decide +kernel, rfl, by decide +kernel, by decide +kernel⟩
theorem ok_greatest_scroll {C : Lin.Ctx} (T : Tx C) : HasV C "greatest_scroll" 5 m_greatest_scroll := by
  obtain ⟨f, fd, d⟩ := T.d_greatest_scroll
  refine mkV d sc_greatest_scroll fun cdv A outer s H E hr => ?_
  have tk := takes_body (C := C) (N := ["view", "position", "number", "first", "each"]) (x := "greatest_scroll") (st := s_greatest_scroll) (f := f) (cdv := cdv) (A := A) (outer := outer) (s := s) (H := H) (E := E)
  have ic : In C (bodyX C ["view", "position", "number", "first", "each"] "greatest_scroll" s_greatest_scroll f cdv A outer s H E) := ⟨rfl, rfl, rfl, rfl, rfl⟩
  exact (ss_cons (ss_expr (se_call (ok_require_view T) ic tk hr (by rfl) (sa_cons (se_var 0 (pv 0)) sa_nil)))
    (ss_cons (ss_expr (se_call (ok_require_position T) ic tk (hr.mono (by decide)) (by rfl) (sa_cons (se_var 0 (pv 0)) (sa_cons (se_var 1 (pv 1)) sa_nil))))
    (ss_cons (ss_expr (se_call (ok_require_number T) ic tk (hr.mono (by decide)) (by rfl) (sa_cons (se_var 2 (pv 2)) (sa_cons (se_globX T.t_MOST_REVEALS ic) sa_nil))))
    (ss_cons (ss_asg (se_call (ok_farthest T) ic tk (hr.mono (by decide)) (by rfl) (sa_cons (se_var 0 (pv 0)) (sa_cons (se_var 1 (pv 1)) sa_nil))) (sg_tup (n := 2) rfl (sgs_cons (sg_name 3 sc_greatest_scroll.nd) (sgs_cons (sg_name 4 sc_greatest_scroll.nd) sgs_nil)) (fun _ _ _ h => consG_len (fun _ _ _ h => consG_len (fun _ _ _ h => nilG_len h) h) h)))
    (ss_one (ss_ret (se_if (t_gt (se_var 2 (pv 2)) se_int) (e_add (se_var 3 (pv 3)) (e_mul (e_sub (se_var 2 (pv 2)) se_int) (se_var 4 (pv 4)))) se_int)))))))
abbrev s_fewest_for : Stmt := top 38
theorem sc_fewest_for : FnScope ["view", "position", "distance", "first", "each"] ["view", "position", "distance"] (defScope s_fewest_for) := ⟨rfl, rfl, rfl, by decide +kernel, rfl, by decide +kernel, by decide +kernel⟩
theorem ok_fewest_for {C : Lin.Ctx} (T : Tx C) : HasV C "fewest_for" 5 m_fewest_for := by
  obtain ⟨f, fd, d⟩ := T.d_fewest_for
  refine mkV d sc_fewest_for fun cdv A outer s H E hr => ?_
  have tk := takes_body (C := C) (N := ["view", "position", "distance", "first", "each"]) (x := "fewest_for") (st := s_fewest_for) (f := f) (cdv := cdv) (A := A) (outer := outer) (s := s) (H := H) (E := E)
  have ic : In C (bodyX C ["view", "position", "distance", "first", "each"] "fewest_for" s_fewest_for f cdv A outer s H E) := ⟨rfl, rfl, rfl, rfl, rfl⟩
  exact (ss_cons (ss_expr (se_call (ok_require_view T) ic tk hr (by rfl) (sa_cons (se_var 0 (pv 0)) sa_nil)))
    (ss_cons (ss_expr (se_call (ok_require_position T) ic tk (hr.mono (by decide)) (by rfl) (sa_cons (se_var 0 (pv 0)) (sa_cons (se_var 1 (pv 1)) sa_nil))))
    (ss_cons (ss_expr (se_call (ok_require_number T) ic tk (hr.mono (by decide)) (by rfl) (sa_cons (se_var 2 (pv 2)) (sa_cons (se_globX T.t_MOST_DISTANCE ic) sa_nil))))
    (ss_cons (ss_asg (se_call (ok_farthest T) ic tk (hr.mono (by decide)) (by rfl) (sa_cons (se_var 0 (pv 0)) (sa_cons (se_var 1 (pv 1)) sa_nil))) (sg_tup (n := 2) rfl (sgs_cons (sg_name 3 sc_fewest_for.nd) (sgs_cons (sg_name 4 sc_fewest_for.nd) sgs_nil)) (fun _ _ _ h => consG_len (fun _ _ _ h => consG_len (fun _ _ _ h => nilG_len h) h) h)))
    (ss_cons (ss_if (t_eq hr (se_var 2 (pv 2)) se_int) (ss_one (ss_ret se_int)) ss_nil)
    (ss_cons (ss_if (t_le (se_var 2 (pv 2)) (se_var 3 (pv 3))) (ss_one (ss_ret se_int)) ss_nil)
    (ss_one (ss_ret (se_if (t_gt (se_var 4 (pv 4)) se_int) (e_add se_int (e_div (e_sub (e_add (e_sub (se_var 2 (pv 2)) (se_var 3 (pv 3))) (se_var 4 (pv 4))) se_int) (se_var 4 (pv 4)))) se_non)))))))))
abbrev s_require_pair : Stmt := top 42
theorem sc_require_pair : FnScope ["view", "value", "last", "part"] ["view", "value"] (defScope s_require_pair) := ⟨rfl, rfl, rfl, by decide +kernel, rfl, by decide +kernel, by decide +kernel⟩
theorem ok_require_pair {C : Lin.Ctx} (T : Tx C) : HasV C "require_pair" 2 m_require_pair := by
  obtain ⟨f, fd, d⟩ := T.d_require_pair
  refine mkV d sc_require_pair fun cdv A outer s H E hr => ?_
  have tk := takes_body (C := C) (N := ["view", "value", "last", "part"]) (x := "require_pair") (st := s_require_pair) (f := f) (cdv := cdv) (A := A) (outer := outer) (s := s) (H := H) (E := E)
  have ic : In C (bodyX C ["view", "value", "last", "part"] "require_pair" s_require_pair f cdv A outer s H E) := ⟨rfl, rfl, rfl, rfl, rfl⟩
  exact (ss_cons (ss_set 2 (se_call (ok_top_of T) ic tk hr (by rfl) (sa_cons (se_var 0 (pv 0)) sa_nil)) sc_require_pair.nd)
    (ss_cons (ss_if (PW.st (sw_or (st_not (st_val (e_isi kit_tuple T.n_isinstance T.n_tuple b_tuple (se_var 1 (pv 1))))) (sw_or (t_ne hr (e_len T.n_len (sa_cons (se_var 1 (pv 1)) sa_nil)) se_int) (sw_one (st_not (st_val (e_all rfl T.n_all (sa_cons (so_frz (so_lc (own := [("part", 3)]) rfl sc_require_pair.nd (si_seq (se_var 1 (pv 1))) (blkOk_by (N := ["view", "value", "last", "part"]) (sc := defScope s_require_pair) (by decide +kernel)) rfl (fun _ _ _ _ _ => (sg_name 3 sc_require_pair.nd)) (fun _ _ _ _ _ => sts_nil) (fun _ _ _ _ _ => (se_call (ok_is_integer T) ⟨rfl, rfl, rfl, rfl, rfl⟩ takesN hr (by rfl) (sa_cons (se_var 3 (pv 3)) (sa_cons se_int (sa_cons (se_var 2 (pv 2)) sa_nil))))))) sa_nil)))) (.inr rfl))))) (ss_one (ss_raiseX T.e_InvalidPosition ic rfl tk)) ss_nil)
    (ss_one (ss_if (t_gt (e_ix (se_var 1 (pv 1)) se_int) (e_ix (se_var 1 (pv 1)) se_int)) (ss_one (ss_raiseX T.e_InvalidPosition ic rfl tk)) ss_nil))))
abbrev s_counts_of : Stmt := top 43
theorem sc_counts_of : FnScope ["view", "number", "ranges", "counts", "turn", "later", "low", "high", "pair", "new", "item"] ["view", "number"] (defScope s_counts_of) := ⟨rfl, rfl, rfl, by decide +kernel, rfl, by decide +kernel, by decide +kernel⟩
theorem ok_counts_of {C : Lin.Ctx} (T : Tx C) : HasD C "counts_of" 3 m_counts_of := by
  obtain ⟨f, fd, d⟩ := T.d_counts_of
  refine mkD d sc_counts_of fun cdv A outer s H E hr => ?_
  have tk := takes_body (C := C) (N := ["view", "number", "ranges", "counts", "turn", "later", "low", "high", "pair", "new", "item"]) (x := "counts_of") (st := s_counts_of) (f := f) (cdv := cdv) (A := A) (outer := outer) (s := s) (H := H) (E := E)
  have ic : In C (bodyX C ["view", "number", "ranges", "counts", "turn", "later", "low", "high", "pair", "new", "item"] "counts_of" s_counts_of f cdv A outer s H E) := ⟨rfl, rfl, rfl, rfl, rfl⟩
  exact (ss_cons (ss_lcF 2 (own := [("item", 10)]) rfl sc_counts_of.nd (si_range1 (by rfl) T.n_range (sa_cons (e_len T.n_len (sa_cons (e_ix (se_var 0 (pv 0)) se_int) sa_nil)) sa_nil)) (blkOk_by (N := ["view", "number", "ranges", "counts", "turn", "later", "low", "high", "pair", "new", "item"]) (sc := defScope s_counts_of) (by decide +kernel)) rfl (fun _ _ _ _ _ => (sg_name 10 sc_counts_of.nd)) (fun _ _ _ _ _ => sts_nil) (fun _ _ _ _ _ => (se_call (ok_range_of T) ⟨rfl, rfl, rfl, rfl, rfl⟩ takesN hr (by rfl) (sa_cons (se_var 0 (pv 0)) (sa_cons (se_var 10 (pv 10)) sa_nil)))) (sw_true rfl rfl rfl (by decide +kernel)))
    (ss_cons (ss_setC 3 (sd_dispT hr (se_tup (sa_cons se_int (sa_cons (se_call (ok_top_of T) ic tk (hr.mono (by decide)) (by rfl) (sa_cons (se_var 0 (pv 0)) sa_nil)) sa_nil))) se_int) sc_counts_of.nd)
    (ss_cons (ss_for passes_body rfl (si_range1 (by rfl) T.n_range (sa_cons (se_var 1 (pv 1)) sa_nil)) (sg_name 4 sc_counts_of.nd) (ss_cons (ss_setC 5 sd_newT sc_counts_of.nd)
    (ss_cons (ss_preD 3 (ss_for passes_body rfl (si_keys (se_var 3 (pv 3))) (sg_tup (n := 2) rfl (sgs_cons (sg_name 6 sc_counts_of.nd) (sgs_cons (sg_name 7 sc_counts_of.nd) sgs_nil)) (fun _ _ _ h => consG_len (fun _ _ _ h => consG_len (fun _ _ _ h => nilG_len h) h) h)) (ss_one (ss_for passes_body rfl (si_seq (se_var 2 (pv 2))) (sg_name 8 sc_counts_of.nd) (ss_cons (ss_set 9 (se_tup (sa_cons (se_call (ok_nearest T) ic tk (hr.mono (by decide)) (by rfl) (sa_cons (se_var 6 (pv 6)) (sa_cons (se_var 8 (pv 8)) sa_nil))) (sa_cons (se_call (ok_nearest T) ic tk (hr.mono (by decide)) (by rfl) (sa_cons (se_var 7 (pv 7)) (sa_cons (se_var 8 (pv 8)) sa_nil))) sa_nil))) sc_counts_of.nd)
    (ss_one (ss_dput 5 hr (pv 5) (se_var 9 (pv 9)) (e_add (se_dget2Own 5 hr (pv 5) (se_var 9 (pv 9)) se_int) (se_dix hr (se_var 3 (pv 3)) (se_tup (sa_cons (se_var 6 (pv 6)) (sa_cons (se_var 7 (pv 7)) sa_nil))))))))))))
    (ss_one (ss_setC 3 (sd_move 5 (pv 5)) sc_counts_of.nd)))))
    (ss_one (ss_retC (sd_move 3 (pv 3)))))))
abbrev s_count_rows : Stmt := top 44
theorem sc_count_rows : FnScope ["view", "pair", "number"] ["view", "pair", "number"] (defScope s_count_rows) := ⟨rfl, rfl, rfl, by decide +kernel, rfl, by decide +kernel, by decide +kernel⟩
theorem ok_count_rows {C : Lin.Ctx} (T : Tx C) : HasV C "count_rows" 5 m_count_rows := by
  obtain ⟨f, fd, d⟩ := T.d_count_rows
  refine mkV d sc_count_rows fun cdv A outer s H E hr => ?_
  have tk := takes_body (C := C) (N := ["view", "pair", "number"]) (x := "count_rows") (st := s_count_rows) (f := f) (cdv := cdv) (A := A) (outer := outer) (s := s) (H := H) (E := E)
  have ic : In C (bodyX C ["view", "pair", "number"] "count_rows" s_count_rows f cdv A outer s H E) := ⟨rfl, rfl, rfl, rfl, rfl⟩
  exact (ss_cons (ss_expr (se_call (ok_require_view T) ic tk hr (by rfl) (sa_cons (se_var 0 (pv 0)) sa_nil)))
    (ss_cons (ss_expr (se_call (ok_require_pair T) ic tk (hr.mono (by decide)) (by rfl) (sa_cons (se_var 0 (pv 0)) (sa_cons (se_var 1 (pv 1)) sa_nil))))
    (ss_cons (ss_expr (se_call (ok_require_number T) ic tk (hr.mono (by decide)) (by rfl) (sa_cons (se_var 2 (pv 2)) (sa_cons (se_globX T.t_MOST_COUNTED ic) sa_nil))))
    (ss_one (ss_ret (se_dget2 hr (e_dfrz (sd_call (ok_counts_of T) ic tk (hr.mono (by decide)) (by rfl) (sa_cons (se_var 0 (pv 0)) (sa_cons (se_var 2 (pv 2)) sa_nil)))) (se_var 1 (pv 1)) se_int))))))
abbrev s_count_sure : Stmt := top 45
theorem sc_count_sure : FnScope ["view", "number", "counts", "pair"] ["view", "number"] (defScope s_count_sure) := ⟨rfl, rfl, rfl, by decide +kernel, rfl, by decide +kernel, by decide +kernel⟩
theorem ok_count_sure {C : Lin.Ctx} (T : Tx C) : HasV C "count_sure" 5 m_count_sure := by
  obtain ⟨f, fd, d⟩ := T.d_count_sure
  refine mkV d sc_count_sure fun cdv A outer s H E hr => ?_
  have tk := takes_body (C := C) (N := ["view", "number", "counts", "pair"]) (x := "count_sure") (st := s_count_sure) (f := f) (cdv := cdv) (A := A) (outer := outer) (s := s) (H := H) (E := E)
  have ic : In C (bodyX C ["view", "number", "counts", "pair"] "count_sure" s_count_sure f cdv A outer s H E) := ⟨rfl, rfl, rfl, rfl, rfl⟩
  exact (ss_cons (ss_expr (se_call (ok_require_view T) ic tk hr (by rfl) (sa_cons (se_var 0 (pv 0)) sa_nil)))
    (ss_cons (ss_expr (se_call (ok_require_number T) ic tk (hr.mono (by decide)) (by rfl) (sa_cons (se_var 1 (pv 1)) (sa_cons (se_globX T.t_MOST_COUNTED ic) sa_nil))))
    (ss_cons (ss_setC 2 (sd_call (ok_counts_of T) ic tk (hr.mono (by decide)) (by rfl) (sa_cons (se_var 0 (pv 0)) (sa_cons (se_var 1 (pv 1)) sa_nil))) sc_count_sure.nd)
    (ss_one (ss_preD 2 (ss_ret (e_sum rfl T.n_sum (sa_cons (so_frz (so_lc (own := [("pair", 3)]) rfl sc_count_sure.nd (si_keys (se_var 2 (pv 2))) (blkOk_by (N := ["view", "number", "counts", "pair"]) (sc := defScope s_count_sure) (by decide +kernel)) rfl (fun _ _ _ _ _ => (sg_name 3 sc_count_sure.nd)) (fun _ _ _ _ _ => (sts_one (t_eq hr (e_ix (se_var 3 (pv 3)) se_int) (e_ix (se_var 3 (pv 3)) se_int)))) (fun _ _ _ _ _ => (se_dix hr (se_var 2 (pv 2)) (se_var 3 (pv 3)))))) sa_nil))))))))
abbrev s_classes : Stmt := top 46
theorem sc_classes : FnScope ["view", "rows", "pairs", "found", "index", "pair", "places", "at", "row", "some"] ["view", "rows"] (defScope s_classes) := ⟨rfl, rfl, rfl, by decide +kernel, rfl, by decide +kernel, by decide +kernel⟩
theorem ok_classes {C : Lin.Ctx} (T : Tx C) : HasO C "classes" 5 m_classes := by
  obtain ⟨f, fd, d⟩ := T.d_classes
  refine mkO d sc_classes fun cdv A outer s H E hr => ?_
  have tk := takes_body (C := C) (N := ["view", "rows", "pairs", "found", "index", "pair", "places", "at", "row", "some"]) (x := "classes") (st := s_classes) (f := f) (cdv := cdv) (A := A) (outer := outer) (s := s) (H := H) (E := E)
  have ic : In C (bodyX C ["view", "rows", "pairs", "found", "index", "pair", "places", "at", "row", "some"] "classes" s_classes f cdv A outer s H E) := ⟨rfl, rfl, rfl, rfl, rfl⟩
  exact (ss_cons (ss_expr (se_call (ok_require_view T) ic tk hr (by rfl) (sa_cons (se_var 0 (pv 0)) sa_nil)))
    (ss_cons (ss_if (PW.st (sw_or (st_not (st_val (e_isi kit_tuple T.n_isinstance T.n_tuple b_tuple (se_var 1 (pv 1))))) (sw_or (st_not (t_le2 se_int (e_len T.n_len (sa_cons (se_var 1 (pv 1)) sa_nil)) (se_globX T.t_MAX_CLASSED ic))) (sw_one (st_not (st_val (e_all rfl T.n_all (sa_cons (so_frz (so_lc (own := [("row", 8)]) rfl sc_classes.nd (si_seq (se_var 1 (pv 1))) (blkOk_by (N := ["view", "rows", "pairs", "found", "index", "pair", "places", "at", "row", "some"]) (sc := defScope s_classes) (by decide +kernel)) rfl (fun _ _ _ _ _ => (sg_name 8 sc_classes.nd)) (fun _ _ _ _ _ => sts_nil) (fun _ _ _ _ _ => (se_call (ok_is_row T) ⟨rfl, rfl, rfl, rfl, rfl⟩ takesN (hr.mono (by decide)) (by rfl) (sa_cons (se_var 0 (pv 0)) (sa_cons (se_var 8 (pv 8)) sa_nil)))))) sa_nil)))) (.inr rfl))))) (ss_one (ss_raiseX T.e_InvalidRow ic rfl tk)) ss_nil)
    (ss_cons (ss_parT 2 3 rfl sc_classes.nd (sm_val (so_frz (so_lc (own := [("row", 8)]) rfl sc_classes.nd (si_seq (se_var 1 (pv 1))) (blkOk_by (N := ["view", "rows", "pairs", "found", "index", "pair", "places", "at", "row", "some"]) (sc := defScope s_classes) (by decide +kernel)) rfl (fun _ _ _ _ _ => (sg_name 8 sc_classes.nd)) (fun _ _ _ _ _ => sts_nil) (fun _ _ _ _ _ => (se_call (ok_effect_of T) ⟨rfl, rfl, rfl, rfl, rfl⟩ takesN hr (by rfl) (sa_cons (se_var 0 (pv 0)) (sa_cons (se_var 8 (pv 8)) sa_nil)))))) (sm_own (so_lst sa_nil) sm_nil)))
    (ss_cons (ss_for passes_body rfl (si_enum (by rfl) T.n_enumerate (se_var 2 (pv 2))) (sg_tup (n := 2) rfl (sgs_cons (sg_name 4 sc_classes.nd) (sgs_cons (sg_name 5 sc_classes.nd) sgs_nil)) (fun _ _ _ h => consG_len (fun _ _ _ h => consG_len (fun _ _ _ h => nilG_len h) h) h)) (ss_cons (ss_lcEnumOwn 6 3 (own := [("at", 7), ("some", 9)]) rfl sc_classes.nd (by rfl) T.n_enumerate (pv 3) (blkOk_by (N := ["view", "rows", "pairs", "found", "index", "pair", "places", "at", "row", "some"]) (sc := defScope s_classes) (by decide +kernel)) rfl (fun _ _ _ _ _ => (sg_tup (n := 2) rfl (sgs_cons (sg_name 7 sc_classes.nd) (sgs_cons (sg_name 9 sc_classes.nd) sgs_nil)) (fun _ _ _ h => consG_len (fun _ _ _ h => consG_len (fun _ _ _ h => nilG_len h) h) h))) (fun _ _ _ _ _ => (sts_one (t_eq hr (e_ix (se_var 2 (pv 2)) (e_ix (se_var 9 (pv 9)) se_int)) (se_var 5 (pv 5))))) (fun _ _ _ _ _ => (se_var 7 (pv 7))) (sw_true rfl rfl rfl (by decide +kernel)))
    (ss_one (ss_if (t_eq hr (se_var 6 (pv 6)) (so_frz (so_lst sa_nil))) (ss_one (ss_app 3 (pv 3) (se_tup (sa_cons (se_var 4 (pv 4)) sa_nil)) (pe_bm PySem.F.plainAttrs_list PySem.F.slot_list_append PySem.F.type_list_append mt_append (pv 3) (pa_cons (se_tup (sa_cons (se_var 4 (pv 4)) sa_nil)) pa_nil)))) (ss_one (ss_setIt 3 (pv 3) (e_ix (se_var 6 (pv 6)) se_int) (e_add (se_ixOwn 3 (pv 3) (e_ix (se_var 6 (pv 6)) se_int) fun _ _ => rfl) (se_tup (sa_cons (se_var 4 (pv 4)) sa_nil)))))))))
    (ss_one (ss_retO (so_move 3 (pv 3))))))))
abbrev s_require_items : Stmt := top 49
theorem sc_require_items : FnScope ["view", "value", "item", "one", "other"] ["view", "value"] (defScope s_require_items) := ⟨rfl, rfl, rfl, by decide +kernel, rfl, by decide +kernel, by decide +kernel⟩
theorem ok_require_items {C : Lin.Ctx} (T : Tx C) : HasV C "require_items" 2 m_require_items := by
  obtain ⟨f, fd, d⟩ := T.d_require_items
  refine mkV d sc_require_items fun cdv A outer s H E hr => ?_
  have tk := takes_body (C := C) (N := ["view", "value", "item", "one", "other"]) (x := "require_items") (st := s_require_items) (f := f) (cdv := cdv) (A := A) (outer := outer) (s := s) (H := H) (E := E)
  have ic : In C (bodyX C ["view", "value", "item", "one", "other"] "require_items" s_require_items f cdv A outer s H E) := ⟨rfl, rfl, rfl, rfl, rfl⟩
  exact (ss_cons (ss_if (PW.st (sw_or (st_not (st_val (e_isi kit_tuple T.n_isinstance T.n_tuple b_tuple (se_var 1 (pv 1))))) (sw_one (st_not (t_le2 se_int (e_len T.n_len (sa_cons (se_var 1 (pv 1)) sa_nil)) (se_globX T.t_MAX_CHOSEN ic))) (.inr rfl)))) (ss_one (ss_raiseX T.e_InvalidItems ic rfl tk)) ss_nil)
    (ss_cons (ss_if (st_not (st_val (e_all rfl T.n_all (sa_cons (so_frz (so_lc (own := [("item", 2)]) rfl sc_require_items.nd (si_seq (se_var 1 (pv 1))) (blkOk_by (N := ["view", "value", "item", "one", "other"]) (sc := defScope s_require_items) (by decide +kernel)) rfl (fun _ _ _ _ _ => (sg_name 2 sc_require_items.nd)) (fun _ _ _ _ _ => sts_nil) (fun _ _ _ _ _ => (se_call (ok_is_integer T) ⟨rfl, rfl, rfl, rfl, rfl⟩ takesN hr (by rfl) (sa_cons (se_var 2 (pv 2)) (sa_cons se_int (sa_cons (e_sub (e_len T.n_len (sa_cons (e_ix (se_var 0 (pv 0)) se_int) sa_nil)) se_int) sa_nil))))))) sa_nil)))) (ss_one (ss_raiseX T.e_InvalidItems ic rfl tk)) ss_nil)
    (ss_one (ss_if (st_not (st_val (e_all rfl T.n_all (sa_cons (so_frz (so_lc (own := [("one", 3), ("other", 4)]) rfl sc_require_items.nd (si_zip (by rfl) T.n_zip (sa_cons (se_var 1 (pv 1)) (sa_cons (e_sl (se_var 1 (pv 1)) (sp_some se_int) sp_none) sa_nil))) (blkOk_by (N := ["view", "value", "item", "one", "other"]) (sc := defScope s_require_items) (by decide +kernel)) rfl (fun _ _ _ _ _ => (sg_tup (n := 2) rfl (sgs_cons (sg_name 3 sc_require_items.nd) (sgs_cons (sg_name 4 sc_require_items.nd) sgs_nil)) (fun _ _ _ h => consG_len (fun _ _ _ h => consG_len (fun _ _ _ h => nilG_len h) h) h))) (fun _ _ _ _ _ => sts_nil) (fun _ _ _ _ _ => (e_lt (se_var 3 (pv 3)) (se_var 4 (pv 4)))))) sa_nil)))) (ss_one (ss_raiseX T.e_InvalidItems ic rfl tk)) ss_nil))))
abbrev s_common : Stmt := top 50
theorem sc_common : FnScope ["view", "items", "ranges", "low", "high", "item", "pair"] ["view", "items"] (defScope s_common) := ⟨rfl, rfl, rfl, by decide +kernel, rfl, by decide +kernel, by decide +kernel⟩
theorem ok_common {C : Lin.Ctx} (T : Tx C) : HasV C "common" 3 m_common := by
  obtain ⟨f, fd, d⟩ := T.d_common
  refine mkV d sc_common fun cdv A outer s H E hr => ?_
  have tk := takes_body (C := C) (N := ["view", "items", "ranges", "low", "high", "item", "pair"]) (x := "common") (st := s_common) (f := f) (cdv := cdv) (A := A) (outer := outer) (s := s) (H := H) (E := E)
  have ic : In C (bodyX C ["view", "items", "ranges", "low", "high", "item", "pair"] "common" s_common f cdv A outer s H E) := ⟨rfl, rfl, rfl, rfl, rfl⟩
  exact (ss_cons (ss_lcF 2 (own := [("item", 5)]) rfl sc_common.nd (si_seq (se_var 1 (pv 1))) (blkOk_by (N := ["view", "items", "ranges", "low", "high", "item", "pair"]) (sc := defScope s_common) (by decide +kernel)) rfl (fun _ _ _ _ _ => (sg_name 5 sc_common.nd)) (fun _ _ _ _ _ => sts_nil) (fun _ _ _ _ _ => (se_call (ok_range_of T) ⟨rfl, rfl, rfl, rfl, rfl⟩ takesN hr (by rfl) (sa_cons (se_var 0 (pv 0)) (sa_cons (se_var 5 (pv 5)) sa_nil)))) (sw_true rfl rfl rfl (by decide +kernel)))
    (ss_cons (ss_par 3 4 rfl sc_common.nd (sm_val (e_max rfl T.n_max (sa_cons (so_frz (so_lc (own := [("pair", 6)]) rfl sc_common.nd (si_seq (se_var 2 (pv 2))) (blkOk_by (N := ["view", "items", "ranges", "low", "high", "item", "pair"]) (sc := defScope s_common) (by decide +kernel)) rfl (fun _ _ _ _ _ => (sg_name 6 sc_common.nd)) (fun _ _ _ _ _ => sts_nil) (fun _ _ _ _ _ => (e_ix (se_var 6 (pv 6)) se_int)))) sa_nil)) (sm_val (e_min rfl T.n_min (sa_cons (so_frz (so_lc (own := [("pair", 6)]) rfl sc_common.nd (si_seq (se_var 2 (pv 2))) (blkOk_by (N := ["view", "items", "ranges", "low", "high", "item", "pair"]) (sc := defScope s_common) (by decide +kernel)) rfl (fun _ _ _ _ _ => (sg_name 6 sc_common.nd)) (fun _ _ _ _ _ => sts_nil) (fun _ _ _ _ _ => (e_ix (se_var 6 (pv 6)) se_int)))) sa_nil)) sm_nil)))
    (ss_one (ss_ret (se_if (t_le (se_var 3 (pv 3)) (se_var 4 (pv 4))) (se_tup (sa_cons (se_var 3 (pv 3)) (sa_cons (se_var 4 (pv 4)) sa_nil))) se_non)))))
abbrev s_require_heights : Stmt := top 52
theorem sc_require_heights : FnScope ["value"] ["value"] (defScope s_require_heights) := ⟨rfl, rfl, rfl, by decide +kernel, rfl, by decide +kernel, by decide +kernel⟩
theorem ok_require_heights {C : Lin.Ctx} (T : Tx C) : HasV C "require_heights" 3 m_require_heights := by
  obtain ⟨f, fd, d⟩ := T.d_require_heights
  refine mkV d sc_require_heights fun cdv A outer s H E hr => ?_
  have tk := takes_body (C := C) (N := ["value"]) (x := "require_heights") (st := s_require_heights) (f := f) (cdv := cdv) (A := A) (outer := outer) (s := s) (H := H) (E := E)
  have ic : In C (bodyX C ["value"] "require_heights" s_require_heights f cdv A outer s H E) := ⟨rfl, rfl, rfl, rfl, rfl⟩
  exact (ss_one (ss_if (st_not (st_val (se_call (ok_is_heights T) ic tk hr (by rfl) (sa_cons (se_var 0 (pv 0)) sa_nil)))) (ss_one (ss_raiseX T.e_InvalidHeights ic rfl tk)) ss_nil))
abbrev s_ranges_of : Stmt := top 53
theorem sc_ranges_of : FnScope ["numbers", "found", "number"] ["numbers"] (defScope s_ranges_of) := ⟨rfl, rfl, rfl, by decide +kernel, rfl, by decide +kernel, by decide +kernel⟩
theorem ok_ranges_of {C : Lin.Ctx} (T : Tx C) : HasO C "ranges_of" 1 m_ranges_of := by
  obtain ⟨f, fd, d⟩ := T.d_ranges_of
  refine mkO d sc_ranges_of fun cdv A outer s H E hr => ?_
  have tk := takes_body (C := C) (N := ["numbers", "found", "number"]) (x := "ranges_of") (st := s_ranges_of) (f := f) (cdv := cdv) (A := A) (outer := outer) (s := s) (H := H) (E := E)
  have ic : In C (bodyX C ["numbers", "found", "number"] "ranges_of" s_ranges_of f cdv A outer s H E) := ⟨rfl, rfl, rfl, rfl, rfl⟩
  exact (ss_cons (ss_setO 1 (so_lst sa_nil) sc_ranges_of.nd)
    (ss_cons (ss_for passes_body rfl (si_seq (se_var 0 (pv 0))) (sg_name 2 sc_ranges_of.nd) (ss_one (ss_if (PW.st (sw_and (st_cmpOwn 1 (op_neD (Room.units hr)) os_ne (pv 1) (so_frz (so_lst sa_nil)) (nomark _)) (sw_one (t_eq hr (e_ix (se_ixOwn 1 (pv 1) (e_neg se_int) fun _ _ => rfl) se_int) (e_sub (se_var 2 (pv 2)) se_int)) (.inl rfl)))) (ss_one (ss_setIt 1 (pv 1) (e_neg se_int) (se_tup (sa_cons (e_ix (se_ixOwn 1 (pv 1) (e_neg se_int) fun _ _ => rfl) se_int) (sa_cons (se_var 2 (pv 2)) sa_nil))))) (ss_one (ss_app 1 (pv 1) (se_tup (sa_cons (se_var 2 (pv 2)) (sa_cons (se_var 2 (pv 2)) sa_nil))) (pe_bm PySem.F.plainAttrs_list PySem.F.slot_list_append PySem.F.type_list_append mt_append (pv 1) (pa_cons (se_tup (sa_cons (se_var 2 (pv 2)) (sa_cons (se_var 2 (pv 2)) sa_nil))) pa_nil)))))))
    (ss_one (ss_retO (so_move 1 (pv 1))))))
abbrev s_windows_together : Stmt := top 54
theorem sc_windows_together : FnScope ["heights", "items", "views", "view", "window"] ["heights", "items"] (defScope s_windows_together) := ⟨rfl, rfl, rfl, by decide +kernel, rfl, by decide +kernel, by decide +kernel⟩
theorem ok_windows_together {C : Lin.Ctx} (T : Tx C) : HasO C "windows_together" 4 m_windows_together := by
  obtain ⟨f, fd, d⟩ := T.d_windows_together
  refine mkO d sc_windows_together fun cdv A outer s H E hr => ?_
  have tk := takes_body (C := C) (N := ["heights", "items", "views", "view", "window"]) (x := "windows_together") (st := s_windows_together) (f := f) (cdv := cdv) (A := A) (outer := outer) (s := s) (H := H) (E := E)
  have ic : In C (bodyX C ["heights", "items", "views", "view", "window"] "windows_together" s_windows_together f cdv A outer s H E) := ⟨rfl, rfl, rfl, rfl, rfl⟩
  exact (ss_cons (ss_expr (se_call (ok_require_heights T) ic tk hr (by rfl) (sa_cons (se_var 0 (pv 0)) sa_nil)))
    (ss_cons (ss_expr (se_call (ok_require_items T) ic tk (hr.mono (by decide)) (by rfl) (sa_cons (se_tup (sa_cons (se_var 0 (pv 0)) (sa_cons se_int sa_nil))) (sa_cons (se_var 1 (pv 1)) sa_nil))))
    (ss_cons (ss_lcF 2 (own := [("window", 4)]) rfl sc_windows_together.nd (si_range2 (by rfl) T.n_range (sa_cons se_int (sa_cons (e_add (se_globX T.t_MAX_WINDOW ic) se_int) sa_nil))) (blkOk_by (N := ["heights", "items", "views", "view", "window"]) (sc := defScope s_windows_together) (by decide +kernel)) rfl (fun _ _ _ _ _ => (sg_name 4 sc_windows_together.nd)) (fun _ _ _ _ _ => sts_nil) (fun _ _ _ _ _ => (se_tup (sa_cons (se_var 0 (pv 0)) (sa_cons (se_var 4 (pv 4)) sa_nil)))) (sw_true rfl rfl rfl (by decide +kernel)))
    (ss_one (ss_retO (so_call (ok_ranges_of T) ic tk (hr.mono (by decide)) (by rfl) (sa_cons (so_frz (so_lc (own := [("view", 3)]) rfl sc_windows_together.nd (si_seq (se_var 2 (pv 2))) (blkOk_by (N := ["heights", "items", "views", "view", "window"]) (sc := defScope s_windows_together) (by decide +kernel)) rfl (fun _ _ _ _ _ => (sg_name 3 sc_windows_together.nd)) (fun _ _ _ _ _ => (sts_one (t_isnot (se_call (ok_common T) ⟨rfl, rfl, rfl, rfl, rfl⟩ takesN hr (by rfl) (sa_cons (se_var 3 (pv 3)) (sa_cons (se_var 1 (pv 1)) sa_nil)))))) (fun _ _ _ _ _ => (e_ix (se_var 3 (pv 3)) se_int)))) sa_nil)))))))
abbrev s_windows_alike : Stmt := top 55
theorem sc_windows_alike : FnScope ["heights", "first", "second", "views", "view", "window"] ["heights", "first", "second"] (defScope s_windows_alike) := ⟨rfl, rfl, rfl, by decide +kernel, rfl, by decide +kernel, by decide +kernel⟩
theorem ok_windows_alike {C : Lin.Ctx} (T : Tx C) : HasO C "windows_alike" 5 m_windows_alike := by
  obtain ⟨f, fd, d⟩ := T.d_windows_alike
  refine mkO d sc_windows_alike fun cdv A outer s H E hr => ?_
  have tk := takes_body (C := C) (N := ["heights", "first", "second", "views", "view", "window"]) (x := "windows_alike") (st := s_windows_alike) (f := f) (cdv := cdv) (A := A) (outer := outer) (s := s) (H := H) (E := E)
  have ic : In C (bodyX C ["heights", "first", "second", "views", "view", "window"] "windows_alike" s_windows_alike f cdv A outer s H E) := ⟨rfl, rfl, rfl, rfl, rfl⟩
  exact (ss_cons (ss_expr (se_call (ok_require_heights T) ic tk (hr.mono (by decide)) (by rfl) (sa_cons (se_var 0 (pv 0)) sa_nil)))
    (ss_cons (ss_expr (se_call (ok_require_row T) ic tk (hr.mono (by decide)) (by rfl) (sa_cons (se_tup (sa_cons (se_var 0 (pv 0)) (sa_cons se_int sa_nil))) (sa_cons (se_var 1 (pv 1)) sa_nil))))
    (ss_cons (ss_expr (se_call (ok_require_row T) ic tk (hr.mono (by decide)) (by rfl) (sa_cons (se_tup (sa_cons (se_var 0 (pv 0)) (sa_cons se_int sa_nil))) (sa_cons (se_var 2 (pv 2)) sa_nil))))
    (ss_cons (ss_lcF 3 (own := [("window", 5)]) rfl sc_windows_alike.nd (si_range2 (by rfl) T.n_range (sa_cons se_int (sa_cons (e_add (se_globX T.t_MAX_WINDOW ic) se_int) sa_nil))) (blkOk_by (N := ["heights", "first", "second", "views", "view", "window"]) (sc := defScope s_windows_alike) (by decide +kernel)) rfl (fun _ _ _ _ _ => (sg_name 5 sc_windows_alike.nd)) (fun _ _ _ _ _ => sts_nil) (fun _ _ _ _ _ => (se_tup (sa_cons (se_var 0 (pv 0)) (sa_cons (se_var 5 (pv 5)) sa_nil)))) (sw_true rfl rfl rfl (by decide +kernel)))
    (ss_one (ss_retO (so_call (ok_ranges_of T) ic tk (hr.mono (by decide)) (by rfl) (sa_cons (so_frz (so_lc (own := [("view", 4)]) rfl sc_windows_alike.nd (si_seq (se_var 3 (pv 3))) (blkOk_by (N := ["heights", "first", "second", "views", "view", "window"]) (sc := defScope s_windows_alike) (by decide +kernel)) rfl (fun _ _ _ _ _ => (sg_name 4 sc_windows_alike.nd)) (fun _ _ _ _ _ => (sts_one (t_eq hr (se_call (ok_effect_of T) ⟨rfl, rfl, rfl, rfl, rfl⟩ takesN hr (by rfl) (sa_cons (se_var 4 (pv 4)) (sa_cons (se_var 1 (pv 1)) sa_nil))) (se_call (ok_effect_of T) ⟨rfl, rfl, rfl, rfl, rfl⟩ takesN hr (by rfl) (sa_cons (se_var 4 (pv 4)) (sa_cons (se_var 2 (pv 2)) sa_nil)))))) (fun _ _ _ _ _ => (e_ix (se_var 4 (pv 4)) se_int)))) sa_nil))))))))
abbrev s_law_source : Stmt := top 57
theorem sc_law_source : FnScope ["script", "k", "cell", "primes", "seed"] ["script", "k"] (defScope s_law_source) := ⟨rfl, rfl, rfl, by decide +kernel, rfl, by decide +kernel, by decide +kernel⟩
theorem ok_law_source {C : Lin.Ctx} (T : Tx C) : HasO C "_law_source" 1 m_law_source := by
  obtain ⟨f, fd, d⟩ := T.d_law_source
  refine mkO d sc_law_source fun cdv A outer s H E hr => ?_
  have tk := takes_body (C := C) (N := ["script", "k", "cell", "primes", "seed"]) (x := "_law_source") (st := s_law_source) (f := f) (cdv := cdv) (A := A) (outer := outer) (s := s) (H := H) (E := E)
  have ic : In C (bodyX C ["script", "k", "cell", "primes", "seed"] "_law_source" s_law_source f cdv A outer s H E) := ⟨rfl, rfl, rfl, rfl, rfl⟩
  exact (ss_cons (ss_set 2 se_int sc_law_source.nd)
    (ss_cons (ss_if (t_lt (se_var 1 (pv 1)) (e_len T.n_len (sa_cons (se_var 0 (pv 0)) sa_nil))) (ss_one (ss_set 2 (e_ix (se_var 0 (pv 0)) (se_var 1 (pv 1))) sc_law_source.nd)) ss_nil)
    (ss_cons (ss_set 3 (so_frz (so_lst (sa_cons se_int (sa_cons se_int (sa_cons se_int (sa_cons se_int (sa_cons se_int (sa_cons se_int (sa_cons se_int (sa_cons se_int sa_nil)))))))))) sc_law_source.nd)
    (ss_cons (ss_set 4 (e_mod (e_mul (e_add (e_mod (se_var 2 (pv 2)) se_int) se_int) (e_add se_int (e_mul se_int (se_var 1 (pv 1))))) se_int) sc_law_source.nd)
    (ss_cons (ss_set 4 (e_add (e_add (e_mod (e_mul (se_var 4 (pv 4)) (se_var 4 (pv 4))) se_int) (se_var 1 (pv 1))) se_int) sc_law_source.nd)
    (ss_cons (ss_if (t_ge (se_var 2 (pv 2)) (e_pow se_int se_int)) (ss_one (ss_retO (so_lst (sa_cons (se_var 2 (pv 2)) (sa_cons (se_var 4 (pv 4)) (sa_cons (e_ix (se_var 3 (pv 3)) (e_mod (se_var 1 (pv 1)) se_int)) sa_nil)))))) ss_nil)
    (ss_one (ss_retO (so_lst (sa_cons se_int (sa_cons (se_var 4 (pv 4)) (sa_cons (e_ix (se_var 3 (pv 3)) (e_mod (se_var 1 (pv 1)) se_int)) sa_nil))))))))))))
abbrev s_law_pick : Stmt := top 58
theorem sc_law_pick : FnScope ["source", "size", "drawn"] ["source", "size"] (defScope s_law_pick) := ⟨rfl, rfl, rfl, by decide +kernel, rfl, by decide +kernel, by decide +kernel⟩
theorem ok_law_pick {C : Lin.Ctx} (T : Tx C) : HasM C "_law_pick" 1 m_law_pick := by
  obtain ⟨f, fd, d⟩ := T.d_law_pick
  refine mkM d sc_law_pick (by decide) fun a cdv A outer s H E hr => ?_
  have tk := takes_body (C := C) (N := ["source", "size", "drawn"]) (x := "_law_pick") (st := s_law_pick) (f := f) (cdv := cdv) (A := A) (outer := outer) (s := s) (H := H) (E := E)
  have ic : In C (bodyX C ["source", "size", "drawn"] "_law_pick" s_law_pick f cdv A outer s H E) := ⟨rfl, rfl, rfl, rfl, rfl⟩
  exact (ss_cons (ss_if (t_gt (se_ixOwn 0 (pv 0) se_int fun _ _ => rfl) se_int) (ss_cons (ss_set 2 (e_mod (se_ixOwn 0 (pv 0) se_int fun _ _ => rfl) (se_var 1 (pv 1))) sc_law_pick.nd)
    (ss_cons (ss_setIt 0 (pv 0) se_int (e_div (se_ixOwn 0 (pv 0) se_int fun _ _ => rfl) (se_var 1 (pv 1))))
    (ss_one (ss_ret (se_var 2 (pv 2)))))) ss_nil)
    (ss_cons (ss_setIt 0 (pv 0) se_int (e_add (e_mod (e_mul (se_ixOwn 0 (pv 0) se_int fun _ _ => rfl) se_int) (se_ixOwn 0 (pv 0) se_int fun _ _ => rfl)) se_int))
    (ss_one (ss_ret (e_mod (e_div (e_mod (e_mul (se_ixOwn 0 (pv 0) se_int fun _ _ => rfl) (se_ixOwn 0 (pv 0) se_int fun _ _ => rfl)) se_int) se_int) (se_var 1 (pv 1)))))))
abbrev s_law_error_name : Stmt := top 59
theorem sc_law_error_name : FnScope ["e", "some", "names", "found", "good", "name"] ["e"] (defScope s_law_error_name) := ⟨rfl, rfl, rfl, by decide +kernel, rfl, by decide +kernel, by decide +kernel⟩
theorem err_word (n : Nat) (w : Str) (a : Addr) (h : errNm n = some w) : (c_law_error_name n a (start0 (["e", "some", "names", "found", "good", "name"] : List Str).length [adrD a])).bind (fun p => R.ok p.1) = .ok (.ret (.str w)) := by
  refine err_word0 n w a ?_
  rcases errNm_cases n w h with h1 | h1 | h1 | h1 | h1 | h1 <;> subst h1 <;> exact h
theorem ok_law_error_name {C : Lin.Ctx} (T : Tx C) : HasE C "_law_error_name" 1 errNm := by
  obtain ⟨f, fd, d⟩ := T.d_law_error_name
  refine mkE (c := c_law_error_name) d sc_law_error_name (fun n w a oe base hn he cdv A outer s H E hot hr => ?_) (fun n w a hn => ?_)
  · obtain ⟨D, e1, eC, eV, eJ, _⟩ := (T.err n w hn).ex
    have hz : L2N.Zn (.ref D) none oe := e1 ▸ he.zn
    obtain ⟨q0, m0, k0⟩ := eJ 0 "InvalidView" rfl
    obtain ⟨q1, m1, k1⟩ := eJ 1 "InvalidItem" rfl
    obtain ⟨q2, m2, k2⟩ := eJ 2 "InvalidPosition" rfl
    obtain ⟨q3, m3, k3⟩ := eJ 3 "InvalidRow" rfl
    obtain ⟨q4, m4, k4⟩ := eJ 4 "InvalidItems" rfl
    obtain ⟨q5, m5, k5⟩ := eJ 5 "InvalidHeights" rfl
    obtain ⟨q6, m6, k6⟩ := eJ 6 "InvalidNumber" rfl
    obtain ⟨q7, m7, k7⟩ := eJ 7 "InvalidSightings" rfl
    obtain ⟨q8, m8, k8⟩ := eJ 8 "OtherView" rfl
    obtain ⟨q9, m9, k9⟩ := eJ 9 "NothingToUndo" rfl
    obtain ⟨q10, m10, k10⟩ := eJ 10 "ScrollError" rfl
    exact (ss_cons (ss_setO 1 (so_lst (sa_cons (se_isE 0 eC he.at_ hz he.fl T.n_isinstance (pv 0) m0 k0) (sa_cons (se_isE 0 eC he.at_ hz he.fl T.n_isinstance (pv 0) m1 k1) (sa_cons (se_isE 0 eC he.at_ hz he.fl T.n_isinstance (pv 0) m2 k2) sa_nil)))) sc_law_error_name.nd)
    (ss_cons (ss_pre 1 (ss_setO 1 (so_cat (se_var 1 (pv 1)) (so_frz (so_lst (sa_cons (se_isE 0 eC he.at_ hz he.fl T.n_isinstance (pv 0) m3 k3) (sa_cons (se_isE 0 eC he.at_ hz he.fl T.n_isinstance (pv 0) m4 k4) (sa_cons (se_isE 0 eC he.at_ hz he.fl T.n_isinstance (pv 0) m5 k5) sa_nil)))))) sc_law_error_name.nd))
    (ss_cons (ss_pre 1 (ss_setO 1 (so_cat (se_var 1 (pv 1)) (so_frz (so_lst (sa_cons (se_isE 0 eC he.at_ hz he.fl T.n_isinstance (pv 0) m7 k7) (sa_cons (se_isE 0 eC he.at_ hz he.fl T.n_isinstance (pv 0) m8 k8) (sa_cons (se_isE 0 eC he.at_ hz he.fl T.n_isinstance (pv 0) m9 k9) sa_nil)))))) sc_law_error_name.nd))
    (ss_cons (ss_app 1 (pv 1) (se_isE 0 eC he.at_ hz he.fl T.n_isinstance (pv 0) m6 k6) (pe_bm PySem.F.plainAttrs_list PySem.F.slot_list_append PySem.F.type_list_append mt_append (pv 1) (pa_cons (se_isE 0 eC he.at_ hz he.fl T.n_isinstance (pv 0) m6 k6) pa_nil)))
    (ss_cons (ss_pre 1 (ss_setO 1 (so_cat (se_var 1 (pv 1)) (so_frz (so_lst (sa_cons (se_isE 0 eC he.at_ hz he.fl T.n_isinstance (pv 0) m10 k10) (sa_cons (se_isET 0 eC he.at_ hz he.fl T.n_isinstance (pv 0) T.n_ValueError (by decide +kernel) eV) sa_nil))))) sc_law_error_name.nd))
    (ss_cons (ss_set 2 se_str sc_law_error_name.nd)
    (ss_cons (ss_pre 1 (ss_lcFE 3 (own := [("name", 5), ("good", 4)]) hot sc_law_error_name.nd (si_zipE hot (by rfl) T.n_zip (sa_cons (so_frz (so_split (se_var 2 (pv 2)) se_str)) (sa_cons (se_var 1 (pv 1)) sa_nil))) (blkOk_by (N := ["e", "some", "names", "found", "good", "name"]) (sc := defScope s_law_error_name) (by decide +kernel)) rfl (fun _ _ _ _ _ hb => (sg_tupE (n := 2) hb (sgs_cons (sg_name 5 sc_law_error_name.nd) (sgs_cons (sg_name 4 sc_law_error_name.nd) sgs_nil)) (fun _ _ _ h => consG_len (fun _ _ _ h => consG_len (fun _ _ _ h => nilG_len h) h) h))) (fun _ _ _ _ _ => (sts_one (st_val (se_var 4 (pv 4))))) (fun _ _ _ _ _ => (se_var 5 (pv 5))) (sw_true rfl rfl rfl (by decide +kernel))))
    (ss_one (ss_ret (se_if (t_eqE hr (e_sl (se_var 3 (pv 3)) (sp_some se_int) sp_none) (so_frz (so_lst (sa_cons se_str (sa_cons se_str sa_nil))))) (e_ix (se_var 3 (pv 3)) se_int) se_str))))))))))
  · exact err_word n w a hn
abbrev s_law_view : Stmt := top 60
theorem sc_law_view : FnScope ["source", "many", "wide", "found", "same", "way", "turn", "height", "window"] ["source", "many", "wide"] (defScope s_law_view) := ⟨rfl, rfl, rfl, by decide +kernel, rfl, by decide +kernel, by decide +kernel⟩
theorem ok_law_view {C : Lin.Ctx} (T : Tx C) : HasM C "_law_view" 2 m_law_view := by
  obtain ⟨f, fd, d⟩ := T.d_law_view
  refine mkM d sc_law_view (by decide) fun a cdv A outer s H E hr => ?_
  have tk := takes_body (C := C) (N := ["source", "many", "wide", "found", "same", "way", "turn", "height", "window"]) (x := "_law_view") (st := s_law_view) (f := f) (cdv := cdv) (A := A) (outer := outer) (s := s) (H := H) (E := E)
  have ic : In C (bodyX C ["source", "many", "wide", "found", "same", "way", "turn", "height", "window"] "_law_view" s_law_view f cdv A outer s H E) := ⟨rfl, rfl, rfl, rfl, rfl⟩
  exact (ss_cons (ss_par 3 4 rfl sc_law_view.nd (sm_val (se_tup sa_nil) (sm_val (e_add se_int (se_callM 0 (ok_law_pick T) ic tk hr (by rfl) (pv 0) (sa_cons (se_var 2 (pv 2)) sa_nil))) sm_nil)))
    (ss_cons (ss_set 5 (se_callM 0 (ok_law_pick T) ic tk hr (by rfl) (pv 0) (sa_cons se_int sa_nil)) sc_law_view.nd)
    (ss_cons (ss_for passes_body rfl (si_range1 (by rfl) T.n_range (sa_cons (e_add se_int (se_callM 0 (ok_law_pick T) ic tk hr (by rfl) (pv 0) (sa_cons (se_var 1 (pv 1)) sa_nil))) sa_nil)) (sg_name 6 sc_law_view.nd) (ss_cons (ss_set 7 (se_if (t_eq hr (se_var 5 (pv 5)) se_int) (se_var 4 (pv 4)) (e_add se_int (se_callM 0 (ok_law_pick T) ic tk hr (by rfl) (pv 0) (sa_cons (se_var 2 (pv 2)) sa_nil)))) sc_law_view.nd)
    (ss_cons (ss_if (PW.st (sw_and (t_eq hr (se_var 5 (pv 5)) se_int) (sw_one (t_eq hr (se_callM 0 (ok_law_pick T) ic tk hr (by rfl) (pv 0) (sa_cons se_int sa_nil)) se_int) (.inl rfl)))) (ss_one (ss_set 7 (e_min rfl T.n_min (sa_cons se_int (sa_cons (e_mul se_int (se_var 2 (pv 2))) sa_nil))) sc_law_view.nd)) ss_nil)
    (ss_one (ss_set 3 (e_add (se_var 3 (pv 3)) (se_tup (sa_cons (se_var 7 (pv 7)) sa_nil))) sc_law_view.nd)))))
    (ss_cons (ss_set 8 (e_add se_int (se_callM 0 (ok_law_pick T) ic tk hr (by rfl) (pv 0) (sa_cons (e_ix (so_frz (so_lst (sa_cons (se_var 2 (pv 2)) (sa_cons (e_mul se_int (se_var 2 (pv 2))) (sa_cons (e_mul se_int (se_var 2 (pv 2))) sa_nil))))) (se_callM 0 (ok_law_pick T) ic tk hr (by rfl) (pv 0) (sa_cons se_int sa_nil))) sa_nil))) sc_law_view.nd)
    (ss_one (ss_ret (se_tup (sa_cons (se_var 3 (pv 3)) (sa_cons (e_min rfl T.n_min (sa_cons se_int (sa_cons (se_var 8 (pv 8)) sa_nil))) sa_nil)))))))))
theorem hT_tb0_law_one {C : Lin.Ctx} (T : Tx C) : ∀ n x fn, fnNames[n]? = some x → tb0_law_one n = some fn → HasV C x 5 fn := by
  intro n x fn hn ht
  unfold tb0_law_one at ht
  split at ht
  · cases hn; cases ht; exact (ok_count_sure T).up (by decide)
  · cases hn; cases ht; exact (ok_classes T).v.up (by decide)
  · cases ht
theorem hT_tb1_law_one {C : Lin.Ctx} (T : Tx C) : ∀ n x fn, fnNames[n]? = some x → tb1_law_one n = some fn → HasV C x 5 fn := by
  intro n x fn hn ht
  unfold tb1_law_one at ht
  split at ht
  · cases hn; cases ht; exact (ok_greatest_scroll T).up (by decide)
  · cases hn; cases ht; exact (ok_fewest_for T).up (by decide)
  · cases hn; cases ht; exact (ok_count_rows T).up (by decide)
  · cases ht
abbrev s_law_one : Stmt := top 61
theorem sc_law_one : FnScope ["call", "some", "a", "b", "c"] ["call", "some"] (defScope s_law_one) := ⟨rfl, rfl, rfl, by decide +kernel, rfl, by decide +kernel, by decide +kernel⟩
theorem ok_law_one {C : Lin.Ctx} (T : Tx C) : HasV C "_law_one" 6 m_law_one := by
  obtain ⟨f, fd, d⟩ := T.d_law_one
  refine mkV d sc_law_one fun cdv A outer s H E hr => ?_
  have tk := takes_body (C := C) (N := ["call", "some", "a", "b", "c"]) (x := "_law_one") (st := s_law_one) (f := f) (cdv := cdv) (A := A) (outer := outer) (s := s) (H := H) (E := E)
  have ic : In C (bodyX C ["call", "some", "a", "b", "c"] "_law_one" s_law_one f cdv A outer s H E) := ⟨rfl, rfl, rfl, rfl, rfl⟩
  exact (ss_cons (ss_asg (se_var 1 (pv 1)) (sg_tup (n := 3) rfl (sgs_cons (sg_name 2 sc_law_one.nd) (sgs_cons (sg_name 3 sc_law_one.nd) (sgs_cons (sg_name 4 sc_law_one.nd) sgs_nil))) (fun _ _ _ h => consG_len (fun _ _ _ h => consG_len (fun _ _ _ h => consG_len (fun _ _ _ h => nilG_len h) h) h) h)))
    (ss_one (ss_if (t_lt (se_var 0 (pv 0)) se_int) (ss_one (ss_expr (se_callF (hT_tb0_law_one T) ic tk hr (e_ix (so_frz (so_lst (sa_cons (se_fnX 17 rfl T.v_count_sure ic) (sa_cons (se_fnX 18 rfl T.v_classes ic) sa_nil)))) (se_var 0 (pv 0))) (sa_cons (se_var 2 (pv 2)) (sa_cons (se_var 3 (pv 3)) sa_nil))))) (ss_one (ss_if (t_lt (se_var 0 (pv 0)) se_int) (ss_one (ss_expr (se_callF (hT_tb1_law_one T) ic tk hr (e_ix (so_frz (so_lst (sa_cons (se_fnX 19 rfl T.v_greatest_scroll ic) (sa_cons (se_fnX 20 rfl T.v_fewest_for ic) (sa_cons (se_fnX 21 rfl T.v_count_rows ic) sa_nil))))) (e_sub (se_var 0 (pv 0)) se_int)) (sa_cons (se_var 2 (pv 2)) (sa_cons (se_var 3 (pv 3)) (sa_cons (se_var 4 (pv 4)) sa_nil)))))) (ss_one (ss_if (t_eq hr (se_var 0 (pv 0)) se_int) (ss_one (ss_expr (so_frz (so_call (ok_windows_together T) ic tk (hr.mono (by decide)) (by rfl) (sa_cons (se_var 2 (pv 2)) (sa_cons (se_var 3 (pv 3)) sa_nil)))))) (ss_one (ss_expr (so_frz (so_call (ok_windows_alike T) ic tk hr (by rfl) (sa_cons (se_var 2 (pv 2)) (sa_cons (se_var 3 (pv 3)) (sa_cons (se_var 4 (pv 4)) sa_nil))))))))))))))
abbrev s_law_outcome_of : Stmt := top 62
theorem sc_law_outcome_of : FnScope ["call", "some", "e"] ["call", "some"] (defScope s_law_outcome_of) := ⟨rfl, rfl, rfl, by decide +kernel, rfl, by decide +kernel, by decide +kernel⟩
theorem ok_law_outcome_of {C : Lin.Ctx} (T : Tx C) : HasV C "_law_outcome_of" 7 m_law_outcome_of := by
  obtain ⟨f, fd, d⟩ := T.d_law_outcome_of
  refine mkV d sc_law_outcome_of fun cdv A outer s H E hr => ?_
  have tk := takes_body (C := C) (N := ["call", "some", "e"]) (x := "_law_outcome_of") (st := s_law_outcome_of) (f := f) (cdv := cdv) (A := A) (outer := outer) (s := s) (H := H) (E := E)
  have ic : In C (bodyX C ["call", "some", "e"] "_law_outcome_of" s_law_outcome_of f cdv A outer s H E) := ⟨rfl, rfl, rfl, rfl, rfl⟩
  exact (ss_cons (ss_tryE 2 (ok_law_error_name T) (caught_of T.err T.sb) ic tk (hr.mono (by decide)) sc_law_outcome_of.nd (fun W pn xe tk hp => (ss_one (ss_expr (se_call (ok_law_one T) ⟨rfl, rfl, rfl, rfl, rfl⟩ tk hr (by rfl) (sa_cons (se_var 0 (pv 0)) (sa_cons (se_var 1 (pv 1)) sa_nil)))))) (fun a pn => pv 2))
    (ss_one (ss_ret se_str)))
abbrev s_law_rows_right : Stmt := top 63
theorem sc_law_rows_right : FnScope ["rows", "call", "some", "word"] ["rows"] (defScope s_law_rows_right) := ⟨rfl, rfl, rfl, by decide +kernel, rfl, by decide +kernel, by decide +kernel⟩
theorem ok_law_rows_right {C : Lin.Ctx} (T : Tx C) : HasV C "_law_rows_right" 8 m_law_rows_right := by
  obtain ⟨f, fd, d⟩ := T.d_law_rows_right
  refine mkV d sc_law_rows_right fun cdv A outer s H E hr => ?_
  have tk := takes_body (C := C) (N := ["rows", "call", "some", "word"]) (x := "_law_rows_right") (st := s_law_rows_right) (f := f) (cdv := cdv) (A := A) (outer := outer) (s := s) (H := H) (E := E)
  have ic : In C (bodyX C ["rows", "call", "some", "word"] "_law_rows_right" s_law_rows_right f cdv A outer s H E) := ⟨rfl, rfl, rfl, rfl, rfl⟩
  exact (ss_one (ss_ret (e_eq hr (so_frz (so_lc (own := [("call", 1), ("some", 2), ("word", 3)]) rfl sc_law_rows_right.nd (si_seq (se_var 0 (pv 0))) (blkOk_by (N := ["rows", "call", "some", "word"]) (sc := defScope s_law_rows_right) (by decide +kernel)) rfl (fun _ _ _ _ _ => (sg_tup (n := 3) rfl (sgs_cons (sg_name 1 sc_law_rows_right.nd) (sgs_cons (sg_name 2 sc_law_rows_right.nd) (sgs_cons (sg_name 3 sc_law_rows_right.nd) sgs_nil))) (fun _ _ _ h => consG_len (fun _ _ _ h => consG_len (fun _ _ _ h => consG_len (fun _ _ _ h => nilG_len h) h) h) h))) (fun _ _ _ _ _ => (sts_one (t_ne hr (se_call (ok_law_outcome_of T) ⟨rfl, rfl, rfl, rfl, rfl⟩ takesN hr (by rfl) (sa_cons (se_var 1 (pv 1)) (sa_cons (se_var 2 (pv 2)) sa_nil))) (se_var 3 (pv 3))))) (fun _ _ _ _ _ => se_int))) (so_frz (so_lst sa_nil)))))
abbrev s_law_bounds_right : Stmt := top 64
theorem sc_law_bounds_right : FnScope ["view", "heights", "top_so", "rows", "number", "pair", "some"] [] (defScope s_law_bounds_right) := ⟨rfl, rfl, rfl, by decide +kernel, rfl, by decide +kernel, by decide +kernel⟩
theorem ok_law_bounds_right {C : Lin.Ctx} (T : Tx C) : HasV C "_law_bounds_right" 9 m_law_bounds_right := by
  obtain ⟨f, fd, d⟩ := T.d_law_bounds_right
  refine mkV d sc_law_bounds_right fun cdv A outer s H E hr => ?_
  have tk := takes_body (C := C) (N := ["view", "heights", "top_so", "rows", "number", "pair", "some"]) (x := "_law_bounds_right") (st := s_law_bounds_right) (f := f) (cdv := cdv) (A := A) (outer := outer) (s := s) (H := H) (E := E)
  have ic : In C (bodyX C ["view", "heights", "top_so", "rows", "number", "pair", "some"] "_law_bounds_right" s_law_bounds_right f cdv A outer s H E) := ⟨rfl, rfl, rfl, rfl, rfl⟩
  exact (ss_cons (ss_asg (se_tup (sa_cons (se_tup (sa_cons (e_mul (se_tup (sa_cons se_int sa_nil)) se_int) (sa_cons se_int sa_nil))) (sa_cons (e_mul (se_tup (sa_cons se_int sa_nil)) se_int) (sa_cons (e_pow se_int se_int) sa_nil)))) (sg_tup (n := 3) rfl (sgs_cons (sg_name 0 sc_law_bounds_right.nd) (sgs_cons (sg_name 1 sc_law_bounds_right.nd) (sgs_cons (sg_name 2 sc_law_bounds_right.nd) sgs_nil))) (fun _ _ _ h => consG_len (fun _ _ _ h => consG_len (fun _ _ _ h => consG_len (fun _ _ _ h => nilG_len h) h) h) h)))
    (ss_cons (ss_set 3 (so_frz (so_lst (sa_cons (se_tup (sa_cons se_int (sa_cons (se_tup (sa_cons (se_var 0 (pv 0)) (sa_cons se_int (sa_cons (se_var 2 (pv 2)) sa_nil)))) (sa_cons se_str sa_nil)))) (sa_cons (se_tup (sa_cons se_int (sa_cons (se_tup (sa_cons (se_var 0 (pv 0)) (sa_cons se_int (sa_cons se_int sa_nil)))) (sa_cons se_str sa_nil)))) (sa_cons (se_tup (sa_cons se_int (sa_cons (se_tup (sa_cons (se_var 0 (pv 0)) (sa_cons se_int (sa_cons (e_add (se_var 2 (pv 2)) se_int) sa_nil)))) (sa_cons se_str sa_nil)))) sa_nil))))) sc_law_bounds_right.nd)
    (ss_cons (ss_set 3 (e_add (se_var 3 (pv 3)) (so_frz (so_lst (sa_cons (se_tup (sa_cons se_int (sa_cons (se_tup (sa_cons (se_var 0 (pv 0)) (sa_cons se_int (sa_cons (e_pow se_int se_int) sa_nil)))) (sa_cons se_str sa_nil)))) (sa_cons (se_tup (sa_cons se_int (sa_cons (se_tup (sa_cons (se_var 0 (pv 0)) (sa_cons se_int (sa_cons se_int sa_nil)))) (sa_cons se_str sa_nil)))) (sa_cons (se_tup (sa_cons se_int (sa_cons (se_tup (sa_cons (se_var 0 (pv 0)) (sa_cons (se_tup (sa_cons se_int (sa_cons se_int sa_nil))) (sa_cons se_int sa_nil)))) (sa_cons se_str sa_nil)))) sa_nil)))))) sc_law_bounds_right.nd)
    (ss_cons (ss_set 3 (e_add (se_var 3 (pv 3)) (so_frz (so_lc (own := [("number", 4)]) rfl sc_law_bounds_right.nd (si_tup (se_tup (sa_cons (e_add (e_pow se_int se_int) se_int) (sa_cons (e_neg se_int) sa_nil)))) (blkOk_by (N := ["view", "heights", "top_so", "rows", "number", "pair", "some"]) (sc := defScope s_law_bounds_right) (by decide +kernel)) rfl (fun _ _ _ _ _ => (sg_name 4 sc_law_bounds_right.nd)) (fun _ _ _ _ _ => sts_nil) (fun _ _ _ _ _ => (se_tup (sa_cons se_int (sa_cons (se_tup (sa_cons (se_var 0 (pv 0)) (sa_cons se_int (sa_cons (se_var 4 (pv 4)) sa_nil)))) (sa_cons se_str sa_nil)))))))) sc_law_bounds_right.nd)
    (ss_cons (ss_set 3 (e_add (se_var 3 (pv 3)) (so_frz (so_lc (own := [("number", 4)]) rfl sc_law_bounds_right.nd (si_tup (se_tup (sa_cons se_int (sa_cons se_bl (sa_cons (e_neg se_int) sa_nil))))) (blkOk_by (N := ["view", "heights", "top_so", "rows", "number", "pair", "some"]) (sc := defScope s_law_bounds_right) (by decide +kernel)) rfl (fun _ _ _ _ _ => (sg_name 4 sc_law_bounds_right.nd)) (fun _ _ _ _ _ => sts_nil) (fun _ _ _ _ _ => (se_tup (sa_cons se_int (sa_cons (se_tup (sa_cons (se_var 0 (pv 0)) (sa_cons (se_var 4 (pv 4)) (sa_cons se_int sa_nil)))) (sa_cons se_str sa_nil)))))))) sc_law_bounds_right.nd)
    (ss_cons (ss_set 3 (e_add (se_var 3 (pv 3)) (so_frz (so_lc (own := [("pair", 5)]) rfl sc_law_bounds_right.nd (si_tup (se_tup (sa_cons (se_tup (sa_cons se_int (sa_cons se_int sa_nil))) (sa_cons (se_tup (sa_cons se_int (sa_cons se_int sa_nil))) (sa_cons (so_frz (so_lst (sa_cons se_int (sa_cons se_int sa_nil)))) (sa_cons (se_tup (sa_cons se_int (sa_cons se_int (sa_cons se_int sa_nil)))) sa_nil)))))) (blkOk_by (N := ["view", "heights", "top_so", "rows", "number", "pair", "some"]) (sc := defScope s_law_bounds_right) (by decide +kernel)) rfl (fun _ _ _ _ _ => (sg_name 5 sc_law_bounds_right.nd)) (fun _ _ _ _ _ => sts_nil) (fun _ _ _ _ _ => (se_tup (sa_cons se_int (sa_cons (se_tup (sa_cons (se_var 0 (pv 0)) (sa_cons (se_var 5 (pv 5)) (sa_cons se_int sa_nil)))) (sa_cons se_str sa_nil)))))))) sc_law_bounds_right.nd)
    (ss_cons (ss_set 3 (e_add (se_var 3 (pv 3)) (so_frz (so_lst (sa_cons (se_tup (sa_cons se_int (sa_cons (se_tup (sa_cons (se_var 0 (pv 0)) (sa_cons (se_tup (sa_cons se_int (sa_cons se_int sa_nil))) (sa_cons se_int sa_nil)))) (sa_cons se_str sa_nil)))) (sa_cons (se_tup (sa_cons se_int (sa_cons (se_tup (sa_cons (se_var 0 (pv 0)) (sa_cons (e_mul (se_tup (sa_cons (se_tup (sa_cons se_int sa_nil)) sa_nil)) se_int) (sa_cons se_int sa_nil)))) (sa_cons se_str sa_nil)))) sa_nil))))) sc_law_bounds_right.nd)
    (ss_cons (ss_set 3 (e_add (se_var 3 (pv 3)) (so_frz (so_lc (own := [("some", 6)]) rfl sc_law_bounds_right.nd (si_tup (se_tup (sa_cons (e_mul (se_tup (sa_cons (se_tup (sa_cons se_int sa_nil)) sa_nil)) se_int) (sa_cons (se_tup sa_nil) (sa_cons (se_tup (sa_cons (se_tup (sa_cons se_int sa_nil)) sa_nil)) sa_nil))))) (blkOk_by (N := ["view", "heights", "top_so", "rows", "number", "pair", "some"]) (sc := defScope s_law_bounds_right) (by decide +kernel)) rfl (fun _ _ _ _ _ => (sg_name 6 sc_law_bounds_right.nd)) (fun _ _ _ _ _ => sts_nil) (fun _ _ _ _ _ => (se_tup (sa_cons se_int (sa_cons (se_tup (sa_cons (se_var 0 (pv 0)) (sa_cons (se_var 6 (pv 6)) (sa_cons se_int sa_nil)))) (sa_cons se_str sa_nil)))))))) sc_law_bounds_right.nd)
    (ss_cons (ss_set 3 (e_add (se_var 3 (pv 3)) (so_frz (so_lst (sa_cons (se_tup (sa_cons se_int (sa_cons (se_tup (sa_cons (se_var 1 (pv 1)) (sa_cons (se_tup (sa_cons se_int (sa_cons se_int sa_nil))) (sa_cons se_int sa_nil)))) (sa_cons se_str sa_nil)))) (sa_cons (se_tup (sa_cons se_int (sa_cons (se_tup (sa_cons (se_var 1 (pv 1)) (sa_cons (e_mul (se_tup (sa_cons se_int sa_nil)) se_int) (sa_cons (se_tup sa_nil) sa_nil)))) (sa_cons se_str sa_nil)))) sa_nil))))) sc_law_bounds_right.nd)
    (ss_cons (ss_set 3 (e_add (se_var 3 (pv 3)) (so_frz (so_lc (own := [("some", 6)]) rfl sc_law_bounds_right.nd (si_tup (se_tup (sa_cons (se_tup (sa_cons se_int (sa_cons se_int sa_nil))) (sa_cons (se_tup (sa_cons se_int (sa_cons se_int sa_nil))) (sa_cons (se_tup sa_nil) sa_nil))))) (blkOk_by (N := ["view", "heights", "top_so", "rows", "number", "pair", "some"]) (sc := defScope s_law_bounds_right) (by decide +kernel)) rfl (fun _ _ _ _ _ => (sg_name 6 sc_law_bounds_right.nd)) (fun _ _ _ _ _ => sts_nil) (fun _ _ _ _ _ => (se_tup (sa_cons se_int (sa_cons (se_tup (sa_cons (se_var 1 (pv 1)) (sa_cons (se_var 6 (pv 6)) (sa_cons se_int sa_nil)))) (sa_cons se_str sa_nil)))))))) sc_law_bounds_right.nd)
    (ss_cons (ss_set 3 (e_add (se_var 3 (pv 3)) (so_frz (so_lc (own := [("some", 6)]) rfl sc_law_bounds_right.nd (si_tup (se_tup (sa_cons (se_tup (sa_cons se_int sa_nil)) (sa_cons (se_tup sa_nil) (sa_cons (so_frz (so_lst (sa_cons se_int sa_nil))) sa_nil))))) (blkOk_by (N := ["view", "heights", "top_so", "rows", "number", "pair", "some"]) (sc := defScope s_law_bounds_right) (by decide +kernel)) rfl (fun _ _ _ _ _ => (sg_name 6 sc_law_bounds_right.nd)) (fun _ _ _ _ _ => sts_nil) (fun _ _ _ _ _ => (se_tup (sa_cons se_int (sa_cons (se_tup (sa_cons (se_var 6 (pv 6)) (sa_cons (se_tup (sa_cons se_int sa_nil)) (sa_cons se_int sa_nil)))) (sa_cons se_str sa_nil)))))))) sc_law_bounds_right.nd)
    (ss_cons (ss_set 3 (e_add (se_var 3 (pv 3)) (so_frz (so_lst (sa_cons (se_tup (sa_cons se_int (sa_cons (se_tup (sa_cons (se_var 1 (pv 1)) (sa_cons (e_mul (se_tup (sa_cons se_int sa_nil)) se_int) (sa_cons (se_tup sa_nil) sa_nil)))) (sa_cons se_str sa_nil)))) (sa_cons (se_tup (sa_cons se_int (sa_cons (se_tup (sa_cons (se_var 1 (pv 1)) (sa_cons (se_tup sa_nil) (sa_cons (se_tup (sa_cons se_int sa_nil)) sa_nil)))) (sa_cons se_str sa_nil)))) sa_nil))))) sc_law_bounds_right.nd)
    (ss_one (ss_ret (se_call (ok_law_rows_right T) ic tk hr (by rfl) (sa_cons (se_var 3 (pv 3)) sa_nil))))))))))))))))
abbrev s_law : Stmt := top 65
theorem sc_law : FnScope ["script", "k", "source", "view", "odd", "words", "rows", "call"] ["script"] (defScope s_law) := ⟨rfl, rfl, rfl, by decide +kernel, rfl, by decide +kernel, by decide +kernel⟩
theorem fn_law {C : Lin.Ctx} (T : Tx C) {f : Addr} {fd : FuncData} (d : Def C "law" s_law ["script"] f fd) : FnOk C.P C.w C.K C.mg C.base (L2N.CX C.P C.w) 10 f fd ["script"] (spV C.K C.XM 1 m_law) := by
  refine (mkV0 (k := 9) d sc_law fun cdv A outer s H E hr => ?_).1
  have tk := takes_body (C := C) (N := ["script", "k", "source", "view", "odd", "words", "rows", "call"]) (x := "law") (st := s_law) (f := f) (cdv := cdv) (A := A) (outer := outer) (s := s) (H := H) (E := E)
  have ic : In C (bodyX C ["script", "k", "source", "view", "odd", "words", "rows", "call"] "law" s_law f cdv A outer s H E) := ⟨rfl, rfl, rfl, rfl, rfl⟩
  exact (ss_cons (ss_for passes_body rfl (si_range1 (by rfl) T.n_range (sa_cons (e_max rfl T.n_max (sa_cons se_int (sa_cons (e_min rfl T.n_min (sa_cons se_int (sa_cons (e_len T.n_len (sa_cons (se_var 0 (pv 0)) sa_nil)) sa_nil))) sa_nil))) sa_nil)) (sg_name 1 sc_law.nd) (ss_cons (ss_setO 2 (so_call (ok_law_source T) ic tk (hr.mono (by decide)) (by rfl) (sa_cons (se_var 0 (pv 0)) (sa_cons (se_var 1 (pv 1)) sa_nil))) sc_law.nd)
    (ss_cons (ss_set 3 (se_callM 2 (ok_law_view T) ic tk (hr.mono (by decide)) (by rfl) (pv 2) (sa_cons se_int (sa_cons se_int sa_nil))) sc_law.nd)
    (ss_cons (ss_set 4 (e_ix (so_frz (so_lst (sa_cons se_non (sa_cons se_bl (sa_cons (so_frz (so_lst (sa_cons se_int sa_nil))) (sa_cons se_str (sa_cons (se_tup (sa_cons (e_neg se_int) sa_nil)) (sa_cons (e_neg se_int) sa_nil)))))))) (se_callM 2 (ok_law_pick T) ic tk (hr.mono (by decide)) (by rfl) (pv 2) (sa_cons se_int sa_nil))) sc_law.nd)
    (ss_cons (ss_set 5 (e_add (so_frz (so_rep (so_lst (sa_cons se_str sa_nil)))) (so_frz (so_rep (so_lst (sa_cons se_str sa_nil))))) sc_law.nd)
    (ss_cons (ss_if (t_ne hr (so_frz (so_lc (own := [("call", 7)]) rfl sc_law.nd (si_range1 (by rfl) T.n_range (sa_cons se_int sa_nil)) (blkOk_by (N := ["script", "k", "source", "view", "odd", "words", "rows", "call"]) (sc := defScope s_law) (by decide +kernel)) rfl (fun _ _ _ _ _ => (sg_name 7 sc_law.nd)) (fun _ _ _ _ _ => sts_nil) (fun _ _ _ _ _ => (se_call (ok_law_outcome_of T) ⟨rfl, rfl, rfl, rfl, rfl⟩ takesN (hr.mono (by decide)) (by rfl) (sa_cons (se_var 7 (pv 7)) (sa_cons (se_tup (sa_cons (se_var 4 (pv 4)) (sa_cons (se_var 4 (pv 4)) (sa_cons (se_var 4 (pv 4)) sa_nil)))) sa_nil)))))) (se_var 5 (pv 5))) (ss_one (ss_ret se_bl)) ss_nil)
    (ss_cons (ss_set 5 (so_frz (so_lst (sa_cons se_str (sa_cons se_str (sa_cons se_str (sa_cons se_str (sa_cons se_str sa_nil))))))) sc_law.nd)
    (ss_cons (ss_if (t_ne hr (so_frz (so_lc (own := [("call", 7)]) rfl sc_law.nd (si_range1 (by rfl) T.n_range (sa_cons se_int sa_nil)) (blkOk_by (N := ["script", "k", "source", "view", "odd", "words", "rows", "call"]) (sc := defScope s_law) (by decide +kernel)) rfl (fun _ _ _ _ _ => (sg_name 7 sc_law.nd)) (fun _ _ _ _ _ => sts_nil) (fun _ _ _ _ _ => (se_call (ok_law_outcome_of T) ⟨rfl, rfl, rfl, rfl, rfl⟩ takesN (hr.mono (by decide)) (by rfl) (sa_cons (se_var 7 (pv 7)) (sa_cons (se_tup (sa_cons (se_var 3 (pv 3)) (sa_cons (se_var 4 (pv 4)) (sa_cons (se_var 4 (pv 4)) sa_nil)))) sa_nil)))))) (se_var 5 (pv 5))) (ss_one (ss_ret se_bl)) ss_nil)
    (ss_cons (ss_setO 6 (so_lst (sa_cons (se_tup (sa_cons se_int (sa_cons (se_tup (sa_cons (se_var 3 (pv 3)) (sa_cons se_int (sa_cons (se_var 4 (pv 4)) sa_nil)))) (sa_cons se_str sa_nil)))) (sa_cons (se_tup (sa_cons se_int (sa_cons (se_tup (sa_cons (se_var 3 (pv 3)) (sa_cons se_int (sa_cons (se_var 4 (pv 4)) sa_nil)))) (sa_cons se_str sa_nil)))) (sa_cons (se_tup (sa_cons se_int (sa_cons (se_tup (sa_cons (se_var 3 (pv 3)) (sa_cons (se_tup (sa_cons se_int (sa_cons se_int sa_nil))) (sa_cons (se_var 4 (pv 4)) sa_nil)))) (sa_cons se_str sa_nil)))) sa_nil)))) sc_law.nd)
    (ss_cons (ss_pre 6 (ss_setO 6 (so_cat (se_var 6 (pv 6)) (so_frz (so_lst (sa_cons (se_tup (sa_cons se_int (sa_cons (se_tup (sa_cons (e_ix (se_var 3 (pv 3)) se_int) (sa_cons (se_var 4 (pv 4)) (sa_cons (se_var 4 (pv 4)) sa_nil)))) (sa_cons se_str sa_nil)))) (sa_cons (se_tup (sa_cons se_int (sa_cons (se_tup (sa_cons (e_ix (se_var 3 (pv 3)) se_int) (sa_cons (se_var 4 (pv 4)) (sa_cons (se_var 4 (pv 4)) sa_nil)))) (sa_cons se_str sa_nil)))) sa_nil))))) sc_law.nd))
    (ss_cons (ss_app 6 (pv 6) (se_tup (sa_cons se_int (sa_cons (se_tup (sa_cons (e_ix (se_var 3 (pv 3)) se_int) (sa_cons (se_tup sa_nil) (sa_cons (se_var 4 (pv 4)) sa_nil)))) (sa_cons se_str sa_nil)))) (pe_bm PySem.F.plainAttrs_list PySem.F.slot_list_append PySem.F.type_list_append mt_append (pv 6) (pa_cons (se_tup (sa_cons se_int (sa_cons (se_tup (sa_cons (e_ix (se_var 3 (pv 3)) se_int) (sa_cons (se_tup sa_nil) (sa_cons (se_var 4 (pv 4)) sa_nil)))) (sa_cons se_str sa_nil)))) pa_nil)))
    (ss_one (ss_pre 6 (ss_if (st_not (st_val (se_call (ok_law_rows_right T) ic tk (hr.mono (by decide)) (by rfl) (sa_cons (se_var 6 (pv 6)) sa_nil)))) (ss_one (ss_ret se_bl)) ss_nil))))))))))))))
    (ss_one (ss_ret (se_call0 (ok_law_bounds_right T) ic tk hr (by rfl)))))
end
end Rv

/-! Z73: k73's law in plain Lean. -/
namespace Rv
open PySem L2 Lin
@[simp ↓] theorem s_repO (n : Int) (c : CO) (τ : Ev) (Q : Hold (List D × Ev → Prop)) : @post _ (repO n c τ) Q = @post _ (c τ) ⟨fun p => (decide (-1000 ≤ n ∧ n ≤ 1000) = true ∧ p.1.length ≤ 1000) ∧ Q.val ((List.replicate n.toNat p.1).flatten, p.2)⟩ := by
  simp only [post_def, repO, pst_bind, pst_ite, pst_ok, pst_stuck, if_false']
theorem odd_pick (s : Sr) : ∃ d, atI ([.none, .bool true, .list [.int 0], .str "0", .tuple [.int (-1)], .int (-1)] : List D) (pk s 6) = some d ∧ Odd d := by
  have h0 := pk0 s (n := 6) (by decide)
  have h1 := pk1 s (n := 6) (by decide)
  have : pk s 6 = 0 ∨ pk s 6 = 1 ∨ pk s 6 = 2 ∨ pk s 6 = 3 ∨ pk s 6 = 4 ∨ pk s 6 = 5 := by omega
  rcases this with e | e | e | e | e | e <;> rw [e]
  · exact ⟨_, rfl, .a⟩
  · exact ⟨_, rfl, .b⟩
  · exact ⟨_, rfl, .c⟩
  · exact ⟨_, rfl, .d⟩
  · exact ⟨_, rfl, .e⟩
  · exact ⟨_, rfl, .f⟩
theorem bounds_true : m_law_bounds_right [] = .ok (.bool true) := by
  have h := rows_b
  simp only [rowsB, rowOf, V0, HD, List.map_cons, List.map_nil] at h
  refine fnV_eq rfl ?_
  unfold c_law_bounds_right
  generalize m_law_rows_right = f at h
  simp
  refine lc_map ([.int 1000000000000001, .int (-1)] : List D) id (fun d => .tuple [.int 3, .tuple [(.tuple [.tuple [.int 10, .int 10, .int 10, .int 10, .int 10, .int 10, .int 10, .int 10, .int 10, .int 10], .int 30] : D), .int 0, d], .str "number"]) rfl (by simp) (fun d hd => by simp at hd; first | (rcases hd with rfl | rfl | rfl | rfl <;> simp) | (rcases hd with rfl | rfl | rfl <;> simp) | (rcases hd with rfl | rfl <;> simp)) ?_
  simp
  refine lc_map ([.int 61, .bool true, .int (-1)] : List D) id (fun d => .tuple [.int 0, .tuple [(.tuple [.tuple [.int 10, .int 10, .int 10, .int 10, .int 10, .int 10, .int 10, .int 10, .int 10, .int 10], .int 30] : D), d, .int 0], .str "number"]) rfl (by simp) (fun d hd => by simp at hd; first | (rcases hd with rfl | rfl | rfl | rfl <;> simp) | (rcases hd with rfl | rfl | rfl <;> simp) | (rcases hd with rfl | rfl <;> simp)) ?_
  simp
  refine lc_map ([.tuple [.int 5, .int 4], .tuple [.int 0, .int 71], .list [.int 0, .int 0], .tuple [.int 0, .int 0, .int 0]] : List D) id (fun d => .tuple [.int 4, .tuple [(.tuple [.tuple [.int 10, .int 10, .int 10, .int 10, .int 10, .int 10, .int 10, .int 10, .int 10, .int 10], .int 30] : D), d, .int 0], .str "position"]) rfl (by simp) (fun d hd => by simp at hd; first | (rcases hd with rfl | rfl | rfl | rfl <;> simp) | (rcases hd with rfl | rfl | rfl <;> simp) | (rcases hd with rfl | rfl <;> simp)) ?_
  simp
  refine lc_map ([.tuple [.tuple [.int 0], .tuple [.int 0], .tuple [.int 0], .tuple [.int 0], .tuple [.int 0], .tuple [.int 0], .tuple [.int 0]], .tuple [], .tuple [.tuple [.int 10]]] : List D) id (fun d => .tuple [.int 1, .tuple [(.tuple [.tuple [.int 10, .int 10, .int 10, .int 10, .int 10, .int 10, .int 10, .int 10, .int 10, .int 10], .int 30] : D), d, .int 0], .str "row"]) rfl (by simp) (fun d hd => by simp at hd; first | (rcases hd with rfl | rfl | rfl | rfl <;> simp) | (rcases hd with rfl | rfl | rfl <;> simp) | (rcases hd with rfl | rfl <;> simp)) ?_
  simp
  refine lc_map ([.tuple [.int 0, .int 10], .tuple [.int 1, .int 0], .tuple []] : List D) id (fun d => .tuple [.int 5, .tuple [(.tuple [.int 10, .int 10, .int 10, .int 10, .int 10, .int 10, .int 10, .int 10, .int 10, .int 10] : D), d, .int 0], .str "items"]) rfl (by simp) (fun d hd => by simp at hd; first | (rcases hd with rfl | rfl | rfl | rfl <;> simp) | (rcases hd with rfl | rfl | rfl <;> simp) | (rcases hd with rfl | rfl <;> simp)) ?_
  simp
  refine lc_map ([.tuple [.int 101], .tuple [], .list [.int 10]] : List D) id (fun d => .tuple [.int 5, .tuple [d, .tuple [.int 0], .int 0], .str "heights"]) rfl (by simp) (fun d hd => by simp at hd; first | (rcases hd with rfl | rfl | rfl | rfl <;> simp) | (rcases hd with rfl | rfl | rfl <;> simp) | (rcases hd with rfl | rfl <;> simp)) ?_
  simp
  simp [h]
theorem law_true (ns : List Int) (hn : ns.length ≤ 63) : m_law [.list (ns.map .int)] = .ok (.bool true) := by
  refine fnV_eq rfl ?_
  unfold c_law
  simp
  refine ⟨by omega, ?_⟩
  refine loop_gen (fun i τ => ∃ s1 s2 s3 s4 s5 s6 s7 : Lin.Slot, τ = [.val (.list (ns.map .int)), s1, s2, s3, s4, s5, s6, s7]) ⟨_, _, _, _, _, _, _, rfl⟩ ?_ ?_
  · rintro i0 d τ hi ⟨s1, s2, s3, s4, s5, s6, s7, rfl⟩
    obtain ⟨hi, rfl⟩ := (rngD_get0 _ _ _).mp hi
    obtain ⟨s, es⟩ := m_law_source_eq ns (k := i0) (by omega) (by omega)
    obtain ⟨hs, w, s', ev, g, hl, -, -⟩ := m_law_view_eq s (many := 8) (by decide) (by decide) (wide := 9) (by omega) (by omega)
    obtain ⟨d, ed, ho⟩ := odd_pick s'
    simp [es, ev, ed]
    refine lc_map (List.range 7) nD (fun i => .str (wA i)) rfl (by simp) (fun i hi => ?_) ?_
    · have := outA ho i (by simp at hi ⊢; omega)
      simp [nD, this]
    simp
    refine ⟨⟨fun a ha => ?_, by kernel_rfl, by kernel_rfl⟩, by kernel_rfl, ?_⟩
    · have : ∀ a : Nat, a < 7 → PyData.strOk (wA (a : Int)) = true := by decide +kernel
      exact this a ha
    refine lc_map (List.range 5) nD (fun i => .str (wB i)) rfl (by simp) (fun i hi => ?_) ?_
    · have := outB g ho i (by simp at hi ⊢; omega)
      simp [nD, this]
    simp
    refine ⟨⟨fun a ha => ?_, by kernel_rfl, by kernel_rfl, by kernel_rfl⟩, by kernel_rfl, ?_⟩
    · have : ∀ a : Nat, a < 5 → PyData.strOk (wB (a : Int)) = true := by decide +kernel
      exact this a ha
    have rc := rowsC g ho
    simp [rc]
  · rintro τ ⟨s1, s2, s3, s4, s5, s6, s7, rfl⟩
    simp [bounds_true]
end Rv

namespace Rv
open PySem L2 Lin
theorem fin {l : PySem.W.OpenLaw} {w : World} {K : PySem.W.Frag} {h : Heap} {mg : Str → Option Value} {fa : Addr} (X : K.In h) (G : h.Ns mainGlobals mg) (hfa : mg "law" = some (.ref fa))
    {t_MAX_CHOSEN : Tok}
    {t_MAX_CLASSED : Tok}
    {t_MAX_HEIGHT : Tok}
    {t_MAX_ITEMS : Tok}
    {t_MAX_ROW : Tok}
    {t_MAX_WINDOW : Tok}
    {t_MOST_COUNTED : Tok}
    {t_MOST_DISTANCE : Tok}
    {t_MOST_REVEALS : Tok}
    {a_InvalidView : Addr}
    {a_InvalidPosition : Addr}
    {a_InvalidRow : Addr}
    {a_InvalidNumber : Addr}
    {a_InvalidItems : Addr}
    {a_InvalidHeights : Addr}
    {a_InvalidItem : Addr}
    {a_InvalidSightings : Addr}
    {a_OtherView : Addr}
    {a_NothingToUndo : Addr}
    {a_ScrollError : Addr}
    {f_is_integer : Addr} {oc_is_integer kV_is_integer dc_is_integer pm_is_integer cd_is_integer ct_is_integer : Value} {od_is_integer an_is_integer : Option Addr} {sl_is_integer : Array (Option Value)}
    {f_is_heights : Addr} {oc_is_heights kV_is_heights dc_is_heights pm_is_heights cd_is_heights ct_is_heights : Value} {od_is_heights an_is_heights : Option Addr} {sl_is_heights : Array (Option Value)}
    {f_is_view : Addr} {oc_is_view kV_is_view dc_is_view pm_is_view cd_is_view ct_is_view : Value} {od_is_view an_is_view : Option Addr} {sl_is_view : Array (Option Value)}
    {f_require_view : Addr} {oc_require_view kV_require_view dc_require_view pm_require_view cd_require_view ct_require_view : Value} {od_require_view an_require_view : Option Addr} {sl_require_view : Array (Option Value)}
    {f_top_of : Addr} {oc_top_of kV_top_of dc_top_of pm_top_of cd_top_of ct_top_of : Value} {od_top_of an_top_of : Option Addr} {sl_top_of : Array (Option Value)}
    {f_begin_of : Addr} {oc_begin_of kV_begin_of dc_begin_of pm_begin_of cd_begin_of ct_begin_of : Value} {od_begin_of an_begin_of : Option Addr} {sl_begin_of : Array (Option Value)}
    {f_range_of : Addr} {oc_range_of kV_range_of dc_range_of pm_range_of cd_range_of ct_range_of : Value} {od_range_of an_range_of : Option Addr} {sl_range_of : Array (Option Value)}
    {f_require_position : Addr} {oc_require_position kV_require_position dc_require_position pm_require_position cd_require_position ct_require_position : Value} {od_require_position an_require_position : Option Addr} {sl_require_position : Array (Option Value)}
    {f_is_row : Addr} {oc_is_row kV_is_row dc_is_row pm_is_row cd_is_row ct_is_row : Value} {od_is_row an_is_row : Option Addr} {sl_is_row : Array (Option Value)}
    {f_require_row : Addr} {oc_require_row kV_require_row dc_require_row pm_require_row cd_require_row ct_require_row : Value} {od_require_row an_require_row : Option Addr} {sl_require_row : Array (Option Value)}
    {f_nearest : Addr} {oc_nearest kV_nearest dc_nearest pm_nearest cd_nearest ct_nearest : Value} {od_nearest an_nearest : Option Addr} {sl_nearest : Array (Option Value)}
    {f_end_of : Addr} {oc_end_of kV_end_of dc_end_of pm_end_of cd_end_of ct_end_of : Value} {od_end_of an_end_of : Option Addr} {sl_end_of : Array (Option Value)}
    {f_effect_of : Addr} {oc_effect_of kV_effect_of dc_effect_of pm_effect_of cd_effect_of ct_effect_of : Value} {od_effect_of an_effect_of : Option Addr} {sl_effect_of : Array (Option Value)}
    {f_require_number : Addr} {oc_require_number kV_require_number dc_require_number pm_require_number cd_require_number ct_require_number : Value} {od_require_number an_require_number : Option Addr} {sl_require_number : Array (Option Value)}
    {f_farthest : Addr} {oc_farthest kV_farthest dc_farthest pm_farthest cd_farthest ct_farthest : Value} {od_farthest an_farthest : Option Addr} {sl_farthest : Array (Option Value)}
    {f_greatest_scroll : Addr} {oc_greatest_scroll kV_greatest_scroll dc_greatest_scroll pm_greatest_scroll cd_greatest_scroll ct_greatest_scroll : Value} {od_greatest_scroll an_greatest_scroll : Option Addr} {sl_greatest_scroll : Array (Option Value)}
    {f_fewest_for : Addr} {oc_fewest_for kV_fewest_for dc_fewest_for pm_fewest_for cd_fewest_for ct_fewest_for : Value} {od_fewest_for an_fewest_for : Option Addr} {sl_fewest_for : Array (Option Value)}
    {f_require_pair : Addr} {oc_require_pair kV_require_pair dc_require_pair pm_require_pair cd_require_pair ct_require_pair : Value} {od_require_pair an_require_pair : Option Addr} {sl_require_pair : Array (Option Value)}
    {f_counts_of : Addr} {oc_counts_of kV_counts_of dc_counts_of pm_counts_of cd_counts_of ct_counts_of : Value} {od_counts_of an_counts_of : Option Addr} {sl_counts_of : Array (Option Value)}
    {f_count_rows : Addr} {oc_count_rows kV_count_rows dc_count_rows pm_count_rows cd_count_rows ct_count_rows : Value} {od_count_rows an_count_rows : Option Addr} {sl_count_rows : Array (Option Value)}
    {f_count_sure : Addr} {oc_count_sure kV_count_sure dc_count_sure pm_count_sure cd_count_sure ct_count_sure : Value} {od_count_sure an_count_sure : Option Addr} {sl_count_sure : Array (Option Value)}
    {f_classes : Addr} {oc_classes kV_classes dc_classes pm_classes cd_classes ct_classes : Value} {od_classes an_classes : Option Addr} {sl_classes : Array (Option Value)}
    {f_require_items : Addr} {oc_require_items kV_require_items dc_require_items pm_require_items cd_require_items ct_require_items : Value} {od_require_items an_require_items : Option Addr} {sl_require_items : Array (Option Value)}
    {f_common : Addr} {oc_common kV_common dc_common pm_common cd_common ct_common : Value} {od_common an_common : Option Addr} {sl_common : Array (Option Value)}
    {f_require_heights : Addr} {oc_require_heights kV_require_heights dc_require_heights pm_require_heights cd_require_heights ct_require_heights : Value} {od_require_heights an_require_heights : Option Addr} {sl_require_heights : Array (Option Value)}
    {f_ranges_of : Addr} {oc_ranges_of kV_ranges_of dc_ranges_of pm_ranges_of cd_ranges_of ct_ranges_of : Value} {od_ranges_of an_ranges_of : Option Addr} {sl_ranges_of : Array (Option Value)}
    {f_windows_together : Addr} {oc_windows_together kV_windows_together dc_windows_together pm_windows_together cd_windows_together ct_windows_together : Value} {od_windows_together an_windows_together : Option Addr} {sl_windows_together : Array (Option Value)}
    {f_windows_alike : Addr} {oc_windows_alike kV_windows_alike dc_windows_alike pm_windows_alike cd_windows_alike ct_windows_alike : Value} {od_windows_alike an_windows_alike : Option Addr} {sl_windows_alike : Array (Option Value)}
    {f_law_source : Addr} {oc_law_source kV_law_source dc_law_source pm_law_source cd_law_source ct_law_source : Value} {od_law_source an_law_source : Option Addr} {sl_law_source : Array (Option Value)}
    {f_law_pick : Addr} {oc_law_pick kV_law_pick dc_law_pick pm_law_pick cd_law_pick ct_law_pick : Value} {od_law_pick an_law_pick : Option Addr} {sl_law_pick : Array (Option Value)}
    {f_law_error_name : Addr} {oc_law_error_name kV_law_error_name dc_law_error_name pm_law_error_name cd_law_error_name ct_law_error_name : Value} {od_law_error_name an_law_error_name : Option Addr} {sl_law_error_name : Array (Option Value)}
    {f_law_view : Addr} {oc_law_view kV_law_view dc_law_view pm_law_view cd_law_view ct_law_view : Value} {od_law_view an_law_view : Option Addr} {sl_law_view : Array (Option Value)}
    {f_law_one : Addr} {oc_law_one kV_law_one dc_law_one pm_law_one cd_law_one ct_law_one : Value} {od_law_one an_law_one : Option Addr} {sl_law_one : Array (Option Value)}
    {f_law_outcome_of : Addr} {oc_law_outcome_of kV_law_outcome_of dc_law_outcome_of pm_law_outcome_of cd_law_outcome_of ct_law_outcome_of : Value} {od_law_outcome_of an_law_outcome_of : Option Addr} {sl_law_outcome_of : Array (Option Value)}
    {f_law_rows_right : Addr} {oc_law_rows_right kV_law_rows_right dc_law_rows_right pm_law_rows_right cd_law_rows_right ct_law_rows_right : Value} {od_law_rows_right an_law_rows_right : Option Addr} {sl_law_rows_right : Array (Option Value)}
    {f_law_bounds_right : Addr} {oc_law_bounds_right kV_law_bounds_right dc_law_bounds_right pm_law_bounds_right cd_law_bounds_right ct_law_bounds_right : Value} {od_law_bounds_right an_law_bounds_right : Option Addr} {sl_law_bounds_right : Array (Option Value)}
    {f_law : Addr} {oc_law kV_law dc_law pm_law cd_law ct_law : Value} {od_law an_law : Option Addr} {sl_law : Array (Option Value)}
    (n_ValueError : PySem.W.nsIn K mainGlobals "ValueError" = some none)
    (n_all : PySem.W.nsIn K mainGlobals "all" = some none)
    (n_bool : PySem.W.nsIn K mainGlobals "bool" = some none)
    (n_enumerate : PySem.W.nsIn K mainGlobals "enumerate" = some none)
    (n_int : PySem.W.nsIn K mainGlobals "int" = some none)
    (n_isinstance : PySem.W.nsIn K mainGlobals "isinstance" = some none)
    (n_len : PySem.W.nsIn K mainGlobals "len" = some none)
    (n_max : PySem.W.nsIn K mainGlobals "max" = some none)
    (n_min : PySem.W.nsIn K mainGlobals "min" = some none)
    (n_range : PySem.W.nsIn K mainGlobals "range" = some none)
    (n_sum : PySem.W.nsIn K mainGlobals "sum" = some none)
    (n_tuple : PySem.W.nsIn K mainGlobals "tuple" = some none)
    (n_zip : PySem.W.nsIn K mainGlobals "zip" = some none)
    (g_MAX_CHOSEN : PySem.W.nsIn K mainGlobals "MAX_CHOSEN" = some (some (.int 6 t_MAX_CHOSEN)))
    (g_MAX_CLASSED : PySem.W.nsIn K mainGlobals "MAX_CLASSED" = some (some (.int 6 t_MAX_CLASSED)))
    (g_MAX_HEIGHT : PySem.W.nsIn K mainGlobals "MAX_HEIGHT" = some (some (.int 100 t_MAX_HEIGHT)))
    (g_MAX_ITEMS : PySem.W.nsIn K mainGlobals "MAX_ITEMS" = some (some (.int 20 t_MAX_ITEMS)))
    (g_MAX_ROW : PySem.W.nsIn K mainGlobals "MAX_ROW" = some (some (.int 30 t_MAX_ROW)))
    (g_MAX_WINDOW : PySem.W.nsIn K mainGlobals "MAX_WINDOW" = some (some (.int 500 t_MAX_WINDOW)))
    (g_MOST_COUNTED : PySem.W.nsIn K mainGlobals "MOST_COUNTED" = some (some (.int 60 t_MOST_COUNTED)))
    (g_MOST_DISTANCE : PySem.W.nsIn K mainGlobals "MOST_DISTANCE" = some (some (.int 1000000000000000 t_MOST_DISTANCE)))
    (g_MOST_REVEALS : PySem.W.nsIn K mainGlobals "MOST_REVEALS" = some (some (.int 1000000000000 t_MOST_REVEALS)))
    (xa_InvalidView : PySem.W.nsIn K mainGlobals "InvalidView" = some (some (.ref a_InvalidView)))
    (xb_InvalidView : PySem.W.excIn K a_InvalidView [.type "ValueError", .type "Exception", .type "BaseException", .type "object"] "ValueError.__new__" = true)
    (xc_InvalidView : PySem.W.keepIn K (.ref a_InvalidView) = true)
    (xd_InvalidView : PySem.W.subIn K (.ref a_InvalidView) (.type "BaseException") = some true)
    (xe_InvalidView : PySem.W.typeIn K (.ref a_InvalidView) = some (.type "type"))
    (xa_InvalidPosition : PySem.W.nsIn K mainGlobals "InvalidPosition" = some (some (.ref a_InvalidPosition)))
    (xb_InvalidPosition : PySem.W.excIn K a_InvalidPosition [.type "ValueError", .type "Exception", .type "BaseException", .type "object"] "ValueError.__new__" = true)
    (xc_InvalidPosition : PySem.W.keepIn K (.ref a_InvalidPosition) = true)
    (xd_InvalidPosition : PySem.W.subIn K (.ref a_InvalidPosition) (.type "BaseException") = some true)
    (xe_InvalidPosition : PySem.W.typeIn K (.ref a_InvalidPosition) = some (.type "type"))
    (xa_InvalidRow : PySem.W.nsIn K mainGlobals "InvalidRow" = some (some (.ref a_InvalidRow)))
    (xb_InvalidRow : PySem.W.excIn K a_InvalidRow [.type "ValueError", .type "Exception", .type "BaseException", .type "object"] "ValueError.__new__" = true)
    (xc_InvalidRow : PySem.W.keepIn K (.ref a_InvalidRow) = true)
    (xd_InvalidRow : PySem.W.subIn K (.ref a_InvalidRow) (.type "BaseException") = some true)
    (xe_InvalidRow : PySem.W.typeIn K (.ref a_InvalidRow) = some (.type "type"))
    (xa_InvalidNumber : PySem.W.nsIn K mainGlobals "InvalidNumber" = some (some (.ref a_InvalidNumber)))
    (xb_InvalidNumber : PySem.W.excIn K a_InvalidNumber [.type "ValueError", .type "Exception", .type "BaseException", .type "object"] "ValueError.__new__" = true)
    (xc_InvalidNumber : PySem.W.keepIn K (.ref a_InvalidNumber) = true)
    (xd_InvalidNumber : PySem.W.subIn K (.ref a_InvalidNumber) (.type "BaseException") = some true)
    (xe_InvalidNumber : PySem.W.typeIn K (.ref a_InvalidNumber) = some (.type "type"))
    (xa_InvalidItems : PySem.W.nsIn K mainGlobals "InvalidItems" = some (some (.ref a_InvalidItems)))
    (xb_InvalidItems : PySem.W.excIn K a_InvalidItems [.type "ValueError", .type "Exception", .type "BaseException", .type "object"] "ValueError.__new__" = true)
    (xc_InvalidItems : PySem.W.keepIn K (.ref a_InvalidItems) = true)
    (xd_InvalidItems : PySem.W.subIn K (.ref a_InvalidItems) (.type "BaseException") = some true)
    (xe_InvalidItems : PySem.W.typeIn K (.ref a_InvalidItems) = some (.type "type"))
    (xa_InvalidHeights : PySem.W.nsIn K mainGlobals "InvalidHeights" = some (some (.ref a_InvalidHeights)))
    (xb_InvalidHeights : PySem.W.excIn K a_InvalidHeights [.type "ValueError", .type "Exception", .type "BaseException", .type "object"] "ValueError.__new__" = true)
    (xc_InvalidHeights : PySem.W.keepIn K (.ref a_InvalidHeights) = true)
    (xd_InvalidHeights : PySem.W.subIn K (.ref a_InvalidHeights) (.type "BaseException") = some true)
    (xe_InvalidHeights : PySem.W.typeIn K (.ref a_InvalidHeights) = some (.type "type"))
    (xh_InvalidView : PySem.W.hasDictIn K a_InvalidView = true)
    (xa_InvalidItem : PySem.W.nsIn K mainGlobals "InvalidItem" = some (some (.ref a_InvalidItem)))
    (xe_InvalidItem : PySem.W.typeIn K (.ref a_InvalidItem) = some (.type "type"))
    (xh_InvalidItem : PySem.W.hasDictIn K a_InvalidItem = true)
    (xh_InvalidPosition : PySem.W.hasDictIn K a_InvalidPosition = true)
    (xh_InvalidRow : PySem.W.hasDictIn K a_InvalidRow = true)
    (xh_InvalidItems : PySem.W.hasDictIn K a_InvalidItems = true)
    (xh_InvalidHeights : PySem.W.hasDictIn K a_InvalidHeights = true)
    (xh_InvalidNumber : PySem.W.hasDictIn K a_InvalidNumber = true)
    (xa_InvalidSightings : PySem.W.nsIn K mainGlobals "InvalidSightings" = some (some (.ref a_InvalidSightings)))
    (xe_InvalidSightings : PySem.W.typeIn K (.ref a_InvalidSightings) = some (.type "type"))
    (xh_InvalidSightings : PySem.W.hasDictIn K a_InvalidSightings = true)
    (xa_OtherView : PySem.W.nsIn K mainGlobals "OtherView" = some (some (.ref a_OtherView)))
    (xe_OtherView : PySem.W.typeIn K (.ref a_OtherView) = some (.type "type"))
    (xh_OtherView : PySem.W.hasDictIn K a_OtherView = true)
    (xa_NothingToUndo : PySem.W.nsIn K mainGlobals "NothingToUndo" = some (some (.ref a_NothingToUndo)))
    (xe_NothingToUndo : PySem.W.typeIn K (.ref a_NothingToUndo) = some (.type "type"))
    (xh_NothingToUndo : PySem.W.hasDictIn K a_NothingToUndo = true)
    (xa_ScrollError : PySem.W.nsIn K mainGlobals "ScrollError" = some (some (.ref a_ScrollError)))
    (xe_ScrollError : PySem.W.typeIn K (.ref a_ScrollError) = some (.type "type"))
    (xh_ScrollError : PySem.W.hasDictIn K a_ScrollError = true)
    (x_sp : PySem.W.specialIn K (.builtin "object.__class__") "__get__" = some (some (.builtin "getset_descriptor.__get__")))
    (x_tk : PySem.W.takesIn K (.builtin "object.__class__") = some true)
    (x_sb : PySem.W.subIn K (.ref a_ScrollError) (.type "BaseException") = some true)
    (yg_InvalidView : PySem.W.findIn K (.ref a_InvalidView) "__getattribute__" = some (some (.builtin "BaseException.__getattribute__")))
    (yk_InvalidView : PySem.W.findIn K (.ref a_InvalidView) "__getattr__" = some none)
    (yl_InvalidView : PySem.W.findIn K (.ref a_InvalidView) "__class__" = some (some (.builtin "object.__class__")))
    (ym_InvalidView : PySem.W.mroIn K a_InvalidView (.type "object") = some true)
    (yv_InvalidView : PySem.W.subIn K (.ref a_InvalidView) (.type "ValueError") = some true)
    (ys_InvalidView_0 : PySem.W.subIn K (.ref a_InvalidView) (.ref a_InvalidView) = some true)
    (ys_InvalidView_1 : PySem.W.subIn K (.ref a_InvalidView) (.ref a_InvalidItem) = some false)
    (ys_InvalidView_2 : PySem.W.subIn K (.ref a_InvalidView) (.ref a_InvalidPosition) = some false)
    (ys_InvalidView_3 : PySem.W.subIn K (.ref a_InvalidView) (.ref a_InvalidRow) = some false)
    (ys_InvalidView_4 : PySem.W.subIn K (.ref a_InvalidView) (.ref a_InvalidItems) = some false)
    (ys_InvalidView_5 : PySem.W.subIn K (.ref a_InvalidView) (.ref a_InvalidHeights) = some false)
    (ys_InvalidView_6 : PySem.W.subIn K (.ref a_InvalidView) (.ref a_InvalidNumber) = some false)
    (ys_InvalidView_7 : PySem.W.subIn K (.ref a_InvalidView) (.ref a_InvalidSightings) = some false)
    (ys_InvalidView_8 : PySem.W.subIn K (.ref a_InvalidView) (.ref a_OtherView) = some false)
    (ys_InvalidView_9 : PySem.W.subIn K (.ref a_InvalidView) (.ref a_NothingToUndo) = some false)
    (ys_InvalidView_10 : PySem.W.subIn K (.ref a_InvalidView) (.ref a_ScrollError) = some true)
    (yg_InvalidPosition : PySem.W.findIn K (.ref a_InvalidPosition) "__getattribute__" = some (some (.builtin "BaseException.__getattribute__")))
    (yk_InvalidPosition : PySem.W.findIn K (.ref a_InvalidPosition) "__getattr__" = some none)
    (yl_InvalidPosition : PySem.W.findIn K (.ref a_InvalidPosition) "__class__" = some (some (.builtin "object.__class__")))
    (ym_InvalidPosition : PySem.W.mroIn K a_InvalidPosition (.type "object") = some true)
    (yv_InvalidPosition : PySem.W.subIn K (.ref a_InvalidPosition) (.type "ValueError") = some true)
    (ys_InvalidPosition_0 : PySem.W.subIn K (.ref a_InvalidPosition) (.ref a_InvalidView) = some false)
    (ys_InvalidPosition_1 : PySem.W.subIn K (.ref a_InvalidPosition) (.ref a_InvalidItem) = some false)
    (ys_InvalidPosition_2 : PySem.W.subIn K (.ref a_InvalidPosition) (.ref a_InvalidPosition) = some true)
    (ys_InvalidPosition_3 : PySem.W.subIn K (.ref a_InvalidPosition) (.ref a_InvalidRow) = some false)
    (ys_InvalidPosition_4 : PySem.W.subIn K (.ref a_InvalidPosition) (.ref a_InvalidItems) = some false)
    (ys_InvalidPosition_5 : PySem.W.subIn K (.ref a_InvalidPosition) (.ref a_InvalidHeights) = some false)
    (ys_InvalidPosition_6 : PySem.W.subIn K (.ref a_InvalidPosition) (.ref a_InvalidNumber) = some false)
    (ys_InvalidPosition_7 : PySem.W.subIn K (.ref a_InvalidPosition) (.ref a_InvalidSightings) = some false)
    (ys_InvalidPosition_8 : PySem.W.subIn K (.ref a_InvalidPosition) (.ref a_OtherView) = some false)
    (ys_InvalidPosition_9 : PySem.W.subIn K (.ref a_InvalidPosition) (.ref a_NothingToUndo) = some false)
    (ys_InvalidPosition_10 : PySem.W.subIn K (.ref a_InvalidPosition) (.ref a_ScrollError) = some true)
    (yg_InvalidRow : PySem.W.findIn K (.ref a_InvalidRow) "__getattribute__" = some (some (.builtin "BaseException.__getattribute__")))
    (yk_InvalidRow : PySem.W.findIn K (.ref a_InvalidRow) "__getattr__" = some none)
    (yl_InvalidRow : PySem.W.findIn K (.ref a_InvalidRow) "__class__" = some (some (.builtin "object.__class__")))
    (ym_InvalidRow : PySem.W.mroIn K a_InvalidRow (.type "object") = some true)
    (yv_InvalidRow : PySem.W.subIn K (.ref a_InvalidRow) (.type "ValueError") = some true)
    (ys_InvalidRow_0 : PySem.W.subIn K (.ref a_InvalidRow) (.ref a_InvalidView) = some false)
    (ys_InvalidRow_1 : PySem.W.subIn K (.ref a_InvalidRow) (.ref a_InvalidItem) = some false)
    (ys_InvalidRow_2 : PySem.W.subIn K (.ref a_InvalidRow) (.ref a_InvalidPosition) = some false)
    (ys_InvalidRow_3 : PySem.W.subIn K (.ref a_InvalidRow) (.ref a_InvalidRow) = some true)
    (ys_InvalidRow_4 : PySem.W.subIn K (.ref a_InvalidRow) (.ref a_InvalidItems) = some false)
    (ys_InvalidRow_5 : PySem.W.subIn K (.ref a_InvalidRow) (.ref a_InvalidHeights) = some false)
    (ys_InvalidRow_6 : PySem.W.subIn K (.ref a_InvalidRow) (.ref a_InvalidNumber) = some false)
    (ys_InvalidRow_7 : PySem.W.subIn K (.ref a_InvalidRow) (.ref a_InvalidSightings) = some false)
    (ys_InvalidRow_8 : PySem.W.subIn K (.ref a_InvalidRow) (.ref a_OtherView) = some false)
    (ys_InvalidRow_9 : PySem.W.subIn K (.ref a_InvalidRow) (.ref a_NothingToUndo) = some false)
    (ys_InvalidRow_10 : PySem.W.subIn K (.ref a_InvalidRow) (.ref a_ScrollError) = some true)
    (yg_InvalidNumber : PySem.W.findIn K (.ref a_InvalidNumber) "__getattribute__" = some (some (.builtin "BaseException.__getattribute__")))
    (yk_InvalidNumber : PySem.W.findIn K (.ref a_InvalidNumber) "__getattr__" = some none)
    (yl_InvalidNumber : PySem.W.findIn K (.ref a_InvalidNumber) "__class__" = some (some (.builtin "object.__class__")))
    (ym_InvalidNumber : PySem.W.mroIn K a_InvalidNumber (.type "object") = some true)
    (yv_InvalidNumber : PySem.W.subIn K (.ref a_InvalidNumber) (.type "ValueError") = some true)
    (ys_InvalidNumber_0 : PySem.W.subIn K (.ref a_InvalidNumber) (.ref a_InvalidView) = some false)
    (ys_InvalidNumber_1 : PySem.W.subIn K (.ref a_InvalidNumber) (.ref a_InvalidItem) = some false)
    (ys_InvalidNumber_2 : PySem.W.subIn K (.ref a_InvalidNumber) (.ref a_InvalidPosition) = some false)
    (ys_InvalidNumber_3 : PySem.W.subIn K (.ref a_InvalidNumber) (.ref a_InvalidRow) = some false)
    (ys_InvalidNumber_4 : PySem.W.subIn K (.ref a_InvalidNumber) (.ref a_InvalidItems) = some false)
    (ys_InvalidNumber_5 : PySem.W.subIn K (.ref a_InvalidNumber) (.ref a_InvalidHeights) = some false)
    (ys_InvalidNumber_6 : PySem.W.subIn K (.ref a_InvalidNumber) (.ref a_InvalidNumber) = some true)
    (ys_InvalidNumber_7 : PySem.W.subIn K (.ref a_InvalidNumber) (.ref a_InvalidSightings) = some false)
    (ys_InvalidNumber_8 : PySem.W.subIn K (.ref a_InvalidNumber) (.ref a_OtherView) = some false)
    (ys_InvalidNumber_9 : PySem.W.subIn K (.ref a_InvalidNumber) (.ref a_NothingToUndo) = some false)
    (ys_InvalidNumber_10 : PySem.W.subIn K (.ref a_InvalidNumber) (.ref a_ScrollError) = some true)
    (yg_InvalidItems : PySem.W.findIn K (.ref a_InvalidItems) "__getattribute__" = some (some (.builtin "BaseException.__getattribute__")))
    (yk_InvalidItems : PySem.W.findIn K (.ref a_InvalidItems) "__getattr__" = some none)
    (yl_InvalidItems : PySem.W.findIn K (.ref a_InvalidItems) "__class__" = some (some (.builtin "object.__class__")))
    (ym_InvalidItems : PySem.W.mroIn K a_InvalidItems (.type "object") = some true)
    (yv_InvalidItems : PySem.W.subIn K (.ref a_InvalidItems) (.type "ValueError") = some true)
    (ys_InvalidItems_0 : PySem.W.subIn K (.ref a_InvalidItems) (.ref a_InvalidView) = some false)
    (ys_InvalidItems_1 : PySem.W.subIn K (.ref a_InvalidItems) (.ref a_InvalidItem) = some false)
    (ys_InvalidItems_2 : PySem.W.subIn K (.ref a_InvalidItems) (.ref a_InvalidPosition) = some false)
    (ys_InvalidItems_3 : PySem.W.subIn K (.ref a_InvalidItems) (.ref a_InvalidRow) = some false)
    (ys_InvalidItems_4 : PySem.W.subIn K (.ref a_InvalidItems) (.ref a_InvalidItems) = some true)
    (ys_InvalidItems_5 : PySem.W.subIn K (.ref a_InvalidItems) (.ref a_InvalidHeights) = some false)
    (ys_InvalidItems_6 : PySem.W.subIn K (.ref a_InvalidItems) (.ref a_InvalidNumber) = some false)
    (ys_InvalidItems_7 : PySem.W.subIn K (.ref a_InvalidItems) (.ref a_InvalidSightings) = some false)
    (ys_InvalidItems_8 : PySem.W.subIn K (.ref a_InvalidItems) (.ref a_OtherView) = some false)
    (ys_InvalidItems_9 : PySem.W.subIn K (.ref a_InvalidItems) (.ref a_NothingToUndo) = some false)
    (ys_InvalidItems_10 : PySem.W.subIn K (.ref a_InvalidItems) (.ref a_ScrollError) = some true)
    (yg_InvalidHeights : PySem.W.findIn K (.ref a_InvalidHeights) "__getattribute__" = some (some (.builtin "BaseException.__getattribute__")))
    (yk_InvalidHeights : PySem.W.findIn K (.ref a_InvalidHeights) "__getattr__" = some none)
    (yl_InvalidHeights : PySem.W.findIn K (.ref a_InvalidHeights) "__class__" = some (some (.builtin "object.__class__")))
    (ym_InvalidHeights : PySem.W.mroIn K a_InvalidHeights (.type "object") = some true)
    (yv_InvalidHeights : PySem.W.subIn K (.ref a_InvalidHeights) (.type "ValueError") = some true)
    (ys_InvalidHeights_0 : PySem.W.subIn K (.ref a_InvalidHeights) (.ref a_InvalidView) = some false)
    (ys_InvalidHeights_1 : PySem.W.subIn K (.ref a_InvalidHeights) (.ref a_InvalidItem) = some false)
    (ys_InvalidHeights_2 : PySem.W.subIn K (.ref a_InvalidHeights) (.ref a_InvalidPosition) = some false)
    (ys_InvalidHeights_3 : PySem.W.subIn K (.ref a_InvalidHeights) (.ref a_InvalidRow) = some false)
    (ys_InvalidHeights_4 : PySem.W.subIn K (.ref a_InvalidHeights) (.ref a_InvalidItems) = some false)
    (ys_InvalidHeights_5 : PySem.W.subIn K (.ref a_InvalidHeights) (.ref a_InvalidHeights) = some true)
    (ys_InvalidHeights_6 : PySem.W.subIn K (.ref a_InvalidHeights) (.ref a_InvalidNumber) = some false)
    (ys_InvalidHeights_7 : PySem.W.subIn K (.ref a_InvalidHeights) (.ref a_InvalidSightings) = some false)
    (ys_InvalidHeights_8 : PySem.W.subIn K (.ref a_InvalidHeights) (.ref a_OtherView) = some false)
    (ys_InvalidHeights_9 : PySem.W.subIn K (.ref a_InvalidHeights) (.ref a_NothingToUndo) = some false)
    (ys_InvalidHeights_10 : PySem.W.subIn K (.ref a_InvalidHeights) (.ref a_ScrollError) = some true)
    (a_is_integer : PySem.W.nsIn K mainGlobals "is_integer" = some (some (.ref f_is_integer)))
    (l_is_integer : K.lookup f_is_integer = some ⟨oc_is_integer, od_is_integer, .func (PySem.W.fnOf "is_integer" "is_integer" (defArgs (top 17)) (defBody (top 17)) (defScope (top 17)) .none kV_is_integer dc_is_integer pm_is_integer an_is_integer cd_is_integer ct_is_integer), sl_is_integer⟩)
    (c_is_integer : PySem.W.codeIn K cd_is_integer "is_integer" = true)
    (k_is_integer : PySem.W.keepIn K (.ref f_is_integer) = true)
    (a_is_heights : PySem.W.nsIn K mainGlobals "is_heights" = some (some (.ref f_is_heights)))
    (l_is_heights : K.lookup f_is_heights = some ⟨oc_is_heights, od_is_heights, .func (PySem.W.fnOf "is_heights" "is_heights" (defArgs (top 18)) (defBody (top 18)) (defScope (top 18)) .none kV_is_heights dc_is_heights pm_is_heights an_is_heights cd_is_heights ct_is_heights), sl_is_heights⟩)
    (c_is_heights : PySem.W.codeIn K cd_is_heights "is_heights" = true)
    (k_is_heights : PySem.W.keepIn K (.ref f_is_heights) = true)
    (a_is_view : PySem.W.nsIn K mainGlobals "is_view" = some (some (.ref f_is_view)))
    (l_is_view : K.lookup f_is_view = some ⟨oc_is_view, od_is_view, .func (PySem.W.fnOf "is_view" "is_view" (defArgs (top 19)) (defBody (top 19)) (defScope (top 19)) .none kV_is_view dc_is_view pm_is_view an_is_view cd_is_view ct_is_view), sl_is_view⟩)
    (c_is_view : PySem.W.codeIn K cd_is_view "is_view" = true)
    (k_is_view : PySem.W.keepIn K (.ref f_is_view) = true)
    (a_require_view : PySem.W.nsIn K mainGlobals "require_view" = some (some (.ref f_require_view)))
    (l_require_view : K.lookup f_require_view = some ⟨oc_require_view, od_require_view, .func (PySem.W.fnOf "require_view" "require_view" (defArgs (top 20)) (defBody (top 20)) (defScope (top 20)) .none kV_require_view dc_require_view pm_require_view an_require_view cd_require_view ct_require_view), sl_require_view⟩)
    (c_require_view : PySem.W.codeIn K cd_require_view "require_view" = true)
    (k_require_view : PySem.W.keepIn K (.ref f_require_view) = true)
    (a_top_of : PySem.W.nsIn K mainGlobals "top_of" = some (some (.ref f_top_of)))
    (l_top_of : K.lookup f_top_of = some ⟨oc_top_of, od_top_of, .func (PySem.W.fnOf "top_of" "top_of" (defArgs (top 21)) (defBody (top 21)) (defScope (top 21)) .none kV_top_of dc_top_of pm_top_of an_top_of cd_top_of ct_top_of), sl_top_of⟩)
    (c_top_of : PySem.W.codeIn K cd_top_of "top_of" = true)
    (k_top_of : PySem.W.keepIn K (.ref f_top_of) = true)
    (a_begin_of : PySem.W.nsIn K mainGlobals "begin_of" = some (some (.ref f_begin_of)))
    (l_begin_of : K.lookup f_begin_of = some ⟨oc_begin_of, od_begin_of, .func (PySem.W.fnOf "begin_of" "begin_of" (defArgs (top 22)) (defBody (top 22)) (defScope (top 22)) .none kV_begin_of dc_begin_of pm_begin_of an_begin_of cd_begin_of ct_begin_of), sl_begin_of⟩)
    (c_begin_of : PySem.W.codeIn K cd_begin_of "begin_of" = true)
    (k_begin_of : PySem.W.keepIn K (.ref f_begin_of) = true)
    (a_range_of : PySem.W.nsIn K mainGlobals "range_of" = some (some (.ref f_range_of)))
    (l_range_of : K.lookup f_range_of = some ⟨oc_range_of, od_range_of, .func (PySem.W.fnOf "range_of" "range_of" (defArgs (top 23)) (defBody (top 23)) (defScope (top 23)) .none kV_range_of dc_range_of pm_range_of an_range_of cd_range_of ct_range_of), sl_range_of⟩)
    (c_range_of : PySem.W.codeIn K cd_range_of "range_of" = true)
    (k_range_of : PySem.W.keepIn K (.ref f_range_of) = true)
    (a_require_position : PySem.W.nsIn K mainGlobals "require_position" = some (some (.ref f_require_position)))
    (l_require_position : K.lookup f_require_position = some ⟨oc_require_position, od_require_position, .func (PySem.W.fnOf "require_position" "require_position" (defArgs (top 24)) (defBody (top 24)) (defScope (top 24)) .none kV_require_position dc_require_position pm_require_position an_require_position cd_require_position ct_require_position), sl_require_position⟩)
    (c_require_position : PySem.W.codeIn K cd_require_position "require_position" = true)
    (k_require_position : PySem.W.keepIn K (.ref f_require_position) = true)
    (a_is_row : PySem.W.nsIn K mainGlobals "is_row" = some (some (.ref f_is_row)))
    (l_is_row : K.lookup f_is_row = some ⟨oc_is_row, od_is_row, .func (PySem.W.fnOf "is_row" "is_row" (defArgs (top 26)) (defBody (top 26)) (defScope (top 26)) .none kV_is_row dc_is_row pm_is_row an_is_row cd_is_row ct_is_row), sl_is_row⟩)
    (c_is_row : PySem.W.codeIn K cd_is_row "is_row" = true)
    (k_is_row : PySem.W.keepIn K (.ref f_is_row) = true)
    (a_require_row : PySem.W.nsIn K mainGlobals "require_row" = some (some (.ref f_require_row)))
    (l_require_row : K.lookup f_require_row = some ⟨oc_require_row, od_require_row, .func (PySem.W.fnOf "require_row" "require_row" (defArgs (top 27)) (defBody (top 27)) (defScope (top 27)) .none kV_require_row dc_require_row pm_require_row an_require_row cd_require_row ct_require_row), sl_require_row⟩)
    (c_require_row : PySem.W.codeIn K cd_require_row "require_row" = true)
    (k_require_row : PySem.W.keepIn K (.ref f_require_row) = true)
    (a_nearest : PySem.W.nsIn K mainGlobals "nearest" = some (some (.ref f_nearest)))
    (l_nearest : K.lookup f_nearest = some ⟨oc_nearest, od_nearest, .func (PySem.W.fnOf "nearest" "nearest" (defArgs (top 28)) (defBody (top 28)) (defScope (top 28)) .none kV_nearest dc_nearest pm_nearest an_nearest cd_nearest ct_nearest), sl_nearest⟩)
    (c_nearest : PySem.W.codeIn K cd_nearest "nearest" = true)
    (k_nearest : PySem.W.keepIn K (.ref f_nearest) = true)
    (a_end_of : PySem.W.nsIn K mainGlobals "end_of" = some (some (.ref f_end_of)))
    (l_end_of : K.lookup f_end_of = some ⟨oc_end_of, od_end_of, .func (PySem.W.fnOf "end_of" "end_of" (defArgs (top 29)) (defBody (top 29)) (defScope (top 29)) .none kV_end_of dc_end_of pm_end_of an_end_of cd_end_of ct_end_of), sl_end_of⟩)
    (c_end_of : PySem.W.codeIn K cd_end_of "end_of" = true)
    (k_end_of : PySem.W.keepIn K (.ref f_end_of) = true)
    (a_effect_of : PySem.W.nsIn K mainGlobals "effect_of" = some (some (.ref f_effect_of)))
    (l_effect_of : K.lookup f_effect_of = some ⟨oc_effect_of, od_effect_of, .func (PySem.W.fnOf "effect_of" "effect_of" (defArgs (top 31)) (defBody (top 31)) (defScope (top 31)) .none kV_effect_of dc_effect_of pm_effect_of an_effect_of cd_effect_of ct_effect_of), sl_effect_of⟩)
    (c_effect_of : PySem.W.codeIn K cd_effect_of "effect_of" = true)
    (k_effect_of : PySem.W.keepIn K (.ref f_effect_of) = true)
    (a_require_number : PySem.W.nsIn K mainGlobals "require_number" = some (some (.ref f_require_number)))
    (l_require_number : K.lookup f_require_number = some ⟨oc_require_number, od_require_number, .func (PySem.W.fnOf "require_number" "require_number" (defArgs (top 35)) (defBody (top 35)) (defScope (top 35)) .none kV_require_number dc_require_number pm_require_number an_require_number cd_require_number ct_require_number), sl_require_number⟩)
    (c_require_number : PySem.W.codeIn K cd_require_number "require_number" = true)
    (k_require_number : PySem.W.keepIn K (.ref f_require_number) = true)
    (a_farthest : PySem.W.nsIn K mainGlobals "farthest" = some (some (.ref f_farthest)))
    (l_farthest : K.lookup f_farthest = some ⟨oc_farthest, od_farthest, .func (PySem.W.fnOf "farthest" "farthest" (defArgs (top 36)) (defBody (top 36)) (defScope (top 36)) .none kV_farthest dc_farthest pm_farthest an_farthest cd_farthest ct_farthest), sl_farthest⟩)
    (c_farthest : PySem.W.codeIn K cd_farthest "farthest" = true)
    (k_farthest : PySem.W.keepIn K (.ref f_farthest) = true)
    (a_greatest_scroll : PySem.W.nsIn K mainGlobals "greatest_scroll" = some (some (.ref f_greatest_scroll)))
    (l_greatest_scroll : K.lookup f_greatest_scroll = some ⟨oc_greatest_scroll, od_greatest_scroll, .func (PySem.W.fnOf "greatest_scroll" "greatest_scroll" (defArgs (top 37)) (defBody (top 37)) (defScope (top 37)) .none kV_greatest_scroll dc_greatest_scroll pm_greatest_scroll an_greatest_scroll cd_greatest_scroll ct_greatest_scroll), sl_greatest_scroll⟩)
    (c_greatest_scroll : PySem.W.codeIn K cd_greatest_scroll "greatest_scroll" = true)
    (k_greatest_scroll : PySem.W.keepIn K (.ref f_greatest_scroll) = true)
    (a_fewest_for : PySem.W.nsIn K mainGlobals "fewest_for" = some (some (.ref f_fewest_for)))
    (l_fewest_for : K.lookup f_fewest_for = some ⟨oc_fewest_for, od_fewest_for, .func (PySem.W.fnOf "fewest_for" "fewest_for" (defArgs (top 38)) (defBody (top 38)) (defScope (top 38)) .none kV_fewest_for dc_fewest_for pm_fewest_for an_fewest_for cd_fewest_for ct_fewest_for), sl_fewest_for⟩)
    (c_fewest_for : PySem.W.codeIn K cd_fewest_for "fewest_for" = true)
    (k_fewest_for : PySem.W.keepIn K (.ref f_fewest_for) = true)
    (a_require_pair : PySem.W.nsIn K mainGlobals "require_pair" = some (some (.ref f_require_pair)))
    (l_require_pair : K.lookup f_require_pair = some ⟨oc_require_pair, od_require_pair, .func (PySem.W.fnOf "require_pair" "require_pair" (defArgs (top 42)) (defBody (top 42)) (defScope (top 42)) .none kV_require_pair dc_require_pair pm_require_pair an_require_pair cd_require_pair ct_require_pair), sl_require_pair⟩)
    (c_require_pair : PySem.W.codeIn K cd_require_pair "require_pair" = true)
    (k_require_pair : PySem.W.keepIn K (.ref f_require_pair) = true)
    (a_counts_of : PySem.W.nsIn K mainGlobals "counts_of" = some (some (.ref f_counts_of)))
    (l_counts_of : K.lookup f_counts_of = some ⟨oc_counts_of, od_counts_of, .func (PySem.W.fnOf "counts_of" "counts_of" (defArgs (top 43)) (defBody (top 43)) (defScope (top 43)) .none kV_counts_of dc_counts_of pm_counts_of an_counts_of cd_counts_of ct_counts_of), sl_counts_of⟩)
    (c_counts_of : PySem.W.codeIn K cd_counts_of "counts_of" = true)
    (k_counts_of : PySem.W.keepIn K (.ref f_counts_of) = true)
    (a_count_rows : PySem.W.nsIn K mainGlobals "count_rows" = some (some (.ref f_count_rows)))
    (l_count_rows : K.lookup f_count_rows = some ⟨oc_count_rows, od_count_rows, .func (PySem.W.fnOf "count_rows" "count_rows" (defArgs (top 44)) (defBody (top 44)) (defScope (top 44)) .none kV_count_rows dc_count_rows pm_count_rows an_count_rows cd_count_rows ct_count_rows), sl_count_rows⟩)
    (c_count_rows : PySem.W.codeIn K cd_count_rows "count_rows" = true)
    (k_count_rows : PySem.W.keepIn K (.ref f_count_rows) = true)
    (a_count_sure : PySem.W.nsIn K mainGlobals "count_sure" = some (some (.ref f_count_sure)))
    (l_count_sure : K.lookup f_count_sure = some ⟨oc_count_sure, od_count_sure, .func (PySem.W.fnOf "count_sure" "count_sure" (defArgs (top 45)) (defBody (top 45)) (defScope (top 45)) .none kV_count_sure dc_count_sure pm_count_sure an_count_sure cd_count_sure ct_count_sure), sl_count_sure⟩)
    (c_count_sure : PySem.W.codeIn K cd_count_sure "count_sure" = true)
    (k_count_sure : PySem.W.keepIn K (.ref f_count_sure) = true)
    (a_classes : PySem.W.nsIn K mainGlobals "classes" = some (some (.ref f_classes)))
    (l_classes : K.lookup f_classes = some ⟨oc_classes, od_classes, .func (PySem.W.fnOf "classes" "classes" (defArgs (top 46)) (defBody (top 46)) (defScope (top 46)) .none kV_classes dc_classes pm_classes an_classes cd_classes ct_classes), sl_classes⟩)
    (c_classes : PySem.W.codeIn K cd_classes "classes" = true)
    (k_classes : PySem.W.keepIn K (.ref f_classes) = true)
    (a_require_items : PySem.W.nsIn K mainGlobals "require_items" = some (some (.ref f_require_items)))
    (l_require_items : K.lookup f_require_items = some ⟨oc_require_items, od_require_items, .func (PySem.W.fnOf "require_items" "require_items" (defArgs (top 49)) (defBody (top 49)) (defScope (top 49)) .none kV_require_items dc_require_items pm_require_items an_require_items cd_require_items ct_require_items), sl_require_items⟩)
    (c_require_items : PySem.W.codeIn K cd_require_items "require_items" = true)
    (k_require_items : PySem.W.keepIn K (.ref f_require_items) = true)
    (a_common : PySem.W.nsIn K mainGlobals "common" = some (some (.ref f_common)))
    (l_common : K.lookup f_common = some ⟨oc_common, od_common, .func (PySem.W.fnOf "common" "common" (defArgs (top 50)) (defBody (top 50)) (defScope (top 50)) .none kV_common dc_common pm_common an_common cd_common ct_common), sl_common⟩)
    (c_common : PySem.W.codeIn K cd_common "common" = true)
    (k_common : PySem.W.keepIn K (.ref f_common) = true)
    (a_require_heights : PySem.W.nsIn K mainGlobals "require_heights" = some (some (.ref f_require_heights)))
    (l_require_heights : K.lookup f_require_heights = some ⟨oc_require_heights, od_require_heights, .func (PySem.W.fnOf "require_heights" "require_heights" (defArgs (top 52)) (defBody (top 52)) (defScope (top 52)) .none kV_require_heights dc_require_heights pm_require_heights an_require_heights cd_require_heights ct_require_heights), sl_require_heights⟩)
    (c_require_heights : PySem.W.codeIn K cd_require_heights "require_heights" = true)
    (k_require_heights : PySem.W.keepIn K (.ref f_require_heights) = true)
    (a_ranges_of : PySem.W.nsIn K mainGlobals "ranges_of" = some (some (.ref f_ranges_of)))
    (l_ranges_of : K.lookup f_ranges_of = some ⟨oc_ranges_of, od_ranges_of, .func (PySem.W.fnOf "ranges_of" "ranges_of" (defArgs (top 53)) (defBody (top 53)) (defScope (top 53)) .none kV_ranges_of dc_ranges_of pm_ranges_of an_ranges_of cd_ranges_of ct_ranges_of), sl_ranges_of⟩)
    (c_ranges_of : PySem.W.codeIn K cd_ranges_of "ranges_of" = true)
    (k_ranges_of : PySem.W.keepIn K (.ref f_ranges_of) = true)
    (a_windows_together : PySem.W.nsIn K mainGlobals "windows_together" = some (some (.ref f_windows_together)))
    (l_windows_together : K.lookup f_windows_together = some ⟨oc_windows_together, od_windows_together, .func (PySem.W.fnOf "windows_together" "windows_together" (defArgs (top 54)) (defBody (top 54)) (defScope (top 54)) .none kV_windows_together dc_windows_together pm_windows_together an_windows_together cd_windows_together ct_windows_together), sl_windows_together⟩)
    (c_windows_together : PySem.W.codeIn K cd_windows_together "windows_together" = true)
    (k_windows_together : PySem.W.keepIn K (.ref f_windows_together) = true)
    (a_windows_alike : PySem.W.nsIn K mainGlobals "windows_alike" = some (some (.ref f_windows_alike)))
    (l_windows_alike : K.lookup f_windows_alike = some ⟨oc_windows_alike, od_windows_alike, .func (PySem.W.fnOf "windows_alike" "windows_alike" (defArgs (top 55)) (defBody (top 55)) (defScope (top 55)) .none kV_windows_alike dc_windows_alike pm_windows_alike an_windows_alike cd_windows_alike ct_windows_alike), sl_windows_alike⟩)
    (c_windows_alike : PySem.W.codeIn K cd_windows_alike "windows_alike" = true)
    (k_windows_alike : PySem.W.keepIn K (.ref f_windows_alike) = true)
    (a_law_source : PySem.W.nsIn K mainGlobals "_law_source" = some (some (.ref f_law_source)))
    (l_law_source : K.lookup f_law_source = some ⟨oc_law_source, od_law_source, .func (PySem.W.fnOf "_law_source" "_law_source" (defArgs (top 57)) (defBody (top 57)) (defScope (top 57)) .none kV_law_source dc_law_source pm_law_source an_law_source cd_law_source ct_law_source), sl_law_source⟩)
    (c_law_source : PySem.W.codeIn K cd_law_source "_law_source" = true)
    (k_law_source : PySem.W.keepIn K (.ref f_law_source) = true)
    (a_law_pick : PySem.W.nsIn K mainGlobals "_law_pick" = some (some (.ref f_law_pick)))
    (l_law_pick : K.lookup f_law_pick = some ⟨oc_law_pick, od_law_pick, .func (PySem.W.fnOf "_law_pick" "_law_pick" (defArgs (top 58)) (defBody (top 58)) (defScope (top 58)) .none kV_law_pick dc_law_pick pm_law_pick an_law_pick cd_law_pick ct_law_pick), sl_law_pick⟩)
    (c_law_pick : PySem.W.codeIn K cd_law_pick "_law_pick" = true)
    (k_law_pick : PySem.W.keepIn K (.ref f_law_pick) = true)
    (a_law_error_name : PySem.W.nsIn K mainGlobals "_law_error_name" = some (some (.ref f_law_error_name)))
    (l_law_error_name : K.lookup f_law_error_name = some ⟨oc_law_error_name, od_law_error_name, .func (PySem.W.fnOf "_law_error_name" "_law_error_name" (defArgs (top 59)) (defBody (top 59)) (defScope (top 59)) .none kV_law_error_name dc_law_error_name pm_law_error_name an_law_error_name cd_law_error_name ct_law_error_name), sl_law_error_name⟩)
    (c_law_error_name : PySem.W.codeIn K cd_law_error_name "_law_error_name" = true)
    (k_law_error_name : PySem.W.keepIn K (.ref f_law_error_name) = true)
    (a_law_view : PySem.W.nsIn K mainGlobals "_law_view" = some (some (.ref f_law_view)))
    (l_law_view : K.lookup f_law_view = some ⟨oc_law_view, od_law_view, .func (PySem.W.fnOf "_law_view" "_law_view" (defArgs (top 60)) (defBody (top 60)) (defScope (top 60)) .none kV_law_view dc_law_view pm_law_view an_law_view cd_law_view ct_law_view), sl_law_view⟩)
    (c_law_view : PySem.W.codeIn K cd_law_view "_law_view" = true)
    (k_law_view : PySem.W.keepIn K (.ref f_law_view) = true)
    (a_law_one : PySem.W.nsIn K mainGlobals "_law_one" = some (some (.ref f_law_one)))
    (l_law_one : K.lookup f_law_one = some ⟨oc_law_one, od_law_one, .func (PySem.W.fnOf "_law_one" "_law_one" (defArgs (top 61)) (defBody (top 61)) (defScope (top 61)) .none kV_law_one dc_law_one pm_law_one an_law_one cd_law_one ct_law_one), sl_law_one⟩)
    (c_law_one : PySem.W.codeIn K cd_law_one "_law_one" = true)
    (k_law_one : PySem.W.keepIn K (.ref f_law_one) = true)
    (a_law_outcome_of : PySem.W.nsIn K mainGlobals "_law_outcome_of" = some (some (.ref f_law_outcome_of)))
    (l_law_outcome_of : K.lookup f_law_outcome_of = some ⟨oc_law_outcome_of, od_law_outcome_of, .func (PySem.W.fnOf "_law_outcome_of" "_law_outcome_of" (defArgs (top 62)) (defBody (top 62)) (defScope (top 62)) .none kV_law_outcome_of dc_law_outcome_of pm_law_outcome_of an_law_outcome_of cd_law_outcome_of ct_law_outcome_of), sl_law_outcome_of⟩)
    (c_law_outcome_of : PySem.W.codeIn K cd_law_outcome_of "_law_outcome_of" = true)
    (k_law_outcome_of : PySem.W.keepIn K (.ref f_law_outcome_of) = true)
    (a_law_rows_right : PySem.W.nsIn K mainGlobals "_law_rows_right" = some (some (.ref f_law_rows_right)))
    (l_law_rows_right : K.lookup f_law_rows_right = some ⟨oc_law_rows_right, od_law_rows_right, .func (PySem.W.fnOf "_law_rows_right" "_law_rows_right" (defArgs (top 63)) (defBody (top 63)) (defScope (top 63)) .none kV_law_rows_right dc_law_rows_right pm_law_rows_right an_law_rows_right cd_law_rows_right ct_law_rows_right), sl_law_rows_right⟩)
    (c_law_rows_right : PySem.W.codeIn K cd_law_rows_right "_law_rows_right" = true)
    (k_law_rows_right : PySem.W.keepIn K (.ref f_law_rows_right) = true)
    (a_law_bounds_right : PySem.W.nsIn K mainGlobals "_law_bounds_right" = some (some (.ref f_law_bounds_right)))
    (l_law_bounds_right : K.lookup f_law_bounds_right = some ⟨oc_law_bounds_right, od_law_bounds_right, .func (PySem.W.fnOf "_law_bounds_right" "_law_bounds_right" (defArgs (top 64)) (defBody (top 64)) (defScope (top 64)) .none kV_law_bounds_right dc_law_bounds_right pm_law_bounds_right an_law_bounds_right cd_law_bounds_right ct_law_bounds_right), sl_law_bounds_right⟩)
    (c_law_bounds_right : PySem.W.codeIn K cd_law_bounds_right "_law_bounds_right" = true)
    (k_law_bounds_right : PySem.W.keepIn K (.ref f_law_bounds_right) = true)
    (a_law : PySem.W.nsIn K mainGlobals "law" = some (some (.ref f_law)))
    (l_law : K.lookup f_law = some ⟨oc_law, od_law, .func (PySem.W.fnOf "law" "law" (defArgs (top 65)) (defBody (top 65)) (defScope (top 65)) .none kV_law dc_law pm_law an_law cd_law ct_law), sl_law⟩)
    (c_law : PySem.W.codeIn K cd_law "law" = true)
    (k_law : PySem.W.keepIn K (.ref f_law) = true) :
    ∃ fd : FuncData, (∀ (s : Shared) (v : Value), BindsTo s fd ⟨[v], []⟩ [("script", v)]) ∧ ∀ base : Heap, K.In base → base.Ns mainGlobals mg → FnOk l.prog w K mg base (L2N.CX l.prog w) 10 fa fd ["script"] (spLaw K) := by
  have e := hfa.symm.trans (PySem.W.mg_of X G a_law)
  cases e
  have CF : ∀ (j : Nat) (x : Str) (a : Addr), excNames[j]? = some x → ([a_InvalidView, a_InvalidItem, a_InvalidPosition, a_InvalidRow, a_InvalidItems, a_InvalidHeights, a_InvalidNumber, a_InvalidSightings, a_OtherView, a_NothingToUndo, a_ScrollError] : List Addr)[j]? = some a → ClsF K a x := by
    intro j x a h1 h2
    rcases j with _ | _ | _ | _ | _ | _ | _ | _ | _ | _ | _ | _
    · cases h1; cases h2; exact ⟨xa_InvalidView, xh_InvalidView, xe_InvalidView⟩
    · cases h1; cases h2; exact ⟨xa_InvalidItem, xh_InvalidItem, xe_InvalidItem⟩
    · cases h1; cases h2; exact ⟨xa_InvalidPosition, xh_InvalidPosition, xe_InvalidPosition⟩
    · cases h1; cases h2; exact ⟨xa_InvalidRow, xh_InvalidRow, xe_InvalidRow⟩
    · cases h1; cases h2; exact ⟨xa_InvalidItems, xh_InvalidItems, xe_InvalidItems⟩
    · cases h1; cases h2; exact ⟨xa_InvalidHeights, xh_InvalidHeights, xe_InvalidHeights⟩
    · cases h1; cases h2; exact ⟨xa_InvalidNumber, xh_InvalidNumber, xe_InvalidNumber⟩
    · cases h1; cases h2; exact ⟨xa_InvalidSightings, xh_InvalidSightings, xe_InvalidSightings⟩
    · cases h1; cases h2; exact ⟨xa_OtherView, xh_OtherView, xe_OtherView⟩
    · cases h1; cases h2; exact ⟨xa_NothingToUndo, xh_NothingToUndo, xe_NothingToUndo⟩
    · cases h1; cases h2; exact ⟨xa_ScrollError, xh_ScrollError, xe_ScrollError⟩
    · simp [excNames] at h1
  have SB : ∀ a, ([a_InvalidView, a_InvalidItem, a_InvalidPosition, a_InvalidRow, a_InvalidItems, a_InvalidHeights, a_InvalidNumber, a_InvalidSightings, a_OtherView, a_NothingToUndo, a_ScrollError] : List Addr)[10]? = some a → PySem.W.subIn K (.ref a) (.type "BaseException") = some true := fun a h => by cases h; exact x_sb
  have RF_InvalidView : RaisedF K a_InvalidView 0 [a_InvalidView, a_InvalidItem, a_InvalidPosition, a_InvalidRow, a_InvalidItems, a_InvalidHeights, a_InvalidNumber, a_InvalidSightings, a_OtherView, a_NothingToUndo, a_ScrollError] := ⟨yg_InvalidView, yk_InvalidView, xd_InvalidView, yl_InvalidView, ym_InvalidView, yv_InvalidView, by
    intro j a h
    rcases j with _ | _ | _ | _ | _ | _ | _ | _ | _ | _ | _ | _
    · cases h; exact ys_InvalidView_0
    · cases h; exact ys_InvalidView_1
    · cases h; exact ys_InvalidView_2
    · cases h; exact ys_InvalidView_3
    · cases h; exact ys_InvalidView_4
    · cases h; exact ys_InvalidView_5
    · cases h; exact ys_InvalidView_6
    · cases h; exact ys_InvalidView_7
    · cases h; exact ys_InvalidView_8
    · cases h; exact ys_InvalidView_9
    · cases h; exact ys_InvalidView_10
    · simp at h⟩
  have RF_InvalidPosition : RaisedF K a_InvalidPosition 2 [a_InvalidView, a_InvalidItem, a_InvalidPosition, a_InvalidRow, a_InvalidItems, a_InvalidHeights, a_InvalidNumber, a_InvalidSightings, a_OtherView, a_NothingToUndo, a_ScrollError] := ⟨yg_InvalidPosition, yk_InvalidPosition, xd_InvalidPosition, yl_InvalidPosition, ym_InvalidPosition, yv_InvalidPosition, by
    intro j a h
    rcases j with _ | _ | _ | _ | _ | _ | _ | _ | _ | _ | _ | _
    · cases h; exact ys_InvalidPosition_0
    · cases h; exact ys_InvalidPosition_1
    · cases h; exact ys_InvalidPosition_2
    · cases h; exact ys_InvalidPosition_3
    · cases h; exact ys_InvalidPosition_4
    · cases h; exact ys_InvalidPosition_5
    · cases h; exact ys_InvalidPosition_6
    · cases h; exact ys_InvalidPosition_7
    · cases h; exact ys_InvalidPosition_8
    · cases h; exact ys_InvalidPosition_9
    · cases h; exact ys_InvalidPosition_10
    · simp at h⟩
  have RF_InvalidRow : RaisedF K a_InvalidRow 3 [a_InvalidView, a_InvalidItem, a_InvalidPosition, a_InvalidRow, a_InvalidItems, a_InvalidHeights, a_InvalidNumber, a_InvalidSightings, a_OtherView, a_NothingToUndo, a_ScrollError] := ⟨yg_InvalidRow, yk_InvalidRow, xd_InvalidRow, yl_InvalidRow, ym_InvalidRow, yv_InvalidRow, by
    intro j a h
    rcases j with _ | _ | _ | _ | _ | _ | _ | _ | _ | _ | _ | _
    · cases h; exact ys_InvalidRow_0
    · cases h; exact ys_InvalidRow_1
    · cases h; exact ys_InvalidRow_2
    · cases h; exact ys_InvalidRow_3
    · cases h; exact ys_InvalidRow_4
    · cases h; exact ys_InvalidRow_5
    · cases h; exact ys_InvalidRow_6
    · cases h; exact ys_InvalidRow_7
    · cases h; exact ys_InvalidRow_8
    · cases h; exact ys_InvalidRow_9
    · cases h; exact ys_InvalidRow_10
    · simp at h⟩
  have RF_InvalidNumber : RaisedF K a_InvalidNumber 6 [a_InvalidView, a_InvalidItem, a_InvalidPosition, a_InvalidRow, a_InvalidItems, a_InvalidHeights, a_InvalidNumber, a_InvalidSightings, a_OtherView, a_NothingToUndo, a_ScrollError] := ⟨yg_InvalidNumber, yk_InvalidNumber, xd_InvalidNumber, yl_InvalidNumber, ym_InvalidNumber, yv_InvalidNumber, by
    intro j a h
    rcases j with _ | _ | _ | _ | _ | _ | _ | _ | _ | _ | _ | _
    · cases h; exact ys_InvalidNumber_0
    · cases h; exact ys_InvalidNumber_1
    · cases h; exact ys_InvalidNumber_2
    · cases h; exact ys_InvalidNumber_3
    · cases h; exact ys_InvalidNumber_4
    · cases h; exact ys_InvalidNumber_5
    · cases h; exact ys_InvalidNumber_6
    · cases h; exact ys_InvalidNumber_7
    · cases h; exact ys_InvalidNumber_8
    · cases h; exact ys_InvalidNumber_9
    · cases h; exact ys_InvalidNumber_10
    · simp at h⟩
  have RF_InvalidItems : RaisedF K a_InvalidItems 4 [a_InvalidView, a_InvalidItem, a_InvalidPosition, a_InvalidRow, a_InvalidItems, a_InvalidHeights, a_InvalidNumber, a_InvalidSightings, a_OtherView, a_NothingToUndo, a_ScrollError] := ⟨yg_InvalidItems, yk_InvalidItems, xd_InvalidItems, yl_InvalidItems, ym_InvalidItems, yv_InvalidItems, by
    intro j a h
    rcases j with _ | _ | _ | _ | _ | _ | _ | _ | _ | _ | _ | _
    · cases h; exact ys_InvalidItems_0
    · cases h; exact ys_InvalidItems_1
    · cases h; exact ys_InvalidItems_2
    · cases h; exact ys_InvalidItems_3
    · cases h; exact ys_InvalidItems_4
    · cases h; exact ys_InvalidItems_5
    · cases h; exact ys_InvalidItems_6
    · cases h; exact ys_InvalidItems_7
    · cases h; exact ys_InvalidItems_8
    · cases h; exact ys_InvalidItems_9
    · cases h; exact ys_InvalidItems_10
    · simp at h⟩
  have RF_InvalidHeights : RaisedF K a_InvalidHeights 5 [a_InvalidView, a_InvalidItem, a_InvalidPosition, a_InvalidRow, a_InvalidItems, a_InvalidHeights, a_InvalidNumber, a_InvalidSightings, a_OtherView, a_NothingToUndo, a_ScrollError] := ⟨yg_InvalidHeights, yk_InvalidHeights, xd_InvalidHeights, yl_InvalidHeights, ym_InvalidHeights, yv_InvalidHeights, by
    intro j a h
    rcases j with _ | _ | _ | _ | _ | _ | _ | _ | _ | _ | _ | _
    · cases h; exact ys_InvalidHeights_0
    · cases h; exact ys_InvalidHeights_1
    · cases h; exact ys_InvalidHeights_2
    · cases h; exact ys_InvalidHeights_3
    · cases h; exact ys_InvalidHeights_4
    · cases h; exact ys_InvalidHeights_5
    · cases h; exact ys_InvalidHeights_6
    · cases h; exact ys_InvalidHeights_7
    · cases h; exact ys_InvalidHeights_8
    · cases h; exact ys_InvalidHeights_9
    · cases h; exact ys_InvalidHeights_10
    · simp at h⟩
  have ER : ∀ (base : Heap) n v, errNm n = some v → ErrT ⟨l.prog, w, K, mg, base, xmOf mg⟩ n := by
    intro base n v hn
    have h := errNm_cases n v hn
    rcases h with h | h | h | h | h | h
    · subst h; exact mk_err X G rfl CF x_sp x_tk SB rfl RF_InvalidView
    · subst h; exact mk_err X G rfl CF x_sp x_tk SB rfl RF_InvalidPosition
    · subst h; exact mk_err X G rfl CF x_sp x_tk SB rfl RF_InvalidRow
    · subst h; exact mk_err X G rfl CF x_sp x_tk SB rfl RF_InvalidItems
    · subst h; exact mk_err X G rfl CF x_sp x_tk SB rfl RF_InvalidHeights
    · subst h; exact mk_err X G rfl CF x_sp x_tk SB rfl RF_InvalidNumber
  have T : ∀ base : Heap, Tx ⟨l.prog, w, K, mg, base, xmOf mg⟩ := fun base => ⟨PySem.W.mg_none_of X G n_ValueError,
    PySem.W.mg_none_of X G n_all,
    PySem.W.mg_none_of X G n_bool,
    PySem.W.mg_none_of X G n_enumerate,
    PySem.W.mg_none_of X G n_int,
    PySem.W.mg_none_of X G n_isinstance,
    PySem.W.mg_none_of X G n_len,
    PySem.W.mg_none_of X G n_max,
    PySem.W.mg_none_of X G n_min,
    PySem.W.mg_none_of X G n_range,
    PySem.W.mg_none_of X G n_sum,
    PySem.W.mg_none_of X G n_tuple,
    PySem.W.mg_none_of X G n_zip,
    mk_con X G g_MAX_CHOSEN,
    mk_con X G g_MAX_CLASSED,
    mk_con X G g_MAX_HEIGHT,
    mk_con X G g_MAX_ITEMS,
    mk_con X G g_MAX_ROW,
    mk_con X G g_MAX_WINDOW,
    mk_con X G g_MOST_COUNTED,
    mk_con X G g_MOST_DISTANCE,
    mk_con X G g_MOST_REVEALS,
    mk_exc X G (n := 0) rfl xa_InvalidView xb_InvalidView xc_InvalidView xd_InvalidView xe_InvalidView,
    mk_exc X G (n := 2) rfl xa_InvalidPosition xb_InvalidPosition xc_InvalidPosition xd_InvalidPosition xe_InvalidPosition,
    mk_exc X G (n := 3) rfl xa_InvalidRow xb_InvalidRow xc_InvalidRow xd_InvalidRow xe_InvalidRow,
    mk_exc X G (n := 6) rfl xa_InvalidNumber xb_InvalidNumber xc_InvalidNumber xd_InvalidNumber xe_InvalidNumber,
    mk_exc X G (n := 4) rfl xa_InvalidItems xb_InvalidItems xc_InvalidItems xd_InvalidItems xe_InvalidItems,
    mk_exc X G (n := 5) rfl xa_InvalidHeights xb_InvalidHeights xc_InvalidHeights xd_InvalidHeights xe_InvalidHeights,
    ER base,
    ⟨a_ScrollError, PySem.W.mg_of X G xa_ScrollError⟩,
    ⟨f_classes, a_classes, PySem.W.mg_of X G a_classes⟩,
    ⟨f_count_sure, a_count_sure, PySem.W.mg_of X G a_count_sure⟩,
    ⟨f_count_rows, a_count_rows, PySem.W.mg_of X G a_count_rows⟩,
    ⟨f_fewest_for, a_fewest_for, PySem.W.mg_of X G a_fewest_for⟩,
    ⟨f_greatest_scroll, a_greatest_scroll, PySem.W.mg_of X G a_greatest_scroll⟩,
    mk_def X G ["value", "low", "high"] a_is_integer l_is_integer c_is_integer k_is_integer (fun _ _ _ _ _ _ us hl => match us, hl with | [_, _, _], _ => rfl),
    mk_def X G ["value"] a_is_heights l_is_heights c_is_heights k_is_heights (fun _ _ _ _ _ _ us hl => match us, hl with | [_], _ => rfl),
    mk_def X G ["value"] a_is_view l_is_view c_is_view k_is_view (fun _ _ _ _ _ _ us hl => match us, hl with | [_], _ => rfl),
    mk_def X G ["value"] a_require_view l_require_view c_require_view k_require_view (fun _ _ _ _ _ _ us hl => match us, hl with | [_], _ => rfl),
    mk_def X G ["view"] a_top_of l_top_of c_top_of k_top_of (fun _ _ _ _ _ _ us hl => match us, hl with | [_], _ => rfl),
    mk_def X G ["view", "item"] a_begin_of l_begin_of c_begin_of k_begin_of (fun _ _ _ _ _ _ us hl => match us, hl with | [_, _], _ => rfl),
    mk_def X G ["view", "item"] a_range_of l_range_of c_range_of k_range_of (fun _ _ _ _ _ _ us hl => match us, hl with | [_, _], _ => rfl),
    mk_def X G ["view", "value"] a_require_position l_require_position c_require_position k_require_position (fun _ _ _ _ _ _ us hl => match us, hl with | [_, _], _ => rfl),
    mk_def X G ["view", "value"] a_is_row l_is_row c_is_row k_is_row (fun _ _ _ _ _ _ us hl => match us, hl with | [_, _], _ => rfl),
    mk_def X G ["view", "value"] a_require_row l_require_row c_require_row k_require_row (fun _ _ _ _ _ _ us hl => match us, hl with | [_, _], _ => rfl),
    mk_def X G ["position", "pair"] a_nearest l_nearest c_nearest k_nearest (fun _ _ _ _ _ _ us hl => match us, hl with | [_, _], _ => rfl),
    mk_def X G ["view", "position", "row"] a_end_of l_end_of c_end_of k_end_of (fun _ _ _ _ _ _ us hl => match us, hl with | [_, _, _], _ => rfl),
    mk_def X G ["view", "row"] a_effect_of l_effect_of c_effect_of k_effect_of (fun _ _ _ _ _ _ us hl => match us, hl with | [_, _], _ => rfl),
    mk_def X G ["value", "most"] a_require_number l_require_number c_require_number k_require_number (fun _ _ _ _ _ _ us hl => match us, hl with | [_, _], _ => rfl),
    mk_def X G ["view", "position"] a_farthest l_farthest c_farthest k_farthest (fun _ _ _ _ _ _ us hl => match us, hl with | [_, _], _ => rfl),
    mk_def X G ["view", "position", "number"] a_greatest_scroll l_greatest_scroll c_greatest_scroll k_greatest_scroll (fun _ _ _ _ _ _ us hl => match us, hl with | [_, _, _], _ => rfl),
    mk_def X G ["view", "position", "distance"] a_fewest_for l_fewest_for c_fewest_for k_fewest_for (fun _ _ _ _ _ _ us hl => match us, hl with | [_, _, _], _ => rfl),
    mk_def X G ["view", "value"] a_require_pair l_require_pair c_require_pair k_require_pair (fun _ _ _ _ _ _ us hl => match us, hl with | [_, _], _ => rfl),
    mk_def X G ["view", "number"] a_counts_of l_counts_of c_counts_of k_counts_of (fun _ _ _ _ _ _ us hl => match us, hl with | [_, _], _ => rfl),
    mk_def X G ["view", "pair", "number"] a_count_rows l_count_rows c_count_rows k_count_rows (fun _ _ _ _ _ _ us hl => match us, hl with | [_, _, _], _ => rfl),
    mk_def X G ["view", "number"] a_count_sure l_count_sure c_count_sure k_count_sure (fun _ _ _ _ _ _ us hl => match us, hl with | [_, _], _ => rfl),
    mk_def X G ["view", "rows"] a_classes l_classes c_classes k_classes (fun _ _ _ _ _ _ us hl => match us, hl with | [_, _], _ => rfl),
    mk_def X G ["view", "value"] a_require_items l_require_items c_require_items k_require_items (fun _ _ _ _ _ _ us hl => match us, hl with | [_, _], _ => rfl),
    mk_def X G ["view", "items"] a_common l_common c_common k_common (fun _ _ _ _ _ _ us hl => match us, hl with | [_, _], _ => rfl),
    mk_def X G ["value"] a_require_heights l_require_heights c_require_heights k_require_heights (fun _ _ _ _ _ _ us hl => match us, hl with | [_], _ => rfl),
    mk_def X G ["numbers"] a_ranges_of l_ranges_of c_ranges_of k_ranges_of (fun _ _ _ _ _ _ us hl => match us, hl with | [_], _ => rfl),
    mk_def X G ["heights", "items"] a_windows_together l_windows_together c_windows_together k_windows_together (fun _ _ _ _ _ _ us hl => match us, hl with | [_, _], _ => rfl),
    mk_def X G ["heights", "first", "second"] a_windows_alike l_windows_alike c_windows_alike k_windows_alike (fun _ _ _ _ _ _ us hl => match us, hl with | [_, _, _], _ => rfl),
    mk_def X G ["script", "k"] a_law_source l_law_source c_law_source k_law_source (fun _ _ _ _ _ _ us hl => match us, hl with | [_, _], _ => rfl),
    mk_def X G ["source", "size"] a_law_pick l_law_pick c_law_pick k_law_pick (fun _ _ _ _ _ _ us hl => match us, hl with | [_, _], _ => rfl),
    mk_def X G ["e"] a_law_error_name l_law_error_name c_law_error_name k_law_error_name (fun _ _ _ _ _ _ us hl => match us, hl with | [_], _ => rfl),
    mk_def X G ["source", "many", "wide"] a_law_view l_law_view c_law_view k_law_view (fun _ _ _ _ _ _ us hl => match us, hl with | [_, _, _], _ => rfl),
    mk_def X G ["call", "some"] a_law_one l_law_one c_law_one k_law_one (fun _ _ _ _ _ _ us hl => match us, hl with | [_, _], _ => rfl),
    mk_def X G ["call", "some"] a_law_outcome_of l_law_outcome_of c_law_outcome_of k_law_outcome_of (fun _ _ _ _ _ _ us hl => match us, hl with | [_, _], _ => rfl),
    mk_def X G ["rows"] a_law_rows_right l_law_rows_right c_law_rows_right k_law_rows_right (fun _ _ _ _ _ _ us hl => match us, hl with | [_], _ => rfl),
    mk_def X G [] a_law_bounds_right l_law_bounds_right c_law_bounds_right k_law_bounds_right (fun _ _ _ _ _ _ us hl => match us, hl with | [], _ => rfl),
    mk_def X G ["script"] a_law l_law c_law k_law (fun _ _ _ _ _ _ us hl => match us, hl with | [_], _ => rfl)⟩
  have F := fun_mk (st := top 65) l_law c_law k_law
  refine ⟨PySem.W.fnOf "law" "law" (defArgs (top 65)) (defBody (top 65)) (defScope (top 65)) .none kV_law dc_law pm_law an_law cd_law ct_law, fun s v => .of_eq rfl, fun base _ _ => ?_⟩
  have d : Def ⟨l.prog, w, K, mg, base, xmOf mg⟩ "law" (top 65) ["script"] _ _ := ⟨F, PySem.W.mg_of X G a_law, F.binds fun _ _ _ _ _ _ us hl => match us, hl with | [_], _ => rfl⟩
  exact law_imp rfl (fn_law (T base) d) law_true
end Rv
open PySem PySem.W PyProof.Rows in
theorem PySem.Challenge.cw_revealscrolls_k73_errors_of_spans_and_co_holds : PySem.Challenge.rw_revealscrolls_k73_errors_of_spans_and_co.Holds := by
  w_on; o_law; k_head; (case hw => w_witness2)
  k_fill
  refine Lin.walk (l := PySem.Challenge.rw_revealscrolls_k73_errors_of_spans_and_co) (k := 10) ⟨rfl, by decide, by decide⟩ rfl rfl (fun w h Y => PySem.W.kIn_of Y) ?F
  case F =>
    intro w mg fa h KX G hmg
    refine' Rv.fin KX G hmg ?n_ValueError ?n_all ?n_bool ?n_enumerate ?n_int ?n_isinstance ?n_len ?n_max ?n_min ?n_range ?n_sum ?n_tuple ?n_zip ?g_MAX_CHOSEN ?g_MAX_CLASSED ?g_MAX_HEIGHT ?g_MAX_ITEMS ?g_MAX_ROW ?g_MAX_WINDOW ?g_MOST_COUNTED ?g_MOST_DISTANCE ?g_MOST_REVEALS ?xa_InvalidView ?xb_InvalidView ?xc_InvalidView ?xd_InvalidView ?xe_InvalidView ?xa_InvalidPosition ?xb_InvalidPosition ?xc_InvalidPosition ?xd_InvalidPosition ?xe_InvalidPosition ?xa_InvalidRow ?xb_InvalidRow ?xc_InvalidRow ?xd_InvalidRow ?xe_InvalidRow ?xa_InvalidNumber ?xb_InvalidNumber ?xc_InvalidNumber ?xd_InvalidNumber ?xe_InvalidNumber ?xa_InvalidItems ?xb_InvalidItems ?xc_InvalidItems ?xd_InvalidItems ?xe_InvalidItems ?xa_InvalidHeights ?xb_InvalidHeights ?xc_InvalidHeights ?xd_InvalidHeights ?xe_InvalidHeights ?xh_InvalidView ?xa_InvalidItem ?xe_InvalidItem ?xh_InvalidItem ?xh_InvalidPosition ?xh_InvalidRow ?xh_InvalidItems ?xh_InvalidHeights ?xh_InvalidNumber ?xa_InvalidSightings ?xe_InvalidSightings ?xh_InvalidSightings ?xa_OtherView ?xe_OtherView ?xh_OtherView ?xa_NothingToUndo ?xe_NothingToUndo ?xh_NothingToUndo ?xa_ScrollError ?xe_ScrollError ?xh_ScrollError ?x_sp ?x_tk ?x_sb ?yg_InvalidView ?yk_InvalidView ?yl_InvalidView ?ym_InvalidView ?yv_InvalidView ?ys_InvalidView_0 ?ys_InvalidView_1 ?ys_InvalidView_2 ?ys_InvalidView_3 ?ys_InvalidView_4 ?ys_InvalidView_5 ?ys_InvalidView_6 ?ys_InvalidView_7 ?ys_InvalidView_8 ?ys_InvalidView_9 ?ys_InvalidView_10 ?yg_InvalidPosition ?yk_InvalidPosition ?yl_InvalidPosition ?ym_InvalidPosition ?yv_InvalidPosition ?ys_InvalidPosition_0 ?ys_InvalidPosition_1 ?ys_InvalidPosition_2 ?ys_InvalidPosition_3 ?ys_InvalidPosition_4 ?ys_InvalidPosition_5 ?ys_InvalidPosition_6 ?ys_InvalidPosition_7 ?ys_InvalidPosition_8 ?ys_InvalidPosition_9 ?ys_InvalidPosition_10 ?yg_InvalidRow ?yk_InvalidRow ?yl_InvalidRow ?ym_InvalidRow ?yv_InvalidRow ?ys_InvalidRow_0 ?ys_InvalidRow_1 ?ys_InvalidRow_2 ?ys_InvalidRow_3 ?ys_InvalidRow_4 ?ys_InvalidRow_5 ?ys_InvalidRow_6 ?ys_InvalidRow_7 ?ys_InvalidRow_8 ?ys_InvalidRow_9 ?ys_InvalidRow_10 ?yg_InvalidNumber ?yk_InvalidNumber ?yl_InvalidNumber ?ym_InvalidNumber ?yv_InvalidNumber ?ys_InvalidNumber_0 ?ys_InvalidNumber_1 ?ys_InvalidNumber_2 ?ys_InvalidNumber_3 ?ys_InvalidNumber_4 ?ys_InvalidNumber_5 ?ys_InvalidNumber_6 ?ys_InvalidNumber_7 ?ys_InvalidNumber_8 ?ys_InvalidNumber_9 ?ys_InvalidNumber_10 ?yg_InvalidItems ?yk_InvalidItems ?yl_InvalidItems ?ym_InvalidItems ?yv_InvalidItems ?ys_InvalidItems_0 ?ys_InvalidItems_1 ?ys_InvalidItems_2 ?ys_InvalidItems_3 ?ys_InvalidItems_4 ?ys_InvalidItems_5 ?ys_InvalidItems_6 ?ys_InvalidItems_7 ?ys_InvalidItems_8 ?ys_InvalidItems_9 ?ys_InvalidItems_10 ?yg_InvalidHeights ?yk_InvalidHeights ?yl_InvalidHeights ?ym_InvalidHeights ?yv_InvalidHeights ?ys_InvalidHeights_0 ?ys_InvalidHeights_1 ?ys_InvalidHeights_2 ?ys_InvalidHeights_3 ?ys_InvalidHeights_4 ?ys_InvalidHeights_5 ?ys_InvalidHeights_6 ?ys_InvalidHeights_7 ?ys_InvalidHeights_8 ?ys_InvalidHeights_9 ?ys_InvalidHeights_10 ?a_is_integer ?l_is_integer ?c_is_integer ?k_is_integer ?a_is_heights ?l_is_heights ?c_is_heights ?k_is_heights ?a_is_view ?l_is_view ?c_is_view ?k_is_view ?a_require_view ?l_require_view ?c_require_view ?k_require_view ?a_top_of ?l_top_of ?c_top_of ?k_top_of ?a_begin_of ?l_begin_of ?c_begin_of ?k_begin_of ?a_range_of ?l_range_of ?c_range_of ?k_range_of ?a_require_position ?l_require_position ?c_require_position ?k_require_position ?a_is_row ?l_is_row ?c_is_row ?k_is_row ?a_require_row ?l_require_row ?c_require_row ?k_require_row ?a_nearest ?l_nearest ?c_nearest ?k_nearest ?a_end_of ?l_end_of ?c_end_of ?k_end_of ?a_effect_of ?l_effect_of ?c_effect_of ?k_effect_of ?a_require_number ?l_require_number ?c_require_number ?k_require_number ?a_farthest ?l_farthest ?c_farthest ?k_farthest ?a_greatest_scroll ?l_greatest_scroll ?c_greatest_scroll ?k_greatest_scroll ?a_fewest_for ?l_fewest_for ?c_fewest_for ?k_fewest_for ?a_require_pair ?l_require_pair ?c_require_pair ?k_require_pair ?a_counts_of ?l_counts_of ?c_counts_of ?k_counts_of ?a_count_rows ?l_count_rows ?c_count_rows ?k_count_rows ?a_count_sure ?l_count_sure ?c_count_sure ?k_count_sure ?a_classes ?l_classes ?c_classes ?k_classes ?a_require_items ?l_require_items ?c_require_items ?k_require_items ?a_common ?l_common ?c_common ?k_common ?a_require_heights ?l_require_heights ?c_require_heights ?k_require_heights ?a_ranges_of ?l_ranges_of ?c_ranges_of ?k_ranges_of ?a_windows_together ?l_windows_together ?c_windows_together ?k_windows_together ?a_windows_alike ?l_windows_alike ?c_windows_alike ?k_windows_alike ?a_law_source ?l_law_source ?c_law_source ?k_law_source ?a_law_pick ?l_law_pick ?c_law_pick ?k_law_pick ?a_law_error_name ?l_law_error_name ?c_law_error_name ?k_law_error_name ?a_law_view ?l_law_view ?c_law_view ?k_law_view ?a_law_one ?l_law_one ?c_law_one ?k_law_one ?a_law_outcome_of ?l_law_outcome_of ?c_law_outcome_of ?k_law_outcome_of ?a_law_rows_right ?l_law_rows_right ?c_law_rows_right ?k_law_rows_right ?a_law_bounds_right ?l_law_bounds_right ?c_law_bounds_right ?k_law_bounds_right ?a_law ?l_law ?c_law ?k_law
    (case n_ValueError => k_is)
    (case n_all => k_is)
    (case n_bool => k_is)
    (case n_enumerate => k_is)
    (case n_int => k_is)
    (case n_isinstance => k_is)
    (case n_len => k_is)
    (case n_max => k_is)
    (case n_min => k_is)
    (case n_range => k_is)
    (case n_sum => k_is)
    (case n_tuple => k_is)
    (case n_zip => k_is)
    (case g_MAX_CHOSEN => k_is)
    (case g_MAX_CLASSED => k_is)
    (case g_MAX_HEIGHT => k_is)
    (case g_MAX_ITEMS => k_is)
    (case g_MAX_ROW => k_is)
    (case g_MAX_WINDOW => k_is)
    (case g_MOST_COUNTED => k_is)
    (case g_MOST_DISTANCE => k_is)
    (case g_MOST_REVEALS => k_is)
    (case xa_InvalidView => k_is)
    (case xb_InvalidView => k_exc)
    (case xc_InvalidView => k_is)
    (case xd_InvalidView => k_is)
    (case xe_InvalidView => k_is)
    (case xa_InvalidPosition => k_is)
    (case xb_InvalidPosition => k_exc)
    (case xc_InvalidPosition => k_is)
    (case xd_InvalidPosition => k_is)
    (case xe_InvalidPosition => k_is)
    (case xa_InvalidRow => k_is)
    (case xb_InvalidRow => k_exc)
    (case xc_InvalidRow => k_is)
    (case xd_InvalidRow => k_is)
    (case xe_InvalidRow => k_is)
    (case xa_InvalidNumber => k_is)
    (case xb_InvalidNumber => k_exc)
    (case xc_InvalidNumber => k_is)
    (case xd_InvalidNumber => k_is)
    (case xe_InvalidNumber => k_is)
    (case xa_InvalidItems => k_is)
    (case xb_InvalidItems => k_exc)
    (case xc_InvalidItems => k_is)
    (case xd_InvalidItems => k_is)
    (case xe_InvalidItems => k_is)
    (case xa_InvalidHeights => k_is)
    (case xb_InvalidHeights => k_exc)
    (case xc_InvalidHeights => k_is)
    (case xd_InvalidHeights => k_is)
    (case xe_InvalidHeights => k_is)
    (case xh_InvalidView => k_is)
    (case xa_InvalidItem => k_is)
    (case xe_InvalidItem => k_is)
    (case xh_InvalidItem => k_is)
    (case xh_InvalidPosition => k_is)
    (case xh_InvalidRow => k_is)
    (case xh_InvalidItems => k_is)
    (case xh_InvalidHeights => k_is)
    (case xh_InvalidNumber => k_is)
    (case xa_InvalidSightings => k_is)
    (case xe_InvalidSightings => k_is)
    (case xh_InvalidSightings => k_is)
    (case xa_OtherView => k_is)
    (case xe_OtherView => k_is)
    (case xh_OtherView => k_is)
    (case xa_NothingToUndo => k_is)
    (case xe_NothingToUndo => k_is)
    (case xh_NothingToUndo => k_is)
    (case xa_ScrollError => k_is)
    (case xe_ScrollError => k_is)
    (case xh_ScrollError => k_is)
    (case x_sp => k_is)
    (case x_tk => k_is)
    (case x_sb => k_is)
    (case yg_InvalidView => k_is)
    (case yk_InvalidView => k_is)
    (case yl_InvalidView => k_is)
    (case ym_InvalidView => k_is)
    (case yv_InvalidView => k_is)
    (case ys_InvalidView_0 => k_is)
    (case ys_InvalidView_1 => k_is)
    (case ys_InvalidView_2 => k_is)
    (case ys_InvalidView_3 => k_is)
    (case ys_InvalidView_4 => k_is)
    (case ys_InvalidView_5 => k_is)
    (case ys_InvalidView_6 => k_is)
    (case ys_InvalidView_7 => k_is)
    (case ys_InvalidView_8 => k_is)
    (case ys_InvalidView_9 => k_is)
    (case ys_InvalidView_10 => k_is)
    (case yg_InvalidPosition => k_is)
    (case yk_InvalidPosition => k_is)
    (case yl_InvalidPosition => k_is)
    (case ym_InvalidPosition => k_is)
    (case yv_InvalidPosition => k_is)
    (case ys_InvalidPosition_0 => k_is)
    (case ys_InvalidPosition_1 => k_is)
    (case ys_InvalidPosition_2 => k_is)
    (case ys_InvalidPosition_3 => k_is)
    (case ys_InvalidPosition_4 => k_is)
    (case ys_InvalidPosition_5 => k_is)
    (case ys_InvalidPosition_6 => k_is)
    (case ys_InvalidPosition_7 => k_is)
    (case ys_InvalidPosition_8 => k_is)
    (case ys_InvalidPosition_9 => k_is)
    (case ys_InvalidPosition_10 => k_is)
    (case yg_InvalidRow => k_is)
    (case yk_InvalidRow => k_is)
    (case yl_InvalidRow => k_is)
    (case ym_InvalidRow => k_is)
    (case yv_InvalidRow => k_is)
    (case ys_InvalidRow_0 => k_is)
    (case ys_InvalidRow_1 => k_is)
    (case ys_InvalidRow_2 => k_is)
    (case ys_InvalidRow_3 => k_is)
    (case ys_InvalidRow_4 => k_is)
    (case ys_InvalidRow_5 => k_is)
    (case ys_InvalidRow_6 => k_is)
    (case ys_InvalidRow_7 => k_is)
    (case ys_InvalidRow_8 => k_is)
    (case ys_InvalidRow_9 => k_is)
    (case ys_InvalidRow_10 => k_is)
    (case yg_InvalidNumber => k_is)
    (case yk_InvalidNumber => k_is)
    (case yl_InvalidNumber => k_is)
    (case ym_InvalidNumber => k_is)
    (case yv_InvalidNumber => k_is)
    (case ys_InvalidNumber_0 => k_is)
    (case ys_InvalidNumber_1 => k_is)
    (case ys_InvalidNumber_2 => k_is)
    (case ys_InvalidNumber_3 => k_is)
    (case ys_InvalidNumber_4 => k_is)
    (case ys_InvalidNumber_5 => k_is)
    (case ys_InvalidNumber_6 => k_is)
    (case ys_InvalidNumber_7 => k_is)
    (case ys_InvalidNumber_8 => k_is)
    (case ys_InvalidNumber_9 => k_is)
    (case ys_InvalidNumber_10 => k_is)
    (case yg_InvalidItems => k_is)
    (case yk_InvalidItems => k_is)
    (case yl_InvalidItems => k_is)
    (case ym_InvalidItems => k_is)
    (case yv_InvalidItems => k_is)
    (case ys_InvalidItems_0 => k_is)
    (case ys_InvalidItems_1 => k_is)
    (case ys_InvalidItems_2 => k_is)
    (case ys_InvalidItems_3 => k_is)
    (case ys_InvalidItems_4 => k_is)
    (case ys_InvalidItems_5 => k_is)
    (case ys_InvalidItems_6 => k_is)
    (case ys_InvalidItems_7 => k_is)
    (case ys_InvalidItems_8 => k_is)
    (case ys_InvalidItems_9 => k_is)
    (case ys_InvalidItems_10 => k_is)
    (case yg_InvalidHeights => k_is)
    (case yk_InvalidHeights => k_is)
    (case yl_InvalidHeights => k_is)
    (case ym_InvalidHeights => k_is)
    (case yv_InvalidHeights => k_is)
    (case ys_InvalidHeights_0 => k_is)
    (case ys_InvalidHeights_1 => k_is)
    (case ys_InvalidHeights_2 => k_is)
    (case ys_InvalidHeights_3 => k_is)
    (case ys_InvalidHeights_4 => k_is)
    (case ys_InvalidHeights_5 => k_is)
    (case ys_InvalidHeights_6 => k_is)
    (case ys_InvalidHeights_7 => k_is)
    (case ys_InvalidHeights_8 => k_is)
    (case ys_InvalidHeights_9 => k_is)
    (case ys_InvalidHeights_10 => k_is)
    (case a_is_integer => k_is)
    (case l_is_integer => k_is)
    (case c_is_integer => k_is)
    (case k_is_integer => k_is)
    (case a_is_heights => k_is)
    (case l_is_heights => k_is)
    (case c_is_heights => k_is)
    (case k_is_heights => k_is)
    (case a_is_view => k_is)
    (case l_is_view => k_is)
    (case c_is_view => k_is)
    (case k_is_view => k_is)
    (case a_require_view => k_is)
    (case l_require_view => k_is)
    (case c_require_view => k_is)
    (case k_require_view => k_is)
    (case a_top_of => k_is)
    (case l_top_of => k_is)
    (case c_top_of => k_is)
    (case k_top_of => k_is)
    (case a_begin_of => k_is)
    (case l_begin_of => k_is)
    (case c_begin_of => k_is)
    (case k_begin_of => k_is)
    (case a_range_of => k_is)
    (case l_range_of => k_is)
    (case c_range_of => k_is)
    (case k_range_of => k_is)
    (case a_require_position => k_is)
    (case l_require_position => k_is)
    (case c_require_position => k_is)
    (case k_require_position => k_is)
    (case a_is_row => k_is)
    (case l_is_row => k_is)
    (case c_is_row => k_is)
    (case k_is_row => k_is)
    (case a_require_row => k_is)
    (case l_require_row => k_is)
    (case c_require_row => k_is)
    (case k_require_row => k_is)
    (case a_nearest => k_is)
    (case l_nearest => k_is)
    (case c_nearest => k_is)
    (case k_nearest => k_is)
    (case a_end_of => k_is)
    (case l_end_of => k_is)
    (case c_end_of => k_is)
    (case k_end_of => k_is)
    (case a_effect_of => k_is)
    (case l_effect_of => k_is)
    (case c_effect_of => k_is)
    (case k_effect_of => k_is)
    (case a_require_number => k_is)
    (case l_require_number => k_is)
    (case c_require_number => k_is)
    (case k_require_number => k_is)
    (case a_farthest => k_is)
    (case l_farthest => k_is)
    (case c_farthest => k_is)
    (case k_farthest => k_is)
    (case a_greatest_scroll => k_is)
    (case l_greatest_scroll => k_is)
    (case c_greatest_scroll => k_is)
    (case k_greatest_scroll => k_is)
    (case a_fewest_for => k_is)
    (case l_fewest_for => k_is)
    (case c_fewest_for => k_is)
    (case k_fewest_for => k_is)
    (case a_require_pair => k_is)
    (case l_require_pair => k_is)
    (case c_require_pair => k_is)
    (case k_require_pair => k_is)
    (case a_counts_of => k_is)
    (case l_counts_of => k_is)
    (case c_counts_of => k_is)
    (case k_counts_of => k_is)
    (case a_count_rows => k_is)
    (case l_count_rows => k_is)
    (case c_count_rows => k_is)
    (case k_count_rows => k_is)
    (case a_count_sure => k_is)
    (case l_count_sure => k_is)
    (case c_count_sure => k_is)
    (case k_count_sure => k_is)
    (case a_classes => k_is)
    (case l_classes => k_is)
    (case c_classes => k_is)
    (case k_classes => k_is)
    (case a_require_items => k_is)
    (case l_require_items => k_is)
    (case c_require_items => k_is)
    (case k_require_items => k_is)
    (case a_common => k_is)
    (case l_common => k_is)
    (case c_common => k_is)
    (case k_common => k_is)
    (case a_require_heights => k_is)
    (case l_require_heights => k_is)
    (case c_require_heights => k_is)
    (case k_require_heights => k_is)
    (case a_ranges_of => k_is)
    (case l_ranges_of => k_is)
    (case c_ranges_of => k_is)
    (case k_ranges_of => k_is)
    (case a_windows_together => k_is)
    (case l_windows_together => k_is)
    (case c_windows_together => k_is)
    (case k_windows_together => k_is)
    (case a_windows_alike => k_is)
    (case l_windows_alike => k_is)
    (case c_windows_alike => k_is)
    (case k_windows_alike => k_is)
    (case a_law_source => k_is)
    (case l_law_source => k_is)
    (case c_law_source => k_is)
    (case k_law_source => k_is)
    (case a_law_pick => k_is)
    (case l_law_pick => k_is)
    (case c_law_pick => k_is)
    (case k_law_pick => k_is)
    (case a_law_error_name => k_is)
    (case l_law_error_name => k_is)
    (case c_law_error_name => k_is)
    (case k_law_error_name => k_is)
    (case a_law_view => k_is)
    (case l_law_view => k_is)
    (case c_law_view => k_is)
    (case k_law_view => k_is)
    (case a_law_one => k_is)
    (case l_law_one => k_is)
    (case c_law_one => k_is)
    (case k_law_one => k_is)
    (case a_law_outcome_of => k_is)
    (case l_law_outcome_of => k_is)
    (case c_law_outcome_of => k_is)
    (case k_law_outcome_of => k_is)
    (case a_law_rows_right => k_is)
    (case l_law_rows_right => k_is)
    (case c_law_rows_right => k_is)
    (case k_law_rows_right => k_is)
    (case a_law_bounds_right => k_is)
    (case l_law_bounds_right => k_is)
    (case c_law_bounds_right => k_is)
    (case k_law_bounds_right => k_is)
    (case a_law => k_is)
    (case l_law => k_is)
    (case c_law => k_is)
    (case k_law => k_is)

