import PyProof.Rows.All
import Wide.All
import OpenK.AllK
import Wide.FinOn
import KE.SortData
import HandS.Base
import HandS.Call
import HandS.List
import HandS.Comp
import HandS.Ends
import HandS.Dict
import HandS.Iter
import HandS.Text
import HandS.Words
import HandS.Walk
import HandS.Codes
import HandS.More
import HandS.Conv
import HandS.NoneIn
import HandS.StrMore
import KE.GoesEnum
import HandS.TupSets
import HandS.SetFor
import HandS.Wide
import HandS.WideBits
import HandS.IsInst
import HandS.TupAny
import HandS.TupLen
import HandS.AnyAll
import HandS.WordsDict
import PyProof.Rows.RegReprOcc
import KE.KDictDisplayH
import KE.KDictCopyH
import KE.KDictList
import PySem.Challenge.RW_twothreads_k23_whole_alike_runs_by_all_e
set_option Elab.async false
set_option linter.all false
set_option maxRecDepth 100000
set_option maxHeartbeats 4000000
/-! Base1 -/
/-! My own layer: immutable data by Dp over a frozen part F below the heap. -/
namespace TT
open PySem PySem.Spec PyProof.Rows L2

abbrev D := PyData

/-! ### heaps -/
def Ex (H H' : Hp) : Prop := ∀ a o, H a = some o → H' a = some o
theorem Ex.refl (H : Hp) : Ex H H := fun _ _ h => h
theorem Ex.trans {H H1 H2 : Hp} (a : Ex H H1) (b : Ex H1 H2) : Ex H H2 := fun x o h => b x o (a x o h)
theorem Ex.free {F H : Hp} (e : Ex F H) {p : Addr} (h : H p = none) : F p = none := by
  cases q : F p with
  | none => rfl
  | some o => rw [e p o q] at h; cases h
theorem Ex.upd {F H : Hp} (e : Ex F H) {p : Addr} {o : HO} (h : F p = none) : Ex F (upd H p o) := fun a u q => by
  rw [upd_ne (ne_of_none q h)]
  exact e a u q
theorem Ex.new {H : Hp} {p : Addr} {o : HO} (h : H p = none) : Ex H (L2.upd H p o) := (Ex.refl H).upd h
theorem Ex.both {F H : Hp} (e : Ex F H) {p : Addr} {o : HO} (h : H p = none) : Ex (L2.upd F p o) (L2.upd H p o) := fun a u q => by
  by_cases hp : a = p
  · subst hp; rw [upd_same] at q ⊢; exact q
  · rw [upd_ne hp] at q ⊢; exact e a u q
/-- what stands at p is taken for frozen from here on -/
theorem Ex.fix {F H : Hp} (e : Ex F H) {p : Addr} {o : HO} (h : H p = some o) : Ex (L2.upd F p o) H := fun a u q => by
  by_cases hp : a = p
  · subst hp; rw [upd_same] at q; rw [h]; exact q
  · rw [upd_ne hp] at q; exact e a u q
theorem ex_rd {F H : Hp} {a : Addr} {u : HO} (e : Ex F H) (h : Rd F a u) : Rd H a u := by
  rcases h with h | ⟨o, h⟩
  · exact .inl (e a _ h)
  · exact .inr ⟨o, e a _ h⟩
theorem ex_l {K : PySem.W.Frag} {F H : Hp} {a : Addr} {xs : List V} (e : Ex F H) (h : SqL K F a xs) : SqL K H a xs := by
  rcases h with h | h
  · exact .inl (ex_rd e h)
  · exact .inr h
theorem ex_t {K : PySem.W.Frag} {F H : Hp} {a : Addr} {xs : List V} (e : Ex F H) (h : SqT K F a xs) : SqT K H a xs := by
  rcases h with h | h
  · exact .inl (ex_rd e h)
  · exact .inr h

/-! ### data -/
section
variable {K : PySem.W.Frag} {F F' H : Hp}
mutual
theorem dp_ex (e : Ex F F') : ∀ (d : D) (v : V), Dp K F v d → Dp K F' v d
  | .none, _, h => by cases h; exact .non
  | .bool b, _, h => by cases h; exact .bl b
  | .int i, _, h => by cases h; exact .int i
  | .str x, _, h => by cases h; exact .str x
  | .list ds, _, h => by
    cases h with
    | lst hs ha => exact .lst (ex_l e hs) (dpa_ex e ds _ ha)
  | .tuple ds, _, h => by
    cases h with
    | tup hs ha => exact .tup (ex_t e hs) (dpa_ex e ds _ ha)
  | .dict _, _, h => by cases h
theorem dpa_ex (e : Ex F F') : ∀ (ds : List D) (vs : List V), DpAll K F vs ds → DpAll K F' vs ds
  | [], _, h => by cases h; exact .nil
  | d :: ds, _, h => by
    cases h with
    | cons h1 h2 => exact .cons (dp_ex e d _ h1) (dpa_ex e ds _ h2)
end
end
end TT
namespace L2
section
open PySem
variable {K : PySem.W.Frag} {F F' H : Hp}
theorem Dp.ex {d : PyData} {v : V} (h : Dp K F v d) (e : TT.Ex F F') : Dp K F' v d := TT.dp_ex e d v h
theorem DpAll.ex {ds : List PyData} {vs : List V} (h : DpAll K F vs ds) (e : TT.Ex F F') : DpAll K F' vs ds := TT.dpa_ex e ds vs h
theorem DpAll.len : ∀ {vs : List V} {ds : List PyData}, DpAll K F vs ds → vs.length = ds.length
  | _, _, .nil => rfl
  | _, _, .cons _ t => by rw [List.length_cons, List.length_cons, DpAll.len t]
theorem DpAll.get : ∀ {vs : List V} {ds : List PyData} {i : Nat} {d : PyData}, DpAll K F vs ds → ds[i]? = some d → ∃ v, vs[i]? = some v ∧ Dp K F v d
  | _, _, _, _, .nil, e => by simp at e
  | _, _, 0, _, .cons h _, e => by simp at e; subst e; exact ⟨_, rfl, h⟩
  | _, _, i + 1, _, .cons _ t, e => by simpa using DpAll.get (i := i) t (by simpa using e)
theorem DpAll.get' {vs : List V} {ds : List PyData} {i : Nat} {v : V} (h : DpAll K F vs ds) (e : vs[i]? = some v) : ∃ d, ds[i]? = some d ∧ Dp K F v d := by
  have hi : i < vs.length := (List.getElem?_eq_some_iff.mp e).1
  rw [h.len] at hi
  obtain ⟨v', e', q⟩ := h.get (List.getElem?_eq_getElem hi)
  rw [e] at e'; cases e'
  exact ⟨_, List.getElem?_eq_getElem hi, q⟩
theorem DpAll.app : ∀ {vs us : List V} {ds es : List PyData}, DpAll K F vs ds → DpAll K F us es → DpAll K F (vs ++ us) (ds ++ es)
  | _, _, _, _, .nil, h => h
  | _, _, _, _, .cons a t, h => .cons a (DpAll.app t h)
theorem DpAll.snoc {vs : List V} {ds : List PyData} {v : V} {d : PyData} (h : DpAll K F vs ds) (q : Dp K F v d) : DpAll K F (vs ++ [v]) (ds ++ [d]) := h.app (.cons q .nil)
theorem DpAll.drop : ∀ {vs : List V} {ds : List PyData} (n : Nat), DpAll K F vs ds → DpAll K F (vs.drop n) (ds.drop n)
  | _, _, 0, h => h
  | _, _, _ + 1, .nil => .nil
  | _, _, n + 1, .cons _ t => DpAll.drop n t
theorem DpAll.take : ∀ {vs : List V} {ds : List PyData} (n : Nat), DpAll K F vs ds → DpAll K F (vs.take n) (ds.take n)
  | _, _, 0, _ => .nil
  | _, _, _ + 1, .nil => .nil
  | _, _, n + 1, .cons h t => .cons h (DpAll.take n t)
theorem DpAll.erase : ∀ {vs : List V} {ds : List PyData} (n : Nat), DpAll K F vs ds → DpAll K F (vs.eraseIdx n) (ds.eraseIdx n)
  | _, _, _, .nil => .nil
  | _, _, 0, .cons _ t => t
  | _, _, n + 1, .cons h t => .cons h (DpAll.erase n t)
theorem DpAll.dropLast {vs : List V} {ds : List PyData} (h : DpAll K F vs ds) : DpAll K F vs.dropLast ds.dropLast := by
  rw [List.dropLast_eq_take, List.dropLast_eq_take, h.len]
  exact h.take _
end
end L2
namespace TT
open PySem PySem.Spec PyProof.Rows L2
section
variable {K : PySem.W.Frag} {F F' H : Hp}
theorem dpa_map {α : Type} {f : α → V} {g : α → D} (h : ∀ a, Dp K F (f a) (g a)) : ∀ l : List α, DpAll K F (l.map f) (l.map g)
  | [] => .nil
  | a :: l => .cons (h a) (dpa_map h l)
theorem dp_int {v : V} {i : Int} (h : Dp K F v (.int i)) : v = .int i := by cases h; rfl
theorem dp_str {v : V} {x : Str} (h : Dp K F v (.str x)) : v = .str x := by cases h; rfl
theorem dp_bl {v : V} {b : Bool} (h : Dp K F v (.bool b)) : v = .bl b := by cases h; rfl
theorem dp_lst {v : V} {ds : List D} (h : Dp K F v (.list ds)) : ∃ a vs, v = .ref a ∧ SqL K F a vs ∧ DpAll K F vs ds := by
  cases h with
  | lst h1 h2 => exact ⟨_, _, rfl, h1, h2⟩
theorem dp_tup {v : V} {ds : List D} (h : Dp K F v (.tuple ds)) : ∃ a vs, v = .ref a ∧ SqT K F a vs ∧ DpAll K F vs ds := by
  cases h with
  | tup h1 h2 => exact ⟨_, _, rfl, h1, h2⟩
theorem dpa_ints : ∀ {vs : List V} {ns : List Int}, DpAll K F vs (ns.map .int) → vs = ns.map V.int
  | _, [], h => by cases h; rfl
  | _, n :: ns, h => by
    cases h with
    | cons h1 h2 => rw [dp_int h1, dpa_ints h2]; rfl
theorem dpa_strs : ∀ {vs : List V} {ns : List Str}, DpAll K F vs (ns.map .str) → vs = ns.map V.str
  | _, [], h => by cases h; rfl
  | _, n :: ns, h => by
    cases h with
    | cons h1 h2 => rw [dp_str h1, dpa_strs h2]; rfl
theorem dpa_bls : ∀ {vs : List V} {ns : List Bool}, DpAll K F vs (ns.map .bool) → vs = ns.map V.bl
  | _, [], h => by cases h; rfl
  | _, n :: ns, h => by
    cases h with
    | cons h1 h2 => rw [dp_bl h1, dpa_bls h2]; rfl
theorem dpa_nil {vs : List V} (h : DpAll K F vs []) : vs = [] := by cases h; rfl
theorem dpa_cons {vs : List V} {d : D} {ds : List D} (h : DpAll K F vs (d :: ds)) : ∃ v us, vs = v :: us ∧ Dp K F v d ∧ DpAll K F us ds := by
  cases h with
  | cons h1 h2 => exact ⟨_, _, rfl, h1, h2⟩
end

/-! ### growth: what is frozen grows, what is tracked stays; nothing that was tracked becomes frozen -/
structure Gr (F H F' H' : Hp) : Prop where
  ff : Ex F F'
  fh : Ex F' H'
  hh : Ex H H'
  nw : ∀ a, H a ≠ none → F' a = F a
section
variable {F H F1 H1 F2 H2 : Hp} {p : Addr} {o : HO}
theorem Gr.refl (e : Ex F H) : Gr F H F H := ⟨Ex.refl F, e, Ex.refl H, fun _ _ => rfl⟩
theorem ne_none_ex {a : Addr} (e : Ex H H1) (h : H a ≠ none) : H1 a ≠ none := by
  cases q : H a with
  | none => exact absurd q h
  | some o => rw [e a o q]; exact fun z => nomatch z
theorem Gr.trans (a : Gr F H F1 H1) (b : Gr F1 H1 F2 H2) : Gr F H F2 H2 :=
  ⟨a.ff.trans b.ff, b.fh, a.hh.trans b.hh, fun x hx => (b.nw x (ne_none_ex a.hh hx)).trans (a.nw x hx)⟩
/-- a new object, frozen at once -/
theorem Gr.new (e : Ex F H) (h : H p = none) : Gr F H (upd F p o) (upd H p o) :=
  ⟨Ex.new (e.free h), e.both h, Ex.new h, fun a ha => upd_ne (show a ≠ p from fun z => ha (by rw [z]; exact h))⟩
/-- a new object that may change -/
theorem Gr.mut (e : Ex F H) (h : H p = none) : Gr F H F (upd H p o) := ⟨Ex.refl F, e.upd (e.free h), Ex.new h, fun _ _ => rfl⟩
/-- a new object is frozen later -/
theorem Gr.fix (g : Gr F H F1 H1) (h : H p = none) (hf : F1 p = none) (h1 : H1 p = some o) : Gr F H (upd F1 p o) H1 :=
  ⟨g.ff.trans (Ex.new hf), g.fh.fix h1, g.hh, fun a ha => by rw [upd_ne (show a ≠ p from fun z => ha (by rw [z]; exact h))]; exact g.nw a ha⟩
/-- a new object changes -/
theorem Gr.put (g : Gr F H F1 H1) (h : H p = none) (hf : F1 p = none) : Gr F H F1 (upd H1 p o) := ⟨g.ff, g.fh.upd hf, g.hh.upd h, g.nw⟩
theorem Gr.e0 (g : Gr F H F1 H1) (e : Ex F H) : Ex F H1 := e.trans g.hh
end

/-! ### a frame's slots -/
inductive SV where
  /-- nothing is known -/
  | un
  /-- it holds this data -/
  | dat (d : D)
  /-- it holds this value -/
  | val (v : V)
  /-- it holds something of which this is known -/
  | rel (R : Hp → V → Prop)
def SOk (K : PySem.W.Frag) (F : Hp) : Option V → SV → Prop
  | _, .un => True
  | some v, .dat d => Dp K F v d
  | some v, .val u => v = u
  | some v, .rel R => (∀ F F' v, Ex F F' → R F v → R F' v) ∧ R F v
  | none, _ => False
def SO (K : PySem.W.Frag) (F : Hp) (σ : L2.St) (es : List SV) : Prop := Paired (SOk K F) σ es
section
variable {K : PySem.W.Frag} {F F' : Hp} {σ : L2.St} {es : List SV} {i : Nat} {v : V} {d : D}
theorem SOk.ex {o : Option V} {s : SV} (h : SOk K F o s) (e : Ex F F') : SOk K F' o s := by
  cases s with
  | un => exact trivial
  | dat d =>
    cases o with
    | none => exact h
    | some v => exact (show Dp K F v d from h).ex e
  | val u =>
    cases o with
    | none => exact h
    | some v => exact h
  | rel R =>
    cases o with
    | none => exact h
    | some v => exact ⟨h.1, h.1 _ _ _ e h.2⟩
theorem SO.ex (so : SO K F σ es) (e : Ex F F') : SO K F' σ es := Paired.mapP so fun _ _ h => h.ex e
theorem SO.at : ∀ {σ : L2.St} {es : List SV} {i : Nat} {s : SV}, SO K F σ es → es[i]? = some s → ∃ o, σ[i]? = some o ∧ SOk K F o s
  | _, _, _, _, .nil, e => by simp at e
  | _, _, 0, _, .cons h _, e => by simp at e; subst e; exact ⟨_, rfl, h⟩
  | _, _, i + 1, _, .cons _ t, e => by simpa using SO.at (i := i) t (by simpa using e)
theorem SO.dat (so : SO K F σ es) (h : es[i]? = some (.dat d)) : ∃ v, σ[i]? = some (some v) ∧ Dp K F v d := by
  obtain ⟨o, h1, h2⟩ := so.at h
  cases o with
  | none => exact (show False from h2).elim
  | some v => exact ⟨v, h1, h2⟩
theorem SO.val (so : SO K F σ es) (h : es[i]? = some (.val v)) : σ[i]? = some (some v) := by
  obtain ⟨o, h1, h2⟩ := so.at h
  cases o with
  | none => exact (show False from h2).elim
  | some u => rw [h1, show u = v from h2]
theorem SO.setO {o : Option V} {s : SV} (h : SOk K F o s) : ∀ {σ : L2.St} {es : List SV} (i : Nat), SO K F σ es → SO K F (σ.set i o) (es.set i s)
  | _, _, _, .nil => .nil
  | _, _, 0, .cons _ t => .cons h t
  | _, _, i + 1, .cons q t => .cons q (SO.setO h i t)
theorem SO.set (so : SO K F σ es) (i : Nat) (h : Dp K F v d) : SO K F (σ.set i (some v)) (es.set i (.dat d)) := SO.setO (s := .dat d) (o := some v) h i so
theorem SO.setV (so : SO K F σ es) (i : Nat) (v : V) : SO K F (σ.set i (some v)) (es.set i (.val v)) := SO.setO (s := .val v) (o := some v) rfl i so
theorem SO.setU (so : SO K F σ es) (i : Nat) (o : Option V) : SO K F (σ.set i o) (es.set i .un) := SO.setO (s := .un) (o := o) trivial i so
/-- knowing less -/
def le1 : SV → SV → Prop
  | _, .un => True
  | a, b => a = b
theorem SOk.weak {o : Option V} {a b : SV} (h : SOk K F o a) (q : le1 a b) : SOk K F o b := by
  cases b with
  | un => exact trivial
  | dat d => rw [← show a = .dat d from q]; exact h
  | val d => rw [← show a = .val d from q]; exact h
  | rel d => rw [← show a = .rel d from q]; exact h
theorem SO.rel {R : Hp → V → Prop} (so : SO K F σ es) (h : es[i]? = some (.rel R)) : ∃ v, σ[i]? = some (some v) ∧ R F v ∧ ∀ F F' v, Ex F F' → R F v → R F' v := by
  obtain ⟨o, h1, h2⟩ := so.at h
  cases o with
  | none => exact (show False from h2).elim
  | some v => exact ⟨v, h1, h2.2, h2.1⟩
theorem SO.setR {R : Hp → V → Prop} (so : SO K F σ es) (i : Nat) (hm : ∀ F F' v, Ex F F' → R F v → R F' v) (h : R F v) : SO K F (σ.set i (some v)) (es.set i (.rel R)) := SO.setO (s := .rel R) (o := some v) ⟨hm, h⟩ i so
theorem SO.weak : ∀ {σ : L2.St} {es fs : List SV}, SO K F σ es → Paired le1 es fs → SO K F σ fs
  | _, _, _, .nil, .nil => .nil
  | _, _, _, .cons h t, .cons q r => .cons (h.weak q) (SO.weak t r)
def wipeE (es : List SV) : List Nat → List SV
  | [] => es
  | v :: vs => (wipeE es vs).set v .un
theorem SO.wipe (so : SO K F σ es) : ∀ vs : List Nat, SO K F (L2.wipe σ vs) (wipeE es vs)
  | [] => so
  | v :: vs => (SO.wipe so vs).setU v none
theorem so_start : ∀ {vs : List V} {ds : List D} (n : Nat), DpAll K F vs ds → SO K F (vs.map some ++ List.replicate n none) (ds.map SV.dat ++ List.replicate n .un)
  | _, _, n, .nil => by
    show SO K F ([] ++ List.replicate n none) ([] ++ List.replicate n .un)
    rw [List.nil_append, List.nil_append]
    induction n with
    | zero => exact .nil
    | succ n ih => exact .cons trivial ih
  | _, _, n, .cons h t => .cons h (so_start n t)
end

/-! ### what evaluates to what -/
/-- to this value -/
def EvV (te : TE) (σ : L2.St) (F B : Hp) (v : V) : Prop := ∀ F1 H1, Gr F B F1 H1 → ∀ Q : VK, (∀ F2 H2, Gr F1 H1 F2 H2 → Q v H2) → te σ H1 Q
/-- to this data -/
def EvD (K : PySem.W.Frag) (te : TE) (σ : L2.St) (F B : Hp) (d : D) : Prop := ∀ F1 H1, Gr F B F1 H1 → ∀ Q : VK, (∀ v F2 H2, Gr F1 H1 F2 H2 → Dp K F2 v d → Q v H2) → te σ H1 Q
/-- to a new list, not frozen yet -/
def EvN (K : PySem.W.Frag) (te : TE) (σ : L2.St) (F B : Hp) (ds : List D) : Prop :=
  ∀ F1 H1, Gr F B F1 H1 → ∀ Q : VK, (∀ p vs F2 H2, Gr F1 H1 F2 H2 → H1 p = none → F2 p = none → H2 p = some (.lst vs) → DpAll K F2 vs ds → Q (.ref p) H2) → te σ H1 Q
/-- a test -/
def EvT (tt : TT) (σ : L2.St) (F B : Hp) (b : Bool) : Prop := ∀ F1 H1, Gr F B F1 H1 → ∀ Q : Bool → Hp → Prop, (∀ F2 H2, Gr F1 H1 F2 H2 → Q b H2) → tt σ H1 Q
/-- arguments -/
def EvA (K : PySem.W.Frag) (ta : TA) (σ : L2.St) (F B : Hp) (ds : List D) : Prop := ∀ F1 H1, Gr F B F1 H1 → ∀ Q : List V → Hp → Prop, (∀ vs F2 H2, Gr F1 H1 F2 H2 → DpAll K F2 vs ds → Q vs H2) → ta σ H1 Q
/-- an optional part of a slice -/
def EvO (to : TO) (σ : L2.St) (F B : Hp) (o : Option Int) : Prop := ∀ F1 H1, Gr F B F1 H1 → ∀ Q : Option Int → Hp → Prop, (∀ F2 H2, Gr F1 H1 F2 H2 → Q o H2) → to σ H1 Q
/-- by values: two places, one place, a list of arguments -/
def R2D (K : PySem.W.Frag) (r : R2) (x y : D) (F B : Hp) (z : D) : Prop := ∀ F1 H1, Gr F B F1 H1 → ∀ u v, Dp K F1 u x → Dp K F1 v y → ∀ Q : VK, (∀ w F2 H2, Gr F1 H1 F2 H2 → Dp K F2 w z → Q w H2) → r u v H1 Q
def RCD (K : PySem.W.Frag) (r : List V → Hp → VK → Prop) (ds : List D) (F B : Hp) (z : D) : Prop := ∀ F1 H1, Gr F B F1 H1 → ∀ vs, DpAll K F1 vs ds → ∀ Q : VK, (∀ w F2 H2, Gr F1 H1 F2 H2 → Dp K F2 w z → Q w H2) → r vs H1 Q
def RCN (K : PySem.W.Frag) (r : List V → Hp → VK → Prop) (ds : List D) (F B : Hp) (zs : List D) : Prop := ∀ F1 H1, Gr F B F1 H1 → ∀ vs, DpAll K F1 vs ds → ∀ Q : VK, (∀ p us F2 H2, Gr F1 H1 F2 H2 → H1 p = none → F2 p = none → H2 p = some (.lst us) → DpAll K F2 us zs → Q (.ref p) H2) → r vs H1 Q

section
variable {K : PySem.W.Frag} {σ : L2.St} {es : List SV} {F B F' B' : Hp} {ta tb te tx tc : TE} {t u : TT} {x y z d : D} {v : V} {r r' : R2} {i : Nat}
theorem EvD.gr (h : EvD K te σ F B d) (g : Gr F B F' B') : EvD K te σ F' B' d := fun F1 H1 a => h F1 H1 (g.trans a)
theorem EvV.gr (h : EvV te σ F B v) (g : Gr F B F' B') : EvV te σ F' B' v := fun F1 H1 a => h F1 H1 (g.trans a)
theorem EvN.gr {ds : List D} (h : EvN K te σ F B ds) (g : Gr F B F' B') : EvN K te σ F' B' ds := fun F1 H1 a => h F1 H1 (g.trans a)
theorem EvT.gr {b : Bool} (h : EvT t σ F B b) (g : Gr F B F' B') : EvT t σ F' B' b := fun F1 H1 a => h F1 H1 (g.trans a)
theorem EvA.gr {ta : TA} {ds : List D} (h : EvA K ta σ F B ds) (g : Gr F B F' B') : EvA K ta σ F' B' ds := fun F1 H1 a => h F1 H1 (g.trans a)
theorem EvD.eq (h : EvD K te σ F B d) (e : d = x) : EvD K te σ F B x := e ▸ h
theorem EvT.eq {b c : Bool} (h : EvT t σ F B b) (e : b = c) : EvT t σ F B c := e ▸ h
theorem EvV.toD (h : EvV te σ F B v) (k : Dp K F v d) : EvD K te σ F B d := fun F1 H1 a Q q => h F1 H1 a Q fun F2 H2 g => q v F2 H2 g ((k.ex a.ff).ex g.ff)
theorem EvN.toD {ds : List D} (h : EvN K te σ F B ds) : EvD K te σ F B (.list ds) := fun F1 H1 a Q q => h F1 H1 a Q fun p vs F2 H2 g hp hf h2 k =>
  q (.ref p) (upd F2 p (.lst vs)) H2 (g.fix hp hf h2) (.lst (SqL.of upd_same) (k.ex (Ex.new hf)))
theorem ev_var (so : SO K F σ es) (h : es[i]? = some (.dat d)) : EvD K (tVar i) σ F B d := fun F1 H1 a Q q => by
  obtain ⟨v, h1, h2⟩ := so.dat h
  exact ⟨v, h1, q v F1 H1 (Gr.refl a.fh) (h2.ex a.ff)⟩
theorem ev_val (so : SO K F σ es) (h : es[i]? = some (.val v)) : EvV (tVar i) σ F B v := fun F1 H1 a Q q => ⟨v, so.val h, q F1 H1 (Gr.refl a.fh)⟩
theorem ev_int (k : Int) : EvD K (tC (.int k)) σ F B (.int k) := fun F1 H1 a Q q => q _ F1 H1 (Gr.refl a.fh) (.int k)
theorem ev_str (k : Str) : EvD K (tC (.str k)) σ F B (.str k) := fun F1 H1 a Q q => q _ F1 H1 (Gr.refl a.fh) (.str k)
theorem ev_bl (k : Bool) : EvD K (tC (.bl k)) σ F B (.bool k) := fun F1 H1 a Q q => q _ F1 H1 (Gr.refl a.fh) (.bl k)
theorem ev_op (ha : EvD K ta σ F B x) (hb : EvD K tb σ F B y) (hr : R2D K r x y F B z) : EvD K (tOp r ta tb) σ F B z := fun F1 H1 a Q q =>
  ha F1 H1 a _ fun u F2 H2 g2 h2 => hb F2 H2 (a.trans g2) _ fun v F3 H3 g3 h3 => hr F3 H3 ((a.trans g2).trans g3) u v (h2.ex g3.ff) h3 Q fun w F4 H4 g4 h4 => q w F4 H4 ((g2.trans g3).trans g4) h4
theorem r2_val (h : ∀ u v, ∀ F1 H1, Gr F B F1 H1 → Dp K F1 u x → Dp K F1 v y → ∃ w, Dp K F1 w z ∧ ∀ Q : VK, Q w H1 → r u v H1 Q) : R2D K r x y F B z := fun F1 H1 a u v hu hv Q q => by
  obtain ⟨w, hw, k⟩ := h u v F1 H1 a hu hv
  exact k Q (q w F1 H1 (Gr.refl a.fh) hw)
theorem r2_I {C : Int → Int → Prop} {g : Int → Int → Int} {m n : Int} (hc : C m n) : R2D K (rI C fun i j => .int (g i j)) (.int m) (.int n) F B (.int (g m n)) :=
  r2_val fun u v F1 H1 a hu hv => ⟨.int (g m n), .int _, fun Q q => ⟨m, n, dp_int hu, dp_int hv, hc, q⟩⟩
theorem r2_I0 {g : Int → Int → Int} {m n : Int} : R2D K (rI0 fun i j => .int (g i j)) (.int m) (.int n) F B (.int (g m n)) :=
  r2_val fun u v F1 H1 a hu hv => ⟨.int (g m n), .int _, fun Q q => ⟨m, n, dp_int hu, dp_int hv, q⟩⟩
theorem r2_B0 {g : Int → Int → Bool} {m n : Int} : R2D K (rI0 fun i j => .bl (g i j)) (.int m) (.int n) F B (.bool (g m n)) :=
  r2_val fun u v F1 H1 a hu hv => ⟨.bl (g m n), .bl _, fun Q q => ⟨m, n, dp_int hu, dp_int hv, q⟩⟩
theorem dec_vint {m n : Int} : decide (V.int m = V.int n) = decide (m = n) := by by_cases h : m = n <;> simp [h]
theorem dec_vstr {m n : Str} : decide (V.str m = V.str n) = decide (m = n) := by by_cases h : m = n <;> simp [h]
theorem dec_vbl {m n : Bool} : decide (V.bl m = V.bl n) = decide (m = n) := by by_cases h : m = n <;> simp [h]
theorem r2_eqI {m n : Int} : R2D K rEq (.int m) (.int n) F B (.bool (decide (m = n))) :=
  r2_val fun u v F1 H1 a hu hv => ⟨_, .bl _, fun Q q => by rw [dp_int hu, dp_int hv]; exact ⟨rfl, by rw [dec_vint]; exact q⟩⟩
theorem r2_neI {m n : Int} : R2D K rNe (.int m) (.int n) F B (.bool (!decide (m = n))) :=
  r2_val fun u v F1 H1 a hu hv => ⟨_, .bl _, fun Q q => by rw [dp_int hu, dp_int hv]; exact ⟨rfl, by rw [dec_vint]; exact q⟩⟩
theorem r2_eqS {m n : Str} : R2D K rEq (.str m) (.str n) F B (.bool (decide (m = n))) :=
  r2_val fun u v F1 H1 a hu hv => ⟨_, .bl _, fun Q q => by rw [dp_str hu, dp_str hv]; exact ⟨rfl, by rw [dec_vstr]; exact q⟩⟩
theorem r2_neS {m n : Str} : R2D K rNe (.str m) (.str n) F B (.bool (!decide (m = n))) :=
  r2_val fun u v F1 H1 a hu hv => ⟨_, .bl _, fun Q q => by rw [dp_str hu, dp_str hv]; exact ⟨rfl, by rw [dec_vstr]; exact q⟩⟩
theorem r2_neB {m n : Bool} : R2D K rNe (.bool m) (.bool n) F B (.bool (!decide (m = n))) :=
  r2_val fun u v F1 H1 a hu hv => ⟨_, .bl _, fun Q q => by rw [dp_bl hu, dp_bl hv]; exact ⟨rfl, by rw [dec_vbl]; exact q⟩⟩
theorem r2_eqD {dx dy : D} (h1 : SeqAt.shaped dx = true) (h2 : SeqAt.shaped dy = true) : R2D K (rEqD K) dx dy F B (.bool (PyData.eqv dx dy)) :=
  r2_val fun u v F1 H1 a hu hv => ⟨_, .bl _, fun Q q => ⟨dx, dy, hu.ex a.fh, hv.ex a.fh, h1, h2, q⟩⟩
theorem r2_neD {dx dy : D} (h1 : SeqAt.shaped dx = true) (h2 : SeqAt.shaped dy = true) : R2D K (rNeD K) dx dy F B (.bool (!PyData.eqv dx dy)) :=
  r2_val fun u v F1 H1 a hu hv => ⟨_, .bl _, fun Q q => ⟨dx, dy, hu.ex a.fh, hv.ex a.fh, h1, h2, q⟩⟩
theorem r2_addS {m n : Str} (h : m.length + n.length ≤ 100000) : R2D K (fun x y H Q => ∃ i j, x = .str i ∧ y = .str j ∧ i.length + j.length ≤ sizeLine ∧ Q (.str (i ++ j)) H) (.str m) (.str n) F B (.str (m ++ n)) :=
  r2_val fun u v F1 H1 a hu hv => ⟨_, .str _, fun Q q => ⟨m, n, dp_str hu, dp_str hv, Nat.le_trans h (by decide), q⟩⟩
theorem atI_dp {vs : List V} {ds : List D} {k : Int} {d : D} (h : DpAll K F vs ds) (e : atI ds k = some d) : ∃ v, atI vs k = some v ∧ Dp K F v d := by
  unfold atI at e ⊢
  rw [h.len]
  cases q : ixN ds.length k with
  | none => rw [q] at e; cases e
  | some j => rw [q] at e; exact h.get e
theorem r2_ixT {ds : List D} {k : Int} {d : D} (e : atI ds k = some d) : R2D K (rIxT K) (.tuple ds) (.int k) F B d := r2_val fun u v F1 H1 a hu hv => by
  obtain ⟨p, vs, rfl, h1, h2⟩ := dp_tup hu
  obtain ⟨w, e1, e2⟩ := atI_dp h2 e
  exact ⟨w, e2, fun Q q => ⟨p, vs, k, w, rfl, dp_int hv, ex_t a.fh h1, e1, q⟩⟩
theorem r2_ixL {ds : List D} {k : Int} {d : D} (e : atI ds k = some d) : R2D K (rIxL K) (.list ds) (.int k) F B d := r2_val fun u v F1 H1 a hu hv => by
  obtain ⟨p, vs, rfl, h1, h2⟩ := dp_lst hu
  obtain ⟨w, e1, e2⟩ := atI_dp h2 e
  exact ⟨w, e2, fun Q q => ⟨p, vs, k, w, rfl, dp_int hv, ex_l a.fh h1, e1, q⟩⟩
theorem r2_ixS {s : Str} {k : Int} {c : Nat} (hz : s.length ≤ 100000) (e : atI s.cps.toList k = some c) : R2D K rIxS (.str s) (.int k) F B (.str ⟨#[c]⟩) :=
  r2_val fun u v F1 H1 a hu hv => ⟨_, .str _, fun Q q => ⟨s, k, c, dp_str hu, dp_int hv, Nat.le_trans hz (by decide), e, q⟩⟩
theorem flat_dp {v : V} {d : D} (h : Dp K F v d) (hf : ∀ ds, d ≠ .list ds ∧ d ≠ .tuple ds) : flatV v = true := by
  cases h with
  | lst _ _ => exact absurd rfl (hf _).1
  | tup _ _ => exact absurd rfl (hf _).2
  | _ => rfl
/-- a text in a tuple or list of texts -/
theorem inV_strs (m : Str) : ∀ ns : List Str, inV (.str m) (ns.map V.str) = decide (m ∈ ns)
  | [] => by simp [inV]
  | n :: ns => by
    have ih := inV_strs m ns
    unfold inV at ih ⊢
    rw [List.map_cons, List.any_cons, ih]
    have e : eqV (V.str n) (V.str m) = decide (n = m) := by
      show (n == m) = _
      exact Bool.beq_eq_decide_eq n m
    rw [e]
    by_cases h : n = m
    · simp [h]
    · have h' : ¬ m = n := fun z => h z.symm
      simp [h, h']
theorem all_flat (ns : List Str) : (ns.map V.str).all flatV = true := by
  rw [List.all_eq_true]
  intro v hv
  obtain ⟨n, _, rfl⟩ := List.mem_map.mp hv
  rfl
theorem r2_inT {m : Str} {ns : List Str} : R2D K (rIn K false) (.str m) (.tuple (ns.map .str)) F B (.bool (decide (m ∈ ns))) := r2_val fun u v F1 H1 a hu hv => by
  obtain ⟨p, vs, rfl, h1, h2⟩ := dp_tup hv
  have e := dpa_strs h2
  subst e
  refine ⟨_, .bl _, fun Q q => ⟨p, _, rfl, .inr (ex_t a.fh h1), by rw [dp_str hu]; rfl, all_flat ns, ?_⟩⟩
  rw [dp_str hu, inV_strs]
  exact q
theorem r2_inL {m : Str} {ns : List Str} : R2D K (rIn K false) (.str m) (.list (ns.map .str)) F B (.bool (decide (m ∈ ns))) := r2_val fun u v F1 H1 a hu hv => by
  obtain ⟨p, vs, rfl, h1, h2⟩ := dp_lst hv
  have e := dpa_strs h2
  subst e
  refine ⟨_, .bl _, fun Q q => ⟨p, _, rfl, .inl (ex_l a.fh h1), by rw [dp_str hu]; rfl, all_flat ns, ?_⟩⟩
  rw [dp_str hu, inV_strs]
  exact q
theorem r2_ninL {m : Str} {ns : List Str} : R2D K (rIn K true) (.str m) (.list (ns.map .str)) F B (.bool (!decide (m ∈ ns))) := r2_val fun u v F1 H1 a hu hv => by
  obtain ⟨p, vs, rfl, h1, h2⟩ := dp_lst hv
  have e := dpa_strs h2
  subst e
  refine ⟨_, .bl _, fun Q q => ⟨p, _, rfl, .inl (ex_l a.fh h1), by rw [dp_str hu]; rfl, all_flat ns, ?_⟩⟩
  rw [dp_str hu, inV_strs]
  exact q
theorem r2_or {x y z : D} (h : R2D K r x y F B z) : R2D K (fun x y H Q => r x y H Q ∨ r' x y H Q) x y F B z := fun F1 H1 a u v hu hv Q q => .inl (h F1 H1 a u v hu hv Q q)

/-! tests -/
theorem et_test {b : Bool} (h : EvD K te σ F B (.bool b)) : EvT (tTest te) σ F B b := fun F1 H1 a Q q => h F1 H1 a _ fun v F2 H2 g k => ⟨b, dp_bl k, q F2 H2 g⟩
theorem et_B {b : Bool} (h : EvD K te σ F B (.bool b)) : EvT (tB te) σ F B b := fun F1 H1 a Q q => h F1 H1 a _ fun v F2 H2 g k => ⟨b, dp_bl k, q F2 H2 g⟩
theorem et_and {a b : Bool} (h1 : EvT t σ F B a) (h2 : a = true → EvT u σ F B b) : EvT (tAnd t u) σ F B (a && b) := fun F1 H1 g Q q => h1 F1 H1 g _ fun F2 H2 g2 => by
  cases a with
  | true => exact (show u σ H2 Q from h2 rfl F2 H2 (g.trans g2) Q fun F3 H3 g3 => q F3 H3 (g2.trans g3))
  | false => exact (show Q false H2 from q F2 H2 g2)
theorem et_or {a b : Bool} (h1 : EvT t σ F B a) (h2 : a = false → EvT u σ F B b) : EvT (tOr t u) σ F B (a || b) := fun F1 H1 g Q q => h1 F1 H1 g _ fun F2 H2 g2 => by
  cases a with
  | true => exact (show Q true H2 from q F2 H2 g2)
  | false => exact (show u σ H2 Q from h2 rfl F2 H2 (g.trans g2) Q fun F3 H3 g3 => q F3 H3 (g2.trans g3))
theorem et_not {a : Bool} (h : EvT t σ F B a) : EvT (tNot t) σ F B (!a) := fun F1 H1 g Q q => h F1 H1 g _ fun F2 H2 g2 => q F2 H2 g2
theorem ev_andV {a b : Bool} (h1 : EvD K ta σ F B (.bool a)) (h2 : a = true → EvD K tb σ F B (.bool b)) : EvD K (tAndV ta tb) σ F B (.bool (a && b)) := fun F1 H1 g Q q => h1 F1 H1 g _ fun v F2 H2 g2 k => ⟨a, dp_bl k, by
  cases a with
  | true => exact (show tb σ H2 Q from h2 rfl F2 H2 (g.trans g2) Q fun w F3 H3 g3 k3 => q w F3 H3 (g2.trans g3) k3)
  | false => exact (show Q (.bl false) H2 from q _ F2 H2 g2 (.bl _))⟩
theorem ev_orV {a b : Bool} (h1 : EvD K ta σ F B (.bool a)) (h2 : a = false → EvD K tb σ F B (.bool b)) : EvD K (tOrV ta tb) σ F B (.bool (a || b)) := fun F1 H1 g Q q => h1 F1 H1 g _ fun v F2 H2 g2 k => ⟨a, dp_bl k, by
  cases a with
  | true => exact (show Q (.bl true) H2 from q _ F2 H2 g2 (.bl _))
  | false => exact (show tb σ H2 Q from h2 rfl F2 H2 (g.trans g2) Q fun w F3 H3 g3 k3 => q w F3 H3 (g2.trans g3) k3)⟩
theorem ev_notV {a : Bool} (h1 : EvD K ta σ F B (.bool a)) : EvD K (tNotV ta) σ F B (.bool (!a)) := fun F1 H1 g Q q => h1 F1 H1 g _ fun v F2 H2 g2 k => ⟨a, dp_bl k, q _ F2 H2 g2 (.bl _)⟩
theorem ev_if {b : Bool} (h : EvT t σ F B b) (h1 : b = true → EvD K ta σ F B d) (h2 : b = false → EvD K tb σ F B d) : EvD K (tIf t ta tb) σ F B d := fun F1 H1 g Q q => h F1 H1 g _ fun F2 H2 g2 => by
  cases b with
  | true => exact (show ta σ H2 Q from h1 rfl F2 H2 (g.trans g2) Q fun w F3 H3 g3 k3 => q w F3 H3 (g2.trans g3) k3)
  | false => exact (show tb σ H2 Q from h2 rfl F2 H2 (g.trans g2) Q fun w F3 H3 g3 k3 => q w F3 H3 (g2.trans g3) k3)
/-- a op b op' c -/
theorem ev_chain {a b : Bool} (h1 : EvD K ta σ F B x) (h2 : EvD K tb σ F B y) (hr : R2D K r x y F B (.bool a)) (h3 : a = true → EvD K tc σ F B z) (hr' : a = true → R2D K r' y z F B (.bool b)) : EvD K (tChain r r' ta tb tc) σ F B (.bool (a && b)) := fun F1 H1 g Q q =>
  h1 F1 H1 g _ fun u F2 H2 g2 k2 => h2 F2 H2 (g.trans g2) _ fun v F3 H3 g3 k3 => hr F3 H3 ((g.trans g2).trans g3) u v (k2.ex g3.ff) k3 _ fun w F4 H4 g4 k4 => ⟨a, dp_bl k4, by
    cases a with
    | true => exact (show tc σ H4 _ from h3 rfl F4 H4 (((g.trans g2).trans g3).trans g4) _ fun w' F5 H5 g5 k5 => hr' rfl F5 H5 ((((g.trans g2).trans g3).trans g4).trans g5) v w' ((k3.ex g4.ff).ex g5.ff) k5 Q fun w'' F6 H6 g6 k6 => q w'' F6 H6 ((((g2.trans g3).trans g4).trans g5).trans g6) k6)
    | false => exact (show Q (.bl false) H4 from q _ F4 H4 ((g2.trans g3).trans g4) (.bl _))⟩

/-! arguments, displays -/
theorem ea_nil : EvA K tNil σ F B [] := fun F1 H1 g Q q => q [] F1 H1 (Gr.refl g.fh) .nil
theorem ea_cons {tr : TA} {ds : List D} (h : EvD K ta σ F B d) (hr : EvA K tr σ F B ds) : EvA K (tCons ta tr) σ F B (d :: ds) := fun F1 H1 g Q q =>
  h F1 H1 g _ fun v F2 H2 g2 k2 => hr F2 H2 (g.trans g2) _ fun vs F3 H3 g3 k3 => q _ F3 H3 (g2.trans g3) (.cons (k2.ex g3.ff) k3)
theorem ev_tup {ta : TA} {ds : List D} (h : EvA K ta σ F B ds) (hl : ds.length ≤ 100000 := by first | decide | (simp; done)) : EvD K (tTup ta) σ F B (.tuple ds) := fun F1 H1 g Q q =>
  h F1 H1 g _ fun vs F2 H2 g2 k2 => ⟨by rw [k2.len]; exact Nat.le_trans hl (by decide), fun p hp => q (.ref p) (upd F2 p (.tup vs)) _ (g2.trans (Gr.new g2.fh hp)) (.tup (SqT.of upd_same) (k2.ex (Ex.new (g2.fh.free hp))))⟩
theorem en_lst {ta : TA} {ds : List D} (h : EvA K ta σ F B ds) (hl : ds.length ≤ 100000 := by first | decide | (simp; done)) : EvN K (tLst ta) σ F B ds := fun F1 H1 g Q q =>
  h F1 H1 g _ fun vs F2 H2 g2 k2 => ⟨by rw [k2.len]; exact Nat.le_trans hl (by decide), fun p hp => q p vs F2 _ (g2.trans (Gr.mut g2.fh hp)) (g2.hh.free hp) (g2.fh.free hp) upd_same k2⟩
theorem ev_lst {ta : TA} {ds : List D} (h : EvA K ta σ F B ds) (hl : ds.length ≤ 100000 := by first | decide | (simp; done)) : EvD K (tLst ta) σ F B (.list ds) := (en_lst h hl).toD
theorem ev_cb {r : List V → Hp → VK → Prop} {ta : TA} {ds : List D} (h : EvA K ta σ F B ds) (hr : RCD K r ds F B z) : EvD K (tCB r ta) σ F B z := fun F1 H1 g Q q =>
  h F1 H1 g _ fun vs F2 H2 g2 k2 => hr F2 H2 (g.trans g2) vs k2 Q fun w F3 H3 g3 k3 => q w F3 H3 (g2.trans g3) k3
theorem en_cb {r : List V → Hp → VK → Prop} {ta : TA} {ds zs : List D} (h : EvA K ta σ F B ds) (hr : RCN K r ds F B zs) : EvN K (tCB r ta) σ F B zs := fun F1 H1 g Q q =>
  h F1 H1 g _ fun vs F2 H2 g2 k2 => hr F2 H2 (g.trans g2) vs k2 Q fun p us F3 H3 g3 hp hf h3 k3 => q p us F3 H3 (g2.trans g3) (g2.hh.free hp) hf h3 k3
theorem rc_val {r : List V → Hp → VK → Prop} {ds : List D} (h : ∀ vs F1 H1, Gr F B F1 H1 → DpAll K F1 vs ds → ∃ w, Dp K F1 w z ∧ ∀ Q : VK, Q w H1 → r vs H1 Q) : RCD K r ds F B z := fun F1 H1 a vs hv Q q => by
  obtain ⟨w, hw, k⟩ := h vs F1 H1 a hv
  exact k Q (q w F1 H1 (Gr.refl a.fh) hw)

/-! calls of defs: a promise by data -/
/-- called with data ds (R ds d), it hands back data d -/
def SpF (K : PySem.W.Frag) (R : List D → D → Prop) : Sp := fun vs H Q _ => ∃ F ds d, Ex F H ∧ DpAll K F vs ds ∧ R ds d ∧ ∀ v F' H', Gr F H F' H' → Dp K F' v d → Q v H'
theorem ev_call {R : List D → D → Prop} {E : XK} {ta : TA} {ds : List D} (h : EvA K ta σ F B ds) (hR : R ds z) : EvD K (tCall (SpF K R) [] E ta) σ F B z := fun F1 H1 g Q q =>
  h F1 H1 g _ fun vs F2 H2 g2 k2 => ⟨F2, ds, z, g2.fh, by rw [List.append_nil]; exact k2, hR, fun v F3 H3 g3 k3 => q v F3 H3 (g2.trans g3) k3⟩
theorem spF_len {R : List D → D → Prop} {n : Nat} (hn : ∀ ds d, R ds d → ds.length = n) : ∀ vs H Q E, SpF K R vs H Q E → vs.length = n := fun vs H Q E ⟨F, ds, d, _, k, hR, _⟩ => by rw [k.len, hn ds d hR]

/-! ### statements -/
variable {Dn : Ends} {tu tw tz : TS} {g : TG}
theorem s_set {i : Nat} (e : Ex F B) (h : EvD K te σ F B d) (k : ∀ v F' B', Gr F B F' B' → Dp K F' v d → Dn.nx (σ.set i (some v)) B') : tAsg te (gName i) Dn σ B := h F B (Gr.refl e) _ fun v F' B' g kv => k v F' B' g kv
theorem s_setN {i : Nat} {ds : List D} (e : Ex F B) (h : EvN K te σ F B ds) (k : ∀ p vs F' B', Gr F B F' B' → B p = none → F' p = none → B' p = some (.lst vs) → DpAll K F' vs ds → Dn.nx (σ.set i (some (.ref p))) B') : tAsg te (gName i) Dn σ B := h F B (Gr.refl e) _ fun p vs F' B' g hp hf h2 kv => k p vs F' B' g hp hf h2 kv
theorem s_ret (e : Ex F B) (h : EvD K te σ F B d) (k : ∀ v F' B', Gr F B F' B' → Dp K F' v d → Dn.rt v B') : tRet te Dn σ B := h F B (Gr.refl e) _ k
theorem s_retV (e : Ex F B) (h : EvV te σ F B v) (k : ∀ F' B', Gr F B F' B' → Dn.rt v B') : tRet te Dn σ B := h F B (Gr.refl e) _ k
theorem s_if {b : Bool} (e : Ex F B) (h : EvT t σ F B b) (h1 : b = true → ∀ F' B', Gr F B F' B' → tu Dn σ B') (h2 : b = false → ∀ F' B', Gr F B F' B' → tw Dn σ B') : tIfS t tu tw Dn σ B := h F B (Gr.refl e) _ fun F' B' g => by
  cases b with
  | true => exact (show tu Dn σ B' from h1 rfl F' B' g)
  | false => exact (show tw Dn σ B' from h2 rfl F' B' g)
theorem s_drop (e : Ex F B) (h : EvD K te σ F B d) (k : ∀ F' B', Gr F B F' B' → Dn.nx σ B') : tDrop te Dn σ B := h F B (Gr.refl e) _ fun v F' B' g _ => k F' B' g
theorem s_seq (h : tu { Dn with nx := tw Dn } σ B) : tSeq tu tw Dn σ B := h

/-! ### a list that changes -/
def ML (K : PySem.W.Frag) (F H : Hp) (p : Addr) (ds : List D) : Prop := F p = none ∧ ∃ vs, H p = some (.lst vs) ∧ DpAll K F vs ds
theorem ML.gr {p : Addr} {ds : List D} (m : ML K F B p ds) (g : Gr F B F' B') : ML K F' B' p ds := by
  obtain ⟨h1, vs, h2, h3⟩ := m
  exact ⟨by rw [g.nw p (by rw [h2]; exact fun z => nomatch z)]; exact h1, vs, g.hh p _ h2, h3.ex g.ff⟩
theorem ML.other {p q : Addr} {ds : List D} {o : HO} (m : ML K F B p ds) (h : p ≠ q) : ML K F (upd B q o) p ds := by
  obtain ⟨h1, vs, h2, h3⟩ := m
  exact ⟨h1, vs, by rw [upd_ne h]; exact h2, h3⟩
theorem ML.new {p : Addr} {vs : List V} {ds : List D} (hf : F p = none) (h : B p = some (.lst vs)) (k : DpAll K F vs ds) : ML K F B p ds := ⟨hf, vs, h, k⟩
/-- it is taken for frozen -/
theorem ML.fix {p : Addr} {ds : List D} (m : ML K F B p ds) : ∃ vs, B p = some (.lst vs) ∧ Dp K (upd F p (.lst vs)) (.ref p) (.list ds) := by
  obtain ⟨h1, vs, h2, h3⟩ := m
  exact ⟨vs, h2, .lst (SqL.of upd_same) (h3.ex (Ex.new h1))⟩
/-- p.append(e) -/
theorem s_app {p : Addr} {ds : List D} (e : Ex F B) (m : ML K F B p ds) (ho : EvV ta σ F B (.ref p)) (h : EvD K te σ F B d) (hz : ds.length < 100000)
    (k : ∀ v F' B' vs, Gr F B F' B' → Dp K F' v d → F' p = none → B' p = some (.lst vs) → DpAll K F' vs ds → Dn.nx σ (upd B' p (.lst (vs ++ [v])))) : tDrop (tBM K "list" rAppend ta (tCons te tNil)) Dn σ B :=
  ho F B (Gr.refl e) _ fun F1 B1 g1 => by
    obtain ⟨a1, vs, a2, a3⟩ := m.gr g1
    refine ⟨.inl ⟨rfl, vs, SqL.of a2⟩, (h.gr g1) F1 B1 (Gr.refl g1.fh) _ fun v F2 B2 g2 k2 => ?_⟩
    obtain ⟨b1, vs', b2, b3⟩ := (m.gr g1).gr g2
    have ev : vs' = vs := by have := g2.hh p _ a2; rw [b2] at this; cases this; rfl
    subst ev
    exact ⟨p, vs', v, rfl, rfl, b2, Nat.lt_of_lt_of_le (by rw [b3.len]; exact hz) (by decide), k v F2 B2 vs' (g1.trans g2) k2 b1 b2 b3⟩
end
end TT
/-! Base2 -/
/-! The state of a def's body: frozen part, slots, objects that change; loops and comprehensions over it. -/
namespace TT
open PySem PySem.Spec PyProof.Rows L2

/-! ### objects that change -/
inductive MO where
  | lst (p : Addr) (ds : List D)
  | dK (p : Addr) (kds : List (Key × D))
  | dT (p : Addr) (kds : List (List Key × D))
  /-- the law's source of draws: at most so many draws behind it -/
  | src (p : Addr) (c : Nat)
  /-- a dict of texts by texts, at most c of them -/
  | dsv (p : Addr) (f : (Str → Option Str) × Nat)
  /-- a list of such dicts, each frozen -/
  | lsd (p : Addr) (fs : List ((Str → Option Str) × Nat))
  /-- an instance -/
  | ins (p C dx : Addr) (fs : List (Str × V))
  /-- a list, each item known -/
  | lsr (p : Addr) (Rs : List (Hp → V → Prop))
def MO.ad : MO → Addr
  | .lst p _ => p
  | .dK p _ => p
  | .dT p _ => p
  | .src p _ => p
  | .dsv p _ => p
  | .lsd p _ => p
  | .ins p _ _ _ => p
  | .lsr p _ => p
/-- the dict's pairs say f -/
abbrev FS := (Str → Option Str) × Nat
def DK (kvs : List (Key × V)) (f : FS) : Prop := kvs.length ≤ f.2 ∧ (kvs.map (·.1)).Nodup ∧ (∀ x ∈ kvs.map (·.1), ∃ n, x = .inr n) ∧ ∀ n, valV kvs (.inr n) = (f.1 n).map V.str
/-- a frozen dict that says f -/
def FD (F : Hp) (v : V) (f : FS) : Prop := ∃ q kvs, v = .ref q ∧ F q = some (.dK kvs) ∧ DK kvs f
def KD {κ : Type} (K : PySem.W.Frag) (F : Hp) (kvs : List (κ × V)) (kds : List (κ × D)) : Prop := Paired (fun (p : κ × V) (q : κ × D) => p.1 = q.1 ∧ Dp K F p.2 q.2) kvs kds
/-- the source's three numbers -/
def SrcV (xs : List V) (c : Nat) : Prop := ∃ l g n : Int, xs = [.int l, .int g, .int n] ∧ 0 ≤ l ∧ 0 ≤ g ∧ g < 2305843009213693907 ∧ 0 ≤ n ∧ n ≤ c
def MOk (K : PySem.W.Frag) (F H : Hp) : MO → Prop
  | .lst p ds => F p = none ∧ ∃ vs, H p = some (.lst vs) ∧ DpAll K F vs ds
  | .dK p kds => F p = none ∧ ∃ kvs, H p = some (.dK kvs) ∧ KD K F kvs kds
  | .dT p kds => F p = none ∧ ∃ kvs, H p = some (.dT kvs) ∧ KD K F kvs kds
  | .src p c => F p = none ∧ ∃ vs, H p = some (.lst vs) ∧ SrcV vs c
  | .dsv p f => F p = none ∧ ∃ kvs, H p = some (.dK kvs) ∧ DK kvs f
  | .lsd p fs => F p = none ∧ ∃ vs, H p = some (.lst vs) ∧ Paired (FD F) vs fs
  | .lsr p Rs => F p = none ∧ ∃ vs, H p = some (.lst vs) ∧ Paired (fun v R => R F v ∧ ∀ F F' v, Ex F F' → R F v → R F' v) vs Rs
  | .ins p C dx fs => F p = none ∧ ∃ z : Unit, H p = some (.ins C dx fs) ∧ True
section
variable {K : PySem.W.Frag} {F H F' H' : Hp} {m : MO}
theorem KD.ex {κ : Type} {kvs : List (κ × V)} {kds : List (κ × D)} (h : KD K F kvs kds) (e : Ex F F') : KD K F' kvs kds := Paired.mapP h fun _ _ q => ⟨q.1, q.2.ex e⟩
theorem MOk.free (h : MOk K F H m) : F m.ad = none := by cases m <;> exact h.1
theorem MOk.there (h : MOk K F H m) : H m.ad ≠ none := by
  cases m <;> (obtain ⟨_, vs, e, _⟩ := h; exact fun z => nomatch (e.symm.trans z))
theorem MOk.ex (h : MOk K F H m) (e : Ex F F') (hf : F' m.ad = none) (hh : ∀ o, H m.ad = some o → H' m.ad = some o) : MOk K F' H' m := by
  cases m with
  | lst p ds => obtain ⟨_, vs, e1, e2⟩ := h; exact ⟨hf, vs, hh _ e1, e2.ex e⟩
  | dK p ds => obtain ⟨_, vs, e1, e2⟩ := h; exact ⟨hf, vs, hh _ e1, e2.ex e⟩
  | dT p ds => obtain ⟨_, vs, e1, e2⟩ := h; exact ⟨hf, vs, hh _ e1, e2.ex e⟩
  | src p c => obtain ⟨_, vs, e1, e2⟩ := h; exact ⟨hf, vs, hh _ e1, e2⟩
  | dsv p f => obtain ⟨_, vs, e1, e2⟩ := h; exact ⟨hf, vs, hh _ e1, e2⟩
  | lsr p Rs => obtain ⟨_, vs, e1, e2⟩ := h; exact ⟨hf, vs, hh _ e1, Paired.mapP e2 fun _ _ h => ⟨h.2 _ _ _ e h.1, h.2⟩⟩
  | ins p C dx fs => obtain ⟨_, vs, e1, e2⟩ := h; exact ⟨hf, vs, hh _ e1, e2⟩
  | lsd p fs => obtain ⟨_, vs, e1, e2⟩ := h; exact ⟨hf, vs, hh _ e1, Paired.mapP e2 fun _ _ ⟨q, kvs, a, b, c⟩ => ⟨q, kvs, a, e _ _ b, c⟩⟩
theorem MOk.gr (h : MOk K F H m) (g : Gr F H F' H') : MOk K F' H' m := h.ex g.ff (by rw [g.nw _ h.there]; exact h.free) (g.hh _)
theorem MOk.other {q : Addr} {o : HO} (h : MOk K F H m) (hq : m.ad ≠ q) : MOk K F (upd H q o) m := h.ex (Ex.refl F) h.free fun u e => by rw [upd_ne hq]; exact e
/-- without the object at a -/
def del (H : Hp) (a : Addr) : Hp := fun b => if b = a then none else H b
theorem del_ne {a b : Addr} (h : b ≠ a) : del H a b = H b := if_neg h
theorem del_self {a : Addr} : del H a a = none := if_pos rfl
theorem MOk.grDel {a : Addr} (h : MOk K F H m) (ha : m.ad ≠ a) (g : Gr F (del H a) F' H') : MOk K F' H' m :=
  h.ex g.ff (by rw [g.nw _ (by rw [del_ne ha]; exact h.there)]; exact h.free) fun o e => g.hh _ o (by rw [del_ne ha]; exact e)
theorem Gr.transDel {F0 B0 : Hp} {a : Addr} (g1 : Gr F0 B0 F H) (hb : B0 a = none) (g2 : Gr F (del H a) F' H') : Gr F0 B0 F' H' := by
  have ne : ∀ b, B0 b ≠ none → b ≠ a := fun b h z => h (by rw [z]; exact hb)
  refine ⟨g1.ff.trans g2.ff, g2.fh, fun b o e => g2.hh b o ?_, fun b h => ?_⟩
  · rw [del_ne (ne b (by rw [e]; exact fun z => nomatch z))]; exact g1.hh b o e
  · rw [g2.nw b (by rw [del_ne (ne b h)]; exact ne_none_ex g1.hh h)]; exact g1.nw b h
theorem Gr.delStart {a : Addr} (e : Ex F H) (ha : F a = none) : Gr F (del H a) F H :=
  ⟨Ex.refl F, e, fun b o q => by
    by_cases z : b = a
    · rw [z, del_self] at q; cases q
    · rw [del_ne z] at q; exact q, fun _ _ => rfl⟩
end

/-! ### the state -/
structure Sta (K : PySem.W.Frag) (F0 B0 : Hp) (es : List SV) (ms : List MO) (F H : Hp) (σ : L2.St) : Prop where
  gr : Gr F0 B0 F H
  so : SO K F σ es
  mo : ∀ m ∈ ms, MOk K F H m ∧ B0 m.ad = none
  nd : (ms.map MO.ad).Nodup
section
variable {K : PySem.W.Frag} {F0 B0 F H F' H' : Hp} {es es' : List SV} {ms ms' : List MO} {σ σ' : L2.St} {i j : Nat} {d : D} {v : V} {p : Addr}
theorem Sta.ex (S : Sta K F0 B0 es ms F H σ) : Ex F H := S.gr.fh
theorem Sta.grow (S : Sta K F0 B0 es ms F H σ) (g : Gr F H F' H') : Sta K F0 B0 es ms F' H' σ := ⟨S.gr.trans g, S.so.ex g.ff, fun m hm => ⟨(S.mo m hm).1.gr g, (S.mo m hm).2⟩, S.nd⟩
theorem Sta.slots (S : Sta K F0 B0 es ms F H σ) (so : SO K F σ' es') : Sta K F0 B0 es' ms F H σ' := ⟨S.gr, so, S.mo, S.nd⟩
theorem Sta.set (S : Sta K F0 B0 es ms F H σ) (i : Nat) (h : Dp K F v d) : Sta K F0 B0 (es.set i (.dat d)) ms F H (σ.set i (some v)) := S.slots (S.so.set i h)
theorem Sta.setV (S : Sta K F0 B0 es ms F H σ) (i : Nat) (v : V) : Sta K F0 B0 (es.set i (.val v)) ms F H (σ.set i (some v)) := S.slots (S.so.setV i v)
theorem Sta.weak (S : Sta K F0 B0 es ms F H σ) (h : Paired le1 es es') : Sta K F0 B0 es' ms F H σ := S.slots (S.so.weak h)
/-- forgetting objects -/
theorem Sta.less (S : Sta K F0 B0 es ms F H σ) (h : List.Sublist ms' ms) : Sta K F0 B0 es ms' F H σ := ⟨S.gr, S.so, fun m hm => S.mo m (h.subset hm), S.nd.sublist (h.map _)⟩
theorem Sta.drop1 {m : MO} (S : Sta K F0 B0 es (m :: ms) F H σ) : Sta K F0 B0 es ms F H σ := S.less (List.sublist_cons_self _ _)
theorem Sta.m (S : Sta K F0 B0 es ms F H σ) {m : MO} (h : ms[j]? = some m) : MOk K F H m := (S.mo m (List.mem_of_getElem? h)).1
theorem Sta.b (S : Sta K F0 B0 es ms F H σ) {m : MO} (h : ms[j]? = some m) : B0 m.ad = none := (S.mo m (List.mem_of_getElem? h)).2
theorem Sta.ne (S : Sta K F0 B0 es ms F H σ) {m m' : MO} {j' : Nat} (h : ms[j]? = some m) (h' : ms[j']? = some m') (hj : j ≠ j') : m.ad ≠ m'.ad := fun e => by
  have a : (ms.map MO.ad)[j]? = some m.ad := by rw [List.getElem?_map, h]; rfl
  have b : (ms.map MO.ad)[j']? = some m.ad := by rw [List.getElem?_map, h']; show some m'.ad = _; rw [e]
  obtain ⟨h1, e1⟩ := List.getElem?_eq_some_iff.mp a
  obtain ⟨h2, e2⟩ := List.getElem?_eq_some_iff.mp b
  exact hj ((List.getElem_inj S.nd).mp (e1.trans e2.symm))
/-- a new object joins -/
theorem Sta.join (S : Sta K F0 B0 es ms F H σ) {m : MO} {B : Hp} (g : Gr B0 B0 B0 B) (hB : B m.ad = none) (h : MOk K F H m) (hb : B0 m.ad = none) (hn : m.ad ∉ ms.map MO.ad) : Sta K F0 B0 es (m :: ms) F H σ :=
  ⟨S.gr, S.so, fun m' hm => (List.mem_cons.mp hm).elim (fun e => e ▸ ⟨h, hb⟩) (S.mo m'), List.nodup_cons.mpr ⟨hn, S.nd⟩⟩
/-- an object made now joins -/
theorem Sta.made (S : Sta K F0 B0 es ms F H σ) {m : MO} (g : Gr F H F' H') (hn : H m.ad = none) (h : MOk K F' H' m) : Sta K F0 B0 es (m :: ms) F' H' σ := by
  have S' := S.grow g
  refine ⟨S'.gr, S'.so, fun m' hm => ?_, List.nodup_cons.mpr ⟨fun z => ?_, S.nd⟩⟩
  · rcases List.mem_cons.mp hm with e | hm
    · rw [e]; exact ⟨h, S.gr.hh.free hn⟩
    · exact S'.mo m' hm
  · obtain ⟨m', hm', e⟩ := List.mem_map.mp z
    exact (S.mo m' hm').1.there (by rw [e]; exact hn)
/-- an object turns -/
theorem Sta.turn (S : Sta K F0 B0 es ms F H σ) {m m' : MO} (hj : ms[j]? = some m) (ha : m'.ad = m.ad) {o : HO} (h : MOk K F (upd H m.ad o) m') : Sta K F0 B0 es (ms.set j m') F (upd H m.ad o) σ := by
  have hjl : j < ms.length := (List.getElem?_eq_some_iff.mp hj).1
  refine ⟨S.gr.put (S.b hj) (S.m hj).free, S.so, fun x hx => ?_, ?_⟩
  · obtain ⟨k, hk⟩ := List.getElem?_of_mem hx
    by_cases e : k = j
    · subst e
      rw [List.getElem?_set_self hjl] at hk
      cases hk
      exact ⟨h, by rw [ha]; exact S.b hj⟩
    · rw [List.getElem?_set_ne (Ne.symm e)] at hk
      exact ⟨(S.m hk).other (S.ne hk hj e), S.b hk⟩
  · have e : (ms.set j m').map MO.ad = ms.map MO.ad := by
      rw [List.map_set, ha]
      apply List.ext_getElem?
      intro k
      by_cases e : k = j
      · subst e
        rw [List.getElem?_set_self (by rw [List.length_map]; exact hjl), List.getElem?_map, hj]; rfl
      · rw [List.getElem?_set_ne (Ne.symm e)]
    rw [e]
    exact S.nd
/-- an object is frozen -/
theorem Sta.freeze {ds : List D} (S : Sta K F0 B0 es (.lst p ds :: ms) F H σ) : ∃ vs, Sta K F0 B0 es ms (upd F p (.lst vs)) H σ ∧ Dp K (upd F p (.lst vs)) (.ref p) (.list ds) := by
  obtain ⟨hf, vs, h1, h2⟩ := (S.mo _ List.mem_cons_self).1
  have hb : B0 p = none := (S.mo _ List.mem_cons_self).2
  have nin : p ∉ ms.map MO.ad := (List.nodup_cons.mp S.nd).1
  refine ⟨vs, ⟨S.gr.fix hb hf h1, S.so.ex (Ex.new hf), fun m hm => ⟨?_, (S.mo m (List.mem_cons_of_mem _ hm)).2⟩, (List.nodup_cons.mp S.nd).2⟩, .lst (SqL.of upd_same) (h2.ex (Ex.new hf))⟩
  have k := (S.mo m (List.mem_cons_of_mem _ hm)).1
  have ne : m.ad ≠ p := fun z => nin (by rw [← z]; exact List.mem_map.mpr ⟨m, hm, rfl⟩)
  exact k.ex (Ex.new hf) (by rw [upd_ne ne]; exact k.free) fun _ e => e
/-- behind a call that may turn the object at a -/
theorem Sta.call (S : Sta K F0 B0 es ms F H σ) {m m' : MO} (hj : ms[j]? = some m) (ha : m'.ad = m.ad) (g : Gr F (del H m.ad) F' H') (h : MOk K F' H' m') : Sta K F0 B0 es (ms.set j m') F' H' σ := by
  have hjl : j < ms.length := (List.getElem?_eq_some_iff.mp hj).1
  refine ⟨S.gr.transDel (S.b hj) g, S.so.ex g.ff, fun x hx => ?_, ?_⟩
  · obtain ⟨k, hk⟩ := List.getElem?_of_mem hx
    by_cases e : k = j
    · subst e
      rw [List.getElem?_set_self hjl] at hk
      cases hk
      exact ⟨h, by rw [ha]; exact S.b hj⟩
    · rw [List.getElem?_set_ne (Ne.symm e)] at hk
      exact ⟨(S.m hk).grDel (S.ne hk hj e) g, S.b hk⟩
  · have e : (ms.set j m').map MO.ad = ms.map MO.ad := by
      rw [List.map_set, ha]
      apply List.ext_getElem?
      intro k
      by_cases e : k = j
      · subst e
        rw [List.getElem?_set_self (by rw [List.length_map]; exact hjl), List.getElem?_map, hj]; rfl
      · rw [List.getElem?_set_ne (Ne.symm e)]
    rw [e]
    exact S.nd
end

/-! ### targets -/
/-- the target takes the data d: the slots is -/
def TgOk (K : PySem.W.Frag) (g : TG) (d : D) (es es' : List SV) (is : List Nat) : Prop :=
  ∀ v F H σ (Q : L2.St → Hp → Prop), Ex F H → Dp K F v d → SO K F σ es → (∀ σ', SO K F σ' es' → (∀ vs : List Nat, (∀ i ∈ is, i ∈ vs) → wipe σ' vs = wipe σ vs) → Q σ' H) → g v σ H Q
def TgsOk (K : PySem.W.Frag) (t : TGs) (ds : List D) (es es' : List SV) (is : List Nat) : Prop :=
  ∀ xs F H σ (Q : L2.St → Hp → Prop), Ex F H → DpAll K F xs ds → SO K F σ es → (∀ σ', SO K F σ' es' → (∀ vs : List Nat, (∀ i ∈ is, i ∈ vs) → wipe σ' vs = wipe σ vs) → Q σ' H) → t xs σ H Q
theorem wipe_get {σ : L2.St} : ∀ (vs : List Nat) (i : Nat), (wipe σ vs)[i]? = if i ∈ vs ∧ i < σ.length then some none else σ[i]?
  | [], i => by simp [wipe]
  | v :: vs, i => by
    unfold wipe
    by_cases e : v = i
    · subst e
      by_cases hl : v < σ.length
      · rw [List.getElem?_set_self (by rw [wipe_length]; exact hl), if_pos ⟨List.mem_cons_self, hl⟩]
      · rw [List.getElem?_eq_none (by rw [List.length_set, wipe_length]; omega), if_neg (fun z => hl z.2), List.getElem?_eq_none (by omega)]
    · rw [List.getElem?_set_ne e, wipe_get vs i]
      have : (i ∈ v :: vs ∧ i < σ.length) ↔ (i ∈ vs ∧ i < σ.length) := by
        rw [List.mem_cons]
        exact ⟨fun z => ⟨z.1.resolve_left fun q => e q.symm, z.2⟩, fun z => ⟨.inr z.1, z.2⟩⟩
      by_cases q : i ∈ vs ∧ i < σ.length
      · rw [if_pos q, if_pos (this.mpr q)]
      · rw [if_neg q, if_neg (fun z => q (this.mp z))]
theorem wipe_setx {σ : L2.St} {vs : List Nat} {i : Nat} (o : Option V) (h : i ∈ vs) : wipe (σ.set i o) vs = wipe σ vs := by
  apply List.ext_getElem?
  intro k
  rw [wipe_get, wipe_get, List.length_set]
  by_cases q : k ∈ vs ∧ k < σ.length
  · rw [if_pos q, if_pos q]
  · rw [if_neg q, if_neg q]
    by_cases e : i = k
    · subst e
      have : ¬ i < σ.length := fun z => q ⟨h, z⟩
      rw [List.getElem?_eq_none (by rw [List.length_set]; omega), List.getElem?_eq_none (by omega)]
    · rw [List.getElem?_set_ne e]
theorem wipe_wipe {σ : L2.St} (vs : List Nat) : wipe (wipe σ vs) vs = wipe σ vs := by
  apply List.ext_getElem?
  intro k
  rw [wipe_get, wipe_get, wipe_length]
  by_cases q : k ∈ vs ∧ k < σ.length
  · rw [if_pos q, if_pos q]
  · rw [if_neg q, if_neg q]
section
variable {K : PySem.W.Frag} {es es' es'' : List SV} {d : D} {ds : List D} {is js : List Nat} {t : TG} {u : TGs} {n : Nat}
theorem tg_name {i : Nat} : TgOk K (gName i) d es (es.set i (.dat d)) [i] := fun v F H σ Q e h so k => k _ (so.set i h) fun vs hi => wipe_setx _ (hi i List.mem_cons_self)
theorem tgs_nil : TgsOk K gNil [] es es [] := fun xs F H σ Q e h so k => ⟨dpa_nil h, k σ so fun _ _ => rfl⟩
theorem tgs_cons (h1 : TgOk K t d es es' is) (h2 : TgsOk K u ds es' es'' js) : TgsOk K (gCons t u) (d :: ds) es es'' (is ++ js) := fun xs F H σ Q e h so k => by
  obtain ⟨v, us, rfl, k1, k2⟩ := dpa_cons h
  refine ⟨v, us, rfl, h1 v F H σ _ e k1 so fun σ1 so1 w1 => h2 us F H σ1 Q e k2 so1 fun σ2 so2 w2 => k σ2 so2 fun vs hi => ?_⟩
  rw [w2 vs fun i hi' => hi i (List.mem_append_right _ hi'), w1 vs fun i hi' => hi i (List.mem_append_left _ hi')]
theorem tg_tup (h : TgsOk K u ds es es' is) (hn : ds.length = n := by rfl) : TgOk K (gTup K n u) (.tuple ds) es es' is := fun v F H σ Q e hv so k => by
  obtain ⟨a, xs, rfl, h1, h2⟩ := dp_tup hv
  exact ⟨a, xs, rfl, ex_t e h1, by rw [h2.len]; exact hn, h xs F H σ Q e h2 so k⟩
theorem tg_unl (h : TgsOk K u ds es es' is) (hn : ds.length = n := by rfl) : TgOk K (gUnl K n u) (.list ds) es es' is := fun v F H σ Q e hv so k => by
  obtain ⟨a, xs, rfl, h1, h2⟩ := dp_lst hv
  exact ⟨a, xs, rfl, ex_l e h1, by rw [h2.len]; exact hn, h xs F H σ Q e h2 so k⟩
end

/-! ### what is walked -/
structure YD (K : PySem.W.Frag) (J : It) (F2 : Hp) (ds : List D) : Prop where
  go : ∀ i H, i < ds.length → Ex F2 H → J.go i H
  stop : ∀ H, Ex F2 H → J.stop ds.length H
  yld : ∀ i d F H x H', ds[i]? = some d → Ex F2 F → Ex F H → J.yld i H x H' → ∃ F', Gr F H F' H' ∧ Dp K F' x d
def ItrD (K : PySem.W.Frag) (wi : TI) (σ : L2.St) (F B : Hp) (ds : List D) : Prop := ∀ F1 H1, Gr F B F1 H1 → ∀ R : It → Hp → Prop, (∀ J F2 H2, Gr F1 H1 F2 H2 → YD K J F2 ds → R J H2) → wi σ H1 R
section
variable {K : PySem.W.Frag} {σ : L2.St} {F B F' B' : Hp} {tl te : TE} {ta : TA} {ds : List D}
theorem ItrD.gr {wi : TI} (h : ItrD K wi σ F B ds) (g : Gr F B F' B') : ItrD K wi σ F' B' ds := fun F1 H1 a => h F1 H1 (g.trans a)
theorem it_list (h : EvD K tl σ F B (.list ds)) : ItrD K (iList K tl) σ F B ds := fun F1 H1 g R k => h F1 H1 g _ fun v F2 H2 g2 hv => by
  obtain ⟨a, vs, rfl, h1, h2⟩ := dp_lst hv
  refine ⟨a, rfl, ⟨vs, ex_l g2.fh h1⟩, k _ F2 H2 g2 ⟨fun i H hi e => ?_, fun H e => ⟨vs, ex_l e h1, Nat.le_of_eq h2.len⟩, fun i d F H x H' hd e1 e2 y => ?_⟩⟩
  · rw [← h2.len] at hi
    exact ⟨vs, vs[i], ex_l e h1, by simp [hi]⟩
  · obtain ⟨rfl, y⟩ := y
    obtain ⟨u, hu, ku⟩ := h2.get hd
    have := y vs (ex_l (e1.trans e2) h1)
    rw [hu] at this; cases this
    exact ⟨F, Gr.refl e2, ku.ex e1⟩
theorem it_tup (h : EvD K tl σ F B (.tuple ds)) : ItrD K (iTup K tl) σ F B ds := fun F1 H1 g R k => h F1 H1 g _ fun v F2 H2 g2 hv => by
  obtain ⟨a, vs, rfl, h1, h2⟩ := dp_tup hv
  refine ⟨a, rfl, ⟨vs, ex_t g2.fh h1⟩, k _ F2 H2 g2 ⟨fun i H hi e => ?_, fun H e => ⟨vs, ex_t e h1, Nat.le_of_eq h2.len⟩, fun i d F H x H' hd e1 e2 y => ?_⟩⟩
  · rw [← h2.len] at hi
    exact ⟨vs, vs[i], ex_t e h1, by simp [hi]⟩
  · obtain ⟨rfl, y⟩ := y
    obtain ⟨u, hu, ku⟩ := h2.get hd
    have := y vs (ex_t (e1.trans e2) h1)
    rw [hu] at this; cases this
    exact ⟨F, Gr.refl e2, ku.ex e1⟩
def rngD (lo n : Nat) : List D := (List.range n).map fun i => .int ((lo + i : Nat) : Int)
theorem rngD_len (lo n : Nat) : (rngD lo n).length = n := by simp [rngD]
theorem rngD_get {lo n i : Nat} {d : D} (h : (rngD lo n)[i]? = some d) : i < n ∧ d = .int ((lo + i : Nat) : Int) := by
  unfold rngD at h
  rw [List.getElem?_map] at h
  obtain ⟨k, hk, rfl⟩ := Option.map_eq_some_iff.mp h
  obtain ⟨h1, h2⟩ := List.getElem?_eq_some_iff.mp hk
  rw [List.length_range] at h1
  rw [List.getElem_range] at h2
  exact ⟨h1, by rw [h2]⟩
theorem yd_rng (lo n : Nat) {F2 : Hp} : YD K (Itr (lo : Int) n) F2 (rngD lo n) := by
  refine ⟨fun i H hi _ => by rw [rngD_len] at hi; exact hi, fun H _ => by rw [rngD_len]; exact Nat.le_refl _, fun i d F H x H' hd e1 e2 y => ?_⟩
  obtain ⟨rfl, rfl⟩ := y
  obtain ⟨_, rfl⟩ := rngD_get hd
  refine ⟨F, Gr.refl e2, ?_⟩
  have e : ((lo : Int) + (i : Int)) = ((lo + i : Nat) : Int) := by omega
  rw [e]
  exact .int _
theorem it_rng1 {n : Nat} (h : EvA K ta σ F B [.int (n : Int)]) (hn : n ≤ 100000) : ItrD K (iRng1 ta) σ F B (rngD 0 n) := fun F1 H1 g R k => h F1 H1 g _ fun vs F2 H2 g2 hv => by
  obtain ⟨v, us, rfl, h1, h2⟩ := dpa_cons hv
  rw [dpa_nil h2, dp_int h1]
  refine ⟨n, rfl, by omega, by omega, k _ F2 H2 g2 ?_⟩
  rw [Int.toNat_natCast]
  exact yd_rng 0 n
theorem it_rng2 {lo n : Nat} {hi : Int} (h : EvA K ta σ F B [.int (lo : Int), .int hi]) (e : hi = (lo + n : Nat)) (hn : lo + n ≤ 100000) : ItrD K (iRng2 ta) σ F B (rngD lo n) := fun F1 H1 g R k => h F1 H1 g _ fun vs F2 H2 g2 hv => by
  obtain ⟨v, us, rfl, h1, h2⟩ := dpa_cons hv
  obtain ⟨v2, us2, rfl, h3, h4⟩ := dpa_cons h2
  rw [dpa_nil h4, dp_int h1, dp_int h3]
  refine ⟨lo, hi, rfl, ⟨by omega, by omega, by omega, by omega⟩, k _ F2 H2 g2 ?_⟩
  rw [e, show (((lo + n : Nat) : Int) - (lo : Int)).toNat = n by omega]
  exact yd_rng lo n
def chr (c : Nat) : Str := ⟨#[c]⟩
def signs (s : Str) : List D := s.cps.toList.map fun c => .str (chr c)
theorem it_str {s : Str} (h : EvD K te σ F B (.str s)) : ItrD K (iStr te) σ F B (signs s) := fun F1 H1 g R k => h F1 H1 g _ fun v F2 H2 g2 hv => by
  have hl : (signs s).length = s.cps.size := by simp [signs]
  refine ⟨s, dp_str hv, k _ F2 H2 g2 ⟨fun i H hi _ => by rw [hl] at hi; exact hi, fun H _ => by rw [hl]; exact Nat.le_refl _, fun i d F H x H' hd e1 e2 y => ?_⟩⟩
  obtain ⟨rfl, c, hc, rfl⟩ := y
  unfold signs at hd
  rw [List.getElem?_map, Array.getElem?_toList, hc] at hd
  cases hd
  exact ⟨F, Gr.refl e2, .str _⟩
/-- pairs of the place and the item -/
def enumD (ds : List D) : List D := ds.mapIdx fun i d => .tuple [.int (i : Int), d]
theorem enumD_len (ds : List D) : (enumD ds).length = ds.length := by simp [enumD]
theorem enumD_get {i : Nat} {d : D} (h : (enumD ds)[i]? = some d) : ∃ e, ds[i]? = some e ∧ d = .tuple [.int (i : Int), e] := by
  unfold enumD at h
  rw [List.getElem?_mapIdx] at h
  obtain ⟨e, h1, h2⟩ := Option.map_eq_some_iff.mp h
  exact ⟨e, h1, h2.symm⟩
theorem it_enum (h : EvA K ta σ F B [.list ds]) : ItrD K (iEnum K ta) σ F B (enumD ds) := fun F1 H1 g R k => h F1 H1 g _ fun vs F2 H2 g2 hv => by
  obtain ⟨v, us, rfl, h1, h2⟩ := dpa_cons hv
  rw [dpa_nil h2]
  obtain ⟨a, xs, rfl, q1, q2⟩ := dp_lst h1
  refine ⟨a, xs, rfl, ex_l g2.fh q1, k _ F2 H2 g2 ⟨fun i H hi e => ?_, fun H e => ?_, fun i d F H x H' hd e1 e2 y => ?_⟩⟩
  · rw [enumD_len, ← q2.len] at hi
    exact ⟨xs, xs[i], ex_l e q1, by simp [hi]⟩
  · rw [enumD_len, ← q2.len]
    exact ⟨xs, ex_l e q1, Nat.le_refl _⟩
  · obtain ⟨T, w, rfl, hT, rfl, hw⟩ := y
    obtain ⟨e, he, rfl⟩ := enumD_get hd
    obtain ⟨u, hu, ku⟩ := q2.get he
    have := hw xs (ex_l (e1.trans e2) q1)
    have ew : u = w := Option.some.inj (hu.symm.trans this)
    subst ew
    refine ⟨upd F T (.tup [.int (i : Int), u]), Gr.new e2 hT, .tup (SqT.of upd_same) (.cons (.int _) (.cons ?_ .nil))⟩
    exact (ku.ex e1).ex (Ex.new (e2.free hT))
end

/-! ### another base -/
def dels (H : Hp) : List MO → Hp
  | [] => H
  | m :: ms => del (dels H ms) m.ad
theorem dels_in {H : Hp} {a : Addr} : ∀ {ms : List MO}, a ∈ ms.map MO.ad → dels H ms a = none
  | [], h => by cases h
  | m :: ms, h => by
    by_cases e : a = m.ad
    · rw [e]; exact del_self
    · rw [show dels H (m :: ms) a = dels H ms a from del_ne e]
      exact dels_in ((List.mem_cons.mp h).resolve_left e)
theorem dels_out {H : Hp} {a : Addr} : ∀ {ms : List MO}, a ∉ ms.map MO.ad → dels H ms a = H a
  | [], _ => rfl
  | m :: ms, h => by
    rw [show dels H (m :: ms) a = dels H ms a from del_ne fun e => h (by rw [e]; exact List.mem_cons_self)]
    exact dels_out fun z => h (List.mem_cons_of_mem _ z)
section
variable {K : PySem.W.Frag} {F0 B0 F1 B1 F H : Hp} {ms : List MO} {es : List SV} {σ : L2.St}
theorem Sta.down (S : Sta K F0 B0 es ms F H σ) : Gr F0 B0 F (dels H ms) ∧ Sta K F (dels H ms) es ms F H σ := by
  have free : ∀ a, a ∈ ms.map MO.ad → F a = none ∧ B0 a = none := fun a ha => by
    obtain ⟨m, hm, rfl⟩ := List.mem_map.mp ha
    exact ⟨(S.mo m hm).1.free, (S.mo m hm).2⟩
  have sub : Ex (dels H ms) H := fun a o e => by
    by_cases h : a ∈ ms.map MO.ad
    · rw [dels_in h] at e; cases e
    · rw [dels_out h] at e; exact e
  have fd : Ex F (dels H ms) := fun a o e => by
    rw [dels_out fun z => by rw [(free a z).1] at e; cases e]
    exact S.ex a o e
  refine ⟨⟨S.gr.ff, fd, fun a o e => ?_, S.gr.nw⟩, ⟨⟨Ex.refl F, S.ex, sub, fun _ _ => rfl⟩, S.so, fun m hm => ⟨(S.mo m hm).1, dels_in (List.mem_map.mpr ⟨m, hm, rfl⟩)⟩, S.nd⟩⟩
  rw [dels_out fun z => by rw [(free a z).2] at e; cases e]
  exact S.gr.hh a o e
theorem Sta.up (g : Gr F0 B0 F1 B1) (S : Sta K F1 B1 es ms F H σ) : Sta K F0 B0 es ms F H σ := ⟨g.trans S.gr, S.so, fun m hm => ⟨(S.mo m hm).1, g.hh.free (S.mo m hm).2⟩, S.nd⟩
theorem Sta.tg {g : TG} {d : D} {v : V} {es' : List SV} {is : List Nat} {Q : L2.St → Hp → Prop} (S : Sta K F0 B0 es ms F H σ) (kv : Dp K F v d) (t : TgOk K g d es es' is) (k : ∀ σ2, Sta K F0 B0 es' ms F H σ2 → Q σ2 H) : g v σ H Q :=
  t v F H σ Q S.ex kv S.so fun σ2 so2 _ => k σ2 (S.slots so2)
end

/-! ### for, while -/
section
variable {K : PySem.W.Frag} {F0 B0 F H : Hp} {ms0 : List MO} {es0 : List SV} {σ : L2.St} {wi : TI} {g : TG} {tb : TS} {tc : TT} {Dn : Ends} {ds : List D} {is : List Nat}
/-- what stands behind a turn -/
def NX (K : PySem.W.Frag) (F0 B0 : Hp) (I : List SV → List MO → Prop) : L2.St → Hp → Prop := fun σ' H' => ∃ es ms F', I es ms ∧ Sta K F0 B0 es ms F' H' σ'
theorem NX.of {F0 B0 F' H' : Hp} {I : List SV → List MO → Prop} {es : List SV} {ms : List MO} {σ' : L2.St} (S : Sta K F0 B0 es ms F' H' σ') (h : I es ms) : NX K F0 B0 I σ' H' := ⟨es, ms, F', h, S⟩
/-- for over data, by an invariant of the slots and the objects at each turn -/
theorem for_S (S : Sta K F0 B0 es0 ms0 F H σ) (it : ItrD K wi σ F H ds) (I : Nat → List SV → List MO → Prop) (h0 : I 0 es0 ms0)
    (hs : ∀ Fb Bb, Gr F0 B0 Fb Bb → ∀ i d v es ms F1 H1 σ1, ds[i]? = some d → I i es ms → Sta K Fb Bb es ms F1 H1 σ1 → Dp K F1 v d → g v σ1 H1 fun σ2 H2 => tb { Dn with nx := NX K Fb Bb (I (i + 1)), ct := NX K Fb Bb (I (i + 1)), bk := Dn.nx } σ2 H2)
    (hd : ∀ es ms F1 H1 σ1, I ds.length es ms → Sta K F0 B0 es ms F1 H1 σ1 → Dn.nx σ1 H1) : tFor wi g tb Dn σ H :=
  it F H (Gr.refl S.ex) _ fun J F2 H2 g2 y => by
    obtain ⟨gb, Sb⟩ := (S.grow g2).down
    refine ⟨fun i m σ' H' => m = ds.length - i ∧ i ≤ ds.length ∧ NX K F2 (dels H2 ms0) (I i) σ' H', ⟨ds.length, by simp, Nat.zero_le _, es0, ms0, F2, h0, Sb⟩, ?_⟩
    rintro i m σ' H' ⟨rfl, hi, es, ms, F', hI, S'⟩
    have e := S'.gr.ff
    by_cases hlt : i < ds.length
    · refine .inr ⟨y.go i H' hlt (e.trans S'.ex), NX K F2 (dels H2 ms0) (I (i + 1)), fun σ3 H3 q => ⟨ds.length - (i + 1), by omega, rfl, hlt, q⟩, fun x H3 hy => ?_⟩
      obtain ⟨F3, g3, k3⟩ := y.yld i ds[i] F' H' x H3 (List.getElem?_eq_getElem hlt) e S'.ex hy
      exact hs F2 _ gb i ds[i] x es ms F3 H3 σ' (List.getElem?_eq_getElem hlt) hI (S'.grow g3) k3
    · have e' : i = ds.length := by omega
      subst e'
      exact .inl ⟨y.stop H' (e.trans S'.ex), hd es ms F' H' σ' hI (S'.up gb)⟩
/-- while, by an invariant with a measure -/
theorem while_S (S : Sta K F0 B0 es0 ms0 F H σ) (I : Nat → List SV → List MO → Prop) (m0 : Nat) (h0 : I m0 es0 ms0)
    (hs : ∀ m es ms F1 H1 σ1, I m es ms → Sta K F0 B0 es ms F1 H1 σ1 → ∃ b, EvT tc σ1 F1 H1 b ∧
      (b = true → ∀ F2 H2, Sta K F0 B0 es ms F2 H2 σ1 → tb { Dn with nx := NX K F0 B0 (fun es ms => ∃ m', m' < m ∧ I m' es ms), ct := NX K F0 B0 (fun es ms => ∃ m', m' < m ∧ I m' es ms), bk := Dn.nx } σ1 H2) ∧
      (b = false → ∀ F2 H2, Sta K F0 B0 es ms F2 H2 σ1 → Dn.nx σ1 H2)) : tWhile tc tb Dn σ H := by
  refine ⟨fun m σ' H' => NX K F0 B0 (I m) σ' H', ⟨m0, NX.of S h0⟩, ?_⟩
  rintro m σ' H' ⟨es, ms, F', hI, S'⟩
  obtain ⟨b, h1, h2, h3⟩ := hs m es ms F' H' σ' hI S'
  refine h1 F' H' (Gr.refl S'.ex) _ fun F2 H2 g2 => ?_
  cases b with
  | true => exact ⟨_, fun σ3 H3 ⟨es3, ms3, F3, ⟨m', hm, hI3⟩, S3⟩ => ⟨m', hm, es3, ms3, F3, hI3, S3⟩, h2 rfl F2 H2 (S'.grow g2)⟩
  | false => exact h3 rfl F2 H2 (S'.grow g2)
end

/-! ### comprehensions -/
section
variable {K : PySem.W.Frag} {F B : Hp} {es : List SV} {σ : L2.St} {wi : TI} {g : TG} {tt : TT} {te : TE} {ds : List D} {vs is : List Nat}
theorem et_yes : EvT tYes σ F B true := fun F1 H1 g Q q => q F1 H1 (Gr.refl g.fh)
theorem en_lc (so : SO K F σ es) (it : ItrD K wi σ F B ds) (p : D → Bool) (f : D → D) (es2 : D → List SV) (hz : ds.length < 100000) (tg : ∀ d, d ∈ ds → TgOk K g d (wipeE es vs) (es2 d) is) (hi : ∀ i ∈ is, i ∈ vs)
    (ht : ∀ d, d ∈ ds → ∀ F1 H1 σ2, Gr F B F1 H1 → SO K F1 σ2 (es2 d) → EvT tt σ2 F1 H1 (p d))
    (he : ∀ d, d ∈ ds → p d = true → ∀ F1 H1 σ2, Gr F B F1 H1 → SO K F1 σ2 (es2 d) → EvD K te σ2 F1 H1 (f d)) : EvN K (tLc wi g tt te vs) σ F B ((ds.filter p).map f) := fun F1 H1 g1 Q q =>
  it F1 H1 g1 _ fun J F2 H2 g2 y Dl hD => by
    have out : ∀ i, ((ds.take i).filter p).map f = (((ds.take i).filter p).map f) := fun _ => rfl
    refine ⟨fun i m H' => m = ds.length - i ∧ i ≤ ds.length ∧ ∃ F', Gr F2 H2 F' H' ∧ ML K F' H' Dl (((ds.take i).filter p).map f), ⟨ds.length, by simp, Nat.zero_le _, F2, Gr.mut g2.fh hD, g2.fh.free hD, [], upd_same, .nil⟩, ?_⟩
    rintro i m H' ⟨rfl, hi', F', g3, ml⟩
    by_cases hlt : i < ds.length
    · refine .inr ⟨y.go i H' hlt (g3.ff.trans g3.fh), fun H4 => i + 1 ≤ ds.length ∧ ∃ F', Gr F2 H2 F' H4 ∧ ML K F' H4 Dl (((ds.take (i + 1)).filter p).map f), fun H4 q => ⟨ds.length - (i + 1), by omega, rfl, q.1, q.2⟩, fun x H4 hy => ?_⟩
      obtain ⟨F4, g4, k4⟩ := y.yld i ds[i] F' H' x H4 (List.getElem?_eq_getElem hlt) g3.ff g3.fh hy
      have hm : ds[i] ∈ ds := List.getElem_mem hlt
      have g04 : Gr F B F4 H4 := ((g1.trans g2).trans g3).trans g4
      refine tg _ hm x F4 H4 (wipe σ vs) _ g4.fh k4 ((so.ex g04.ff).wipe vs) fun σ2 so2 w2 => ⟨(w2 vs hi).trans (wipe_wipe vs), ?_⟩
      refine ht _ hm F4 H4 σ2 g04 so2 F4 H4 (Gr.refl g4.fh) _ fun F5 H5 g5 => ?_
      have tk : ds.take (i + 1) = ds.take i ++ [ds[i]] := by rw [List.take_add_one, List.getElem?_eq_getElem hlt]; rfl
      have ml5 := (ml.gr g4).gr g5
      cases hp : p ds[i] with
      | true =>
        rw [if_pos rfl]
        refine he _ hm hp F4 H4 σ2 g04 so2 F5 H5 g5 _ fun v F6 H6 g6 k6 => ?_
        obtain ⟨a1, us, a2, a3⟩ := ml5.gr g6
        have hl : us.length < 100000 := by
          rw [a3.len, List.length_map]
          refine Nat.lt_of_le_of_lt (List.length_filter_le _ _) ?_
          rw [List.length_take]
          omega
        refine ⟨us, a2, Nat.lt_of_lt_of_le hl (by decide), hlt, F6, (((g3.trans g4).trans g5).trans g6).put hD a1, a1, us ++ [v], upd_same, ?_⟩
        rw [tk, List.filter_append, List.map_append, List.filter_cons_of_pos hp]
        exact a3.app (.cons k6 .nil)
      | false =>
        rw [if_neg Bool.false_ne_true]
        refine ⟨hlt, F5, (g3.trans g4).trans g5, ?_⟩
        rw [tk, List.filter_append, List.filter_cons_of_neg (by rw [hp]; decide)]
        simpa using ml5
    · have e' : i = ds.length := by omega
      subst e'
      refine .inl ⟨y.stop H' (g3.ff.trans g3.fh), ?_⟩
      obtain ⟨a1, us, a2, a3⟩ := ml
      rw [List.take_length] at a3
      exact q Dl us F' H' (g2.trans g3) (g2.hh.free hD) a1 a2 a3
/-- without a test -/
theorem en_lc0 (so : SO K F σ es) (it : ItrD K wi σ F B ds) (f : D → D) (es2 : D → List SV) (hz : ds.length < 100000) (tg : ∀ d, d ∈ ds → TgOk K g d (wipeE es vs) (es2 d) is) (hi : ∀ i ∈ is, i ∈ vs)
    (he : ∀ d, d ∈ ds → ∀ F1 H1 σ2, Gr F B F1 H1 → SO K F1 σ2 (es2 d) → EvD K te σ2 F1 H1 (f d)) : EvN K (tLc wi g tYes te vs) σ F B (ds.map f) := by
  have h := en_lc (tt := tYes) (te := te) so it (fun _ => true) f es2 hz tg hi (fun d hd F1 H1 σ2 g1 s1 => et_yes) (fun d hd _ => he d hd)
  rw [List.filter_eq_self.mpr fun _ _ => rfl] at h
  exact h
end
end TT
/-! Base3 -/
/-! enumerate of a tuple, of a text, as walks of the layer. -/
namespace TT
open PySem PySem.Spec PyProof.Rows L2

section
theorem meets_enum1 {v : Value} {o : Obj} {H : Heap → Prop} (B : Begins v o H) :
    Meets (Builtin.«enumerate.__new__» ⟨[.type "enumerate", v], []⟩) (fun _ R s => H s.heap ∧
      R (.ok (.ret (.ref (s.heap.push o).objs.size))) { s with heap := (s.heap.push o).push { cls := .type "enumerate", data := .fields #[.none, .bool false, .ref s.heap.objs.size, rawInt 0, .none, .none] } }) :=
  .of_wp fun prog w A R s h => by
    obtain ⟨hp, g, d, tk, os⟩ := s; obtain ⟨h1, h⟩ := h
    have hsub := sub_enumerate
    have q1 : ∀ {A' : Around} {E : Value → Shared → Prop} {Q : Value → Shared → Prop}, Q (.ref hp.objs.size) ⟨hp.push o, g, d, tk, os⟩ → wpAny (model prog w) A' (pyIter v) Q E ⟨hp, g, d, tk, os⟩ :=
      fun q => B.iter prog w _ _ ⟨hp, g, d, tk, os⟩ _ h1 q
    wp_walk using q1
    refine wpAny_stack_any fun st => wpAny_pure ?_
    split
    · rename_i c _ _ _ _ _
      cases (c == Value.type "enumerate")
      · wp_walk using q1
        exact ⟨_, rfl, h⟩
      · wp_walk using q1
        exact ⟨_, rfl, h⟩
    · wp_walk using q1
      exact ⟨_, rfl, h⟩
theorem enum_begins1 {prog : Program} {w : World} {A : Around} {E : Value → Shared → Prop} {s : Shared} {v : Value} {o : Obj} {H : Heap → Prop} {Q : Value → Shared → Prop} (B : Begins v o H) (h1 : H s.heap)
    (h : ∀ h', IsEnum h' (s.heap.objs.size + 1) s.heap.objs.size 0 .none → h'.get? s.heap.objs.size = some o → h'.objs.size = s.heap.objs.size + 2 →
      (∀ b o, s.heap.get? b = some o → h'.get? b = some o) → Q (.ref (s.heap.objs.size + 1)) { s with heap := h' }) :
    wpAny (model prog w) A (call (.type "enumerate") [v]) Q E s := by
  refine callType_new F.called_enumerate (by decide) (F.typeCall_enumerate_1 _) (F.newCall_enumerate_1 _) (fun obj => F.args_object_init_2 obj _) F.entry_enumerate_new (meets_enum1 B) ⟨h1, ?_⟩
  have hz : (s.heap.push o).objs.size = s.heap.objs.size + 1 := Heap.size_push ..
  show _ ∧ _
  rw [hz]
  have he : IsEnum ((s.heap.push o).push { cls := .type "enumerate", data := .fields #[.none, .bool false, .ref s.heap.objs.size, rawInt 0, .none, .none] }) (s.heap.objs.size + 1) s.heap.objs.size 0 .none := by
    have := Heap.get?_push_size (s.heap.push o) (o := { cls := .type "enumerate", data := .fields #[.none, .bool false, .ref s.heap.objs.size, rawInt 0, .none, .none] }) rfl
    rw [hz] at this; exact this
  refine ⟨⟨_, he, rfl⟩, h _ he (Heap.get?_push_of_some _ (Heap.get?_push_size _ B.free)) (by rw [Heap.size_push, hz]) fun b o x => Heap.get?_push_of_some _ (Heap.get?_push_of_some _ x)⟩
end

/-- the items of a tuple (of a text's signs) in new pairs -/
def Ien (n : Nat) (P : Nat → Hp → V → Prop) (go : Hp → Prop) : It :=
  ⟨fun i H => i < n ∧ go H, fun i H v H' => ∃ T x, v = .ref T ∧ H T = none ∧ H' = upd H T (.tup [.int (i : Nat), x]) ∧ P i H x, fun i H => i = n ∧ go H⟩

/-- one turn of enumerate over what is drawn -/
theorem turn_en {P : Program} {w : World} {K : PySem.W.Frag} {elts : List Expr} {kk : Nat} {tpos : Pos} (e it : Addr) {n : Nat} {Pv : Nat → Hp → V → Prop} {go : Hp → Prop} {Ti : Nat → Heap → Prop}
    (tobj : ∀ i h, Ti i h → ∃ o, h.get? it = some o ∧ ∀ v, o.data ≠ .cell v) (tkeep : ∀ i h h', Ti i h → (∀ o, h.get? it = some o → h'.get? it = some o) → Ti i h')
    (draw : ∀ (X : Cx), X.prog = P → X.w = w → X.K = K → X.calm = true → ∀ (i : Nat) pins (s : Shared) σ H, Inv X pins σ H s → go H → i ≤ n → IsEnum s.heap e it i .none ∨ (∃ old, IsEnum s.heap e it ((i : Nat) : Int) old) → Ti i s.heap →
      ∃ (fp : List Addr) (Pd : Nat → Value → Prop) (St : Nat → Heap → Prop), Draws P w X.A.in1 it fp n Pd St ∧ St i s.heap ∧ e ∉ fp ∧ (∀ k u, Pd k u → ∃ x, RelV x u ∧ Pv k H x) ∧ (∀ h, St (i + 1) h → Ti (i + 1) h)) :
    Turn P w K (.Tuple elts kk tpos) (Ien n Pv go) [e, it] e (fun i h => (∃ old, IsEnum h e it ((i : Nat) : Int) old) ∧ Ti i h ∧ e ≠ it) where
  mem := by simp
  obj := fun i h st b hb => by
    obtain ⟨⟨old, he⟩, ht, _⟩ := st
    have e' : b = e ∨ b = it := by simpa using hb
    rcases e' with z | z
    · rw [z]; exact ⟨_, he, fun v q => nomatch q⟩
    · rw [z]; exact tobj i h ht
  keep := fun i h h' st k => let ⟨⟨old, he⟩, hi, hne⟩ := st; ⟨⟨old, k e (by simp) _ he⟩, tkeep i h h' hi fun o q => k it (by simp) o q, hne⟩
  item := by
    intro X hP hw hK hc i pins s σ H E I hf st hg
    obtain ⟨⟨old, he⟩, ht, hne⟩ := st
    obtain ⟨hin, hgo⟩ := hg
    obtain ⟨fp, Pd, St, Dr, hst, hef, hpd, hst'⟩ := draw X hP hw hK hc i pins s σ H I hgo (Nat.le_of_lt hin) (.inr ⟨old, he⟩) ht
    subst hP hw hK
    have hel : e < s.heap.objs.size := Heap.lt_size he
    refine wpAny_pyNext_enum_itemD Dr he hst hin hne hef fun u h' tk pu ho hst2 hT hsz hk => ?_
    obtain ⟨x, ru, px⟩ := hpd i u pu
    refine ⟨_, rfl, wpAny_letOwnedTupleGo_enum (s := { s with heap := h', toks := tk + 1 }) ho fun h'' he' sb => ?_⟩
    have hT2 : h''.get? s.heap.objs.size = some { cls := .type "tuple", data := .seq #[.int i tk, u] } := (sb.2 _ (Nat.ne_of_gt hel)).trans hT
    have new : ObjOk X.prog X.w (upd H s.heap.objs.size (.tup [.int (i : Nat), x])) h'' s.heap.objs.size (.tup [.int (i : Nat), x]) :=
      ⟨by show 2 ≤ sizeLine; decide, [.int i tk, u], .cons ⟨_, rfl⟩ (.cons ru .nil), ⟨_, hT2, rfl, _, rfl⟩⟩
    have I1 : Inv X pins σ (upd H s.heap.objs.size (.tup [.int (i : Nat), x])) { s with heap := h'', toks := tk + 1 } :=
      I.turnedNew (ch := [e, it]) (fun b ob hb q => (sb.2 b (fun z => hb (by simp [z]))).trans (hk b ob (fun z => hb (by simp [z])) (fun z => hb (by simp [z])) q)) hf (Nat.le_refl _) new
    refine ⟨.ref s.heap.objs.size, _, I1, rfl, ⟨_, x, rfl, I.hok.fresh (Nat.le_refl _), rfl, px⟩, ⟨⟨u, ?_⟩, tkeep _ _ _ (hst' _ hst2) fun o q => (sb.2 it (Ne.symm hne)).trans q, hne⟩, fun b hb => ?_⟩
    · have e1 : ((i + 1 : Nat) : Int) = (i : Int) + 1 := by omega
      rw [e1]; exact he'
    · have hil : it < s.heap.objs.size := let ⟨o, q, _⟩ := tobj i _ ht; Heap.lt_size q
      have hb' : b < s.heap.objs.size := by
        have e' : b = e ∨ b = it := by simpa using hb
        rcases e' with z | z
        · rw [z]; exact hel
        · rw [z]; exact hil
      rw [upd_ne (Nat.ne_of_lt hb')]
      exact (hf b hb).1
  done := by
    intro X hP hw hK hc i pins s σ H E I hf st hg
    obtain ⟨⟨old, he⟩, ht, hne⟩ := st
    obtain ⟨hin, hgo⟩ := hg
    obtain ⟨fp, Pd, St, Dr, hst, hef, _, _⟩ := draw X hP hw hK hc i pins s σ H I hgo (Nat.le_of_eq hin) (.inr ⟨old, he⟩) ht
    subst hP hw hK
    obtain ⟨f0, f1, f2, f3, f4, f5⟩ := hf it (by simp)
    subst hin
    exact wpAny_pyNext_enum_endD Dr he hst fun h' eb => ⟨rfl, I.turned (t' := s.toks) (fun b o hb q => eb b o hb q) f0 f1 f3 f4 f5⟩
  self := fun A i s Q E st h => let ⟨⟨_, he⟩, _⟩ := st; wpAny_pyIter_enum he h

/-- enumerate(a tuple) -/
def iEnumT (K : PySem.W.Frag) (ta : TA) : TI := fun σ H R => ta σ H fun vs H1 => ∃ a xs, vs = [.ref a] ∧ SqT K H1 a xs ∧ R (Ien xs.length (fun i _ x => xs[i]? = some x) (fun H => SqT K H a xs)) H1
theorem pi_enumT {X : Cx} {e : Expr} {ta : TA} {p pos tpos : Pos} {elts : List Expr} {kk : Nat} (hc : X.calm = true) (hg : Gl X "enumerate") (hm : X.mg "enumerate" = none) (ha : PA X [e] ta) (hs : starEach [e] X.env = [(false, eval e X.env)] := by rfl) :
    PI X (.Tuple elts kk tpos) (.Call (.Name "enumerate" p) [e] [] pos) (iEnumT X.K ta) := by
  refine ⟨fun pins s σ H R I h => ?_⟩
  refine Call_ (ld_blt I hg hm boot_enumerate (PyProof.Rows.callWith_type1 (thn (ha.run pos pins s σ H _ I h) fun us s1 ⟨vs, H1, I1, r1, q1⟩ => ?_) hs rfl))
  obtain ⟨a, xs, ex, hq, q⟩ := q1
  subst ex
  cases r1 with
  | cons r rr =>
    cases rr
    cases r
    obtain ⟨its, rv, p', hz⟩ := I1.tuple hq
    refine enum_begins1 (begins_tuple a its.toArray) p' fun h' he hit hsz hk => wpAny_pyIter_enum he ?_
    have I2 : Inv X pins σ H1 { s1 with heap := h' } := I1.kept (t' := s1.toks) hk
    refine ⟨s1.heap.objs.size + 1, [s1.heap.objs.size + 1, s1.heap.objs.size], _, _, H1, rfl, I2,
      turn_en (s1.heap.objs.size + 1) s1.heap.objs.size (Ti := fun i h => h.IsTupleIter s1.heap.objs.size a i) (fun i h t => ?_) (fun i h h' t k => t.at k) ?_, ⟨⟨.none, he⟩, ⟨_, hit, rfl, rfl⟩, Nat.succ_ne_self _⟩, fun b hb => ?_, q⟩
    · obtain ⟨o, e1, e2, e3⟩ := t
      exact ⟨o, e1, fun v z => by rw [e3] at z; cases z⟩
    · intro Y hP hw hK hc' i pins' s' σ' H' I' hgo hi hen ht
      obtain ⟨its', rv', pt, hz'⟩ := I'.tuple (by rw [hK]; exact hgo)
      have hl : its'.length = xs.length := rv'.length.symm
      have ha' : a ≠ s1.heap.objs.size := fun z => by
        obtain ⟨o, e1, e2, _⟩ := pt
        obtain ⟨o', e3, e4, _⟩ := ht
        rw [z, e3] at e1
        cases e1
        rw [e4] at e2
        exact absurd (Value.type.inj e2) (by decide)
      have hae : a ≠ s1.heap.objs.size + 1 := fun z => by
        obtain ⟨o, e1, e2, _⟩ := pt
        have : ∃ old, IsEnum s'.heap (s1.heap.objs.size + 1) s1.heap.objs.size ((i : Nat) : Int) old := by
          rcases hen with q | q
          · exact ⟨_, q⟩
          · exact q
        obtain ⟨old, e3⟩ := this
        have e3 : s'.heap.get? (s1.heap.objs.size + 1) = some _ := e3
        rw [z, e3] at e1
        cases e1
        exact absurd (Value.type.inj e2) (by decide)
      have Dr := Draws.tuple (prog := X.prog) (w := X.w) (A := Y.A.in1) (I'.ok.hd hc') s1.heap.objs.size a ha' its'.toArray
      rw [show its'.toArray.size = xs.length by simp [hl]] at Dr
      refine ⟨_, _, _, Dr, ⟨ht, pt⟩, ?_, fun k u hu => ?_, fun h st => st.1⟩
      · simp only [List.mem_cons, List.not_mem_nil, or_false, not_or]
        exact ⟨Nat.succ_ne_self _, fun z => hae z.symm⟩
      · have hu' : its'[k]? = some u := by simpa using hu
        have hk : k < its'.length := (List.getElem?_eq_some_iff.mp hu').1
        rw [hl] at hk
        obtain ⟨u', e1, ru⟩ := rv'.get (List.getElem?_eq_getElem hk)
        rw [hu'] at e1
        cases e1
        exact ⟨xs[k], ru, List.getElem?_eq_getElem hk⟩
    · have e' : b = s1.heap.objs.size + 1 ∨ b = s1.heap.objs.size := by simpa using hb
      have hle : s1.heap.objs.size ≤ b := by
        rcases e' with z | z
        · rw [z]; exact Nat.le_add_right _ _
        · rw [z]; exact Nat.le_refl _
      exact I1.fpOk hle (I1.hok.fresh hle)

/-- enumerate(a text) -/
def iEnumS (ta : TA) : TI := fun σ H R => ta σ H fun vs H1 => ∃ z, vs = [.str z] ∧ R (Ien z.cps.size (fun i _ x => ∃ c, z.cps[i]? = some c ∧ x = .str ⟨#[c]⟩) (fun _ => True)) H1
theorem pi_enumS {X : Cx} {e : Expr} {ta : TA} {p pos tpos : Pos} {elts : List Expr} {kk : Nat} (hc : X.calm = true) (hg : Gl X "enumerate") (hm : X.mg "enumerate" = none) (ha : PA X [e] ta) (hs : starEach [e] X.env = [(false, eval e X.env)] := by rfl) :
    PI X (.Tuple elts kk tpos) (.Call (.Name "enumerate" p) [e] [] pos) (iEnumS ta) := by
  refine ⟨fun pins s σ H R I h => ?_⟩
  refine Call_ (ld_blt I hg hm boot_enumerate (PyProof.Rows.callWith_type1 (thn (ha.run pos pins s σ H _ I h) fun us s1 ⟨vs, H1, I1, r1, q1⟩ => ?_) hs rfl))
  obtain ⟨z, ex, q⟩ := q1
  subst ex
  cases r1 with
  | cons r rr =>
    cases rr
    obtain ⟨tk, rfl⟩ := r
    refine enum_begins1 (begins_text z tk) trivial fun h' he hit hsz hk => wpAny_pyIter_enum he ?_
    have I2 : Inv X pins σ H1 { s1 with heap := h' } := I1.kept (t' := s1.toks) hk
    refine ⟨s1.heap.objs.size + 1, [s1.heap.objs.size + 1, s1.heap.objs.size], _, _, H1, rfl, I2,
      turn_en (s1.heap.objs.size + 1) s1.heap.objs.size (Ti := fun i h => h.IsStrIter s1.heap.objs.size (strIterType z) z tk i) (fun i h t => ?_) (fun i h h' t k => let ⟨o, e1, e2, e3⟩ := t; ⟨o, k o e1, e2, e3⟩) ?_, ⟨⟨.none, he⟩, ⟨_, hit, rfl, rfl⟩, Nat.succ_ne_self _⟩, fun b hb => ?_, q⟩
    · obtain ⟨o, e1, e2, e3⟩ := t
      exact ⟨o, e1, fun v z => by rw [e3] at z; cases z⟩
    · intro Y hP hw hK hc' i pins' s' σ' H' I' hgo hi hen ht
      have Dr := Draws.text (prog := X.prog) (w := X.w) (A := Y.A.in1) (I'.ok.hd hc') s1.heap.objs.size z tk
      refine ⟨_, _, _, Dr, ht, ?_, fun k u hu => ?_, fun h st => st⟩
      · simp only [List.mem_cons, List.not_mem_nil, or_false]
        exact Nat.succ_ne_self _
      · obtain ⟨c, t', hc1, rfl⟩ := hu
        exact ⟨.str ⟨#[c]⟩, ⟨t', rfl⟩, c, hc1, rfl⟩
    · have e' : b = s1.heap.objs.size + 1 ∨ b = s1.heap.objs.size := by simpa using hb
      have hle : s1.heap.objs.size ≤ b := by
        rcases e' with z | z
        · rw [z]; exact Nat.le_add_right _ _
        · rw [z]; exact Nat.le_refl _
      exact I1.fpOk hle (I1.hok.fresh hle)

section
variable {K : PySem.W.Frag} {σ : L2.St} {F B : Hp} {ta : TA} {ds : List D}
theorem it_enumT (h : EvA K ta σ F B [.tuple ds]) : ItrD K (iEnumT K ta) σ F B (enumD ds) := fun F1 H1 g R k => h F1 H1 g _ fun vs F2 H2 g2 hv => by
  obtain ⟨v, us, rfl, h1, h2⟩ := dpa_cons hv
  rw [dpa_nil h2]
  obtain ⟨a, xs, rfl, q1, q2⟩ := dp_tup h1
  refine ⟨a, xs, rfl, ex_t g2.fh q1, k _ F2 H2 g2 ⟨fun i H hi e => ?_, fun H e => ?_, fun i d F H x H' hd e1 e2 y => ?_⟩⟩
  · rw [enumD_len, ← q2.len] at hi
    exact ⟨hi, ex_t e q1⟩
  · rw [enumD_len, ← q2.len]
    exact ⟨rfl, ex_t e q1⟩
  · obtain ⟨T, w, rfl, hT, rfl, hw⟩ := y
    obtain ⟨e, he, rfl⟩ := enumD_get hd
    obtain ⟨u, hu, ku⟩ := q2.get he
    have ew : u = w := Option.some.inj (hu.symm.trans hw)
    subst ew
    exact ⟨upd F T (.tup [.int (i : Int), u]), Gr.new e2 hT, .tup (SqT.of upd_same) (.cons (.int _) (.cons ((ku.ex e1).ex (Ex.new (e2.free hT))) .nil))⟩
theorem it_enumS {z : Str} (h : EvA K ta σ F B [.str z]) : ItrD K (iEnumS ta) σ F B (enumD (signs z)) := fun F1 H1 g R k => h F1 H1 g _ fun vs F2 H2 g2 hv => by
  obtain ⟨v, us, rfl, h1, h2⟩ := dpa_cons hv
  rw [dpa_nil h2, dp_str h1]
  have hl : (enumD (signs z)).length = z.cps.size := by rw [enumD_len]; simp [signs]
  refine ⟨z, rfl, k _ F2 H2 g2 ⟨fun i H hi e => ?_, fun H e => ?_, fun i d F H x H' hd e1 e2 y => ?_⟩⟩
  · rw [hl] at hi
    exact ⟨hi, trivial⟩
  · exact ⟨hl, trivial⟩
  · obtain ⟨T, w, rfl, hT, rfl, c, hc, rfl⟩ := y
    obtain ⟨e, he, rfl⟩ := enumD_get hd
    unfold signs at he
    rw [List.getElem?_map, Array.getElem?_toList, hc] at he
    cases he
    exact ⟨upd F T (.tup [.int (i : Int), .str (chr c)]), Gr.new e2 hT, .tup (SqT.of upd_same) (.cons (.int _) (.cons (.str _) .nil))⟩
end
end TT
/-! Base4 -/
/-! Sorting data of any length; keys of dicts. -/
namespace TT
open PySem PySem.Spec PyProof.Rows L2

def sortD (ds : List D) : List D := ds.mergeSort (PySem.W.dataLe false id)
section
variable {X : Cx}
def RV (K : PySem.W.Frag) (F : Hp) (u : Value) (d : D) : Prop := ∃ x, RelV x u ∧ Dp K F x d
theorem each_of {K : PySem.W.Frag} {F : Hp} : ∀ {vs : List V} {us : List Value} {ds : List D}, DpAll K F vs ds → Vals vs us → PySem.W.EachIs (RV K F) us ds
  | _, _, _, .nil, .nil => .nil
  | _, _, _, .cons h1 h2, .cons r1 r2 => .cons ⟨_, r1, h1⟩ (each_of h2 r2)
theorem each_to {K : PySem.W.Frag} {F : Hp} : ∀ {us : List Value} {ds : List D}, PySem.W.EachIs (RV K F) us ds → ∃ vs, Vals vs us ∧ DpAll K F vs ds
  | _, _, .nil => ⟨[], .nil, .nil⟩
  | _, _, .cons ⟨x, r1, h1⟩ t => by
    obtain ⟨vs, a, b⟩ := each_to t
    exact ⟨x :: vs, .cons r1 a, .cons h1 b⟩
theorem each_reads {pins σ H s} (I : Inv X pins σ H s) : ∀ {vs : List V} {us : List Value} {ds : List D}, DpAll X.K H vs ds → Vals vs us → PySem.W.EachIs (fun v b => ∃ as, Reads s.heap v (id b) as) us ds
  | _, _, _, .nil, .nil => .nil
  | _, _, _, .cons h1 h2, .cons r1 r2 => .cons (Dp.reads I _ _ _ h1 r1) (each_reads I h2 r2)
def rSortL (K : PySem.W.Frag) : List V → Hp → VK → Prop := fun xs H Q => ∃ (a : Addr) (vs : List V) (ds : List D) (F : Hp), xs = [.ref a] ∧ SqL K H a vs ∧ DpAll K H vs ds ∧ DpAll K F vs ds ∧ PySem.W.AllAlike ds ∧ PySem.W.Sortable ds ∧ (∀ d ∈ ds, d.depth ≤ 60) ∧
    ∀ p us, H p = none → DpAll K F us (sortD ds) → Q (.ref p) (upd H p (.lst us))
theorem call_sortedL (hu : X.A.units + 64 < cLine) : CallR X (.builtin "sorted") (rSortL X.K) := by
  intro pins s σ H xs us Q I r q
  obtain ⟨a, vs, ds, F, ex, hs, h1, h2, hal, hso, hdp, q⟩ := q
  subst ex
  obtain ⟨u, eu, rx⟩ := vals1 r
  subst eu
  cases rx
  obtain ⟨its, rv, ht, hz⟩ := I.list hs
  have hl : s.heap.IsList a its.toArray := ht.isList
  refine PySem.W.sorted_data (enc := id) (R := RV X.K F) hl (each_of h2 rv) (each_reads I h1 rv) (by rw [List.map_id]; exact hal) (by rw [List.map_id]; exact hso) (by rw [← h1.len]; exact hz) (fun d hd' => ?_) fun out ho' eo => ?_
  · have := hdp d hd'
    show X.A.units + 2 + d.depth < cLine
    omega
  · obtain ⟨ys, v1, d1⟩ := each_to eo
    obtain ⟨c, hcc⟩ := PyProof.Rows.sortedAll_at s.heap its out.toArray
    have hlen : ys.length ≤ sizeLine := by
      rw [d1.len, List.length_mergeSort, ← h1.len]
      exact hz
    exact ⟨.ref (s.heap.objs.size + 1), upd H (s.heap.objs.size + 1) (.lst ys), I.laid (t' := s.toks) (fun b ob e => PyProof.Rows.sortedAll_old e) (Nat.le_succ _)
      (show ObjOk X.prog X.w _ _ _ (.lst ys) from ⟨hlen, out, c, v1, hcc⟩), rfl, q _ ys (I.hok.fresh (Nat.le_succ _)) d1⟩
end

section
variable {X : Cx}
def keyD : Key → D
  | .inl i => .int i
  | .inr x => .str x
theorem keyD_dp {K : PySem.W.Frag} {F : Hp} (k : Key) : Dp K F (kV k) (keyD k) := by
  cases k with
  | inl i => exact .int i
  | inr x => exact .str x
theorem keysD_dp {K : PySem.W.Frag} {F : Hp} : ∀ ks : List Key, DpAll K F (ks.map kV) (ks.map keyD)
  | [] => .nil
  | k :: ks => .cons (keyD_dp k) (keysD_dp ks)
def rSortK : List V → Hp → VK → Prop := fun xs H Q => ∃ (a : Addr) (kvs : List (Key × V)), xs = [.ref a] ∧ Rd H a (.dK kvs) ∧ PySem.W.AllAlike (kvs.map fun kv => keyD kv.1) ∧
    ∀ K F p us, H p = none → DpAll K F us (sortD (kvs.map fun kv => keyD kv.1)) → Q (.ref p) (upd H p (.lst us))
theorem reads_keys {h : Heap} : ∀ {us : List Value} {ks : List Key}, Vals (ks.map kV) us → PySem.W.EachIs (fun v b => ∃ as, Reads h v (id b) as ∧ ∀ a : Addr, a ∉ as) us (ks.map keyD)
  | _, [], r => by cases r; exact .nil
  | _, k :: ks, r => by
    cases r with
    | cons r1 r2 =>
      refine .cons ?_ (reads_keys r2)
      cases k with
      | inl i => obtain ⟨t, rfl⟩ := r1; exact ⟨[], .int i t, fun a h => by cases h⟩
      | inr x => obtain ⟨t, rfl⟩ := r1; exact ⟨[], .str x t, fun a h => by cases h⟩
theorem flat_all {K K2 : PySem.W.Frag} {F F' : Hp} : ∀ {us : List V} {ds : List D}, (∀ d ∈ ds, ∃ k, d = keyD k) → DpAll K F us ds → DpAll K2 F' us ds
  | _, [], _, h => by cases h; exact .nil
  | _, d :: ds, hd, h => by
    cases h with
    | cons h1 h2 =>
      refine .cons ?_ (flat_all (fun x hx => hd x (List.mem_cons_of_mem _ hx)) h2)
      obtain ⟨k, rfl⟩ := hd d List.mem_cons_self
      cases k with
      | inl i => rw [dp_int h1]; exact .int i
      | inr x => rw [dp_str h1]; exact .str x
theorem call_sortedK (hcalm : X.calm = true) (hu : X.A.units + 64 < cLine) : CallR X (.builtin "sorted") rSortK := by
  intro pins s σ H xs us Q I r q
  obtain ⟨a, kvs, ex, hd, hal, q⟩ := q
  subst ex
  obtain ⟨u, eu, rx⟩ := vals1 r
  subst eu
  cases rx
  obtain ⟨z, lo, vs, rel, dd⟩ := dk_rd I.hok hd
  obtain ⟨ep, hat⟩ := dd.dictAt
  have hl : vs.length = kvs.length := rel.length.symm
  have h16 : vs.length ≤ sizeLine := by rw [hl]; exact z
  refine Calls.call_function_entry PyProof.Rows.kind_sorted PyProof.Rows.plain_sorted PyProof.Rows.entry_sorted (PyProof.Rows.args_sorted1 _) ?_
  unfold Builtin.«sorted»
  refine wpAny_bind (m := checkCount "sorted" 1 1 _) (wpAny_pure ?_)
  refine wpAny_bind (PySem.W.kdu_collect (A := X.A.in1) (PySem.W.kdl_dict (knd := mixKind X.prog X.w) (kvs := vs) (ep := ep) lo) (I.ok.hd hcalm) hat h16 fun h' tk acc hk hacc => ?_)
  have hal' : acc.toList.length = vs.length := by rw [Array.length_toList]; exact hacc.1
  have ek : (kvs.map fun kv => keyD kv.1) = (vs.map (·.1)).map keyD := by
    have e := congrArg (List.map keyD) rel.keys
    rw [List.map_map] at e
    exact e
  have hv : Vals ((vs.map (·.1)).map kV) acc.toList := by
    rw [List.map_map]
    exact keys_at hal' fun j v e => hacc.2 j v (by rw [← Array.getElem?_toList]; exact e)
  have I1 : Inv X pins σ H { s with heap := h', toks := tk } := I.kept hk
  refine wpAny_bind (wpAny_newList ?_ (by rw [hal', hl]; exact z))
  have hoL : (h'.push (seqObj "list" acc.toList.toArray 0)).get? h'.objs.size = some (seqObj "list" acc.toList.toArray 0) := Heap.get?_push_size _ rfl
  show wpAny _ _ _ _ _ { s with heap := h'.push (seqObj "list" acc.toList.toArray 0), toks := tk }
  have hlen2 : ((vs.map (·.1)).map keyD).length = vs.length := by rw [List.length_map, List.length_map]
  refine wpAny_bind (wpAny_holding (PySem.W.list_sort_data (R := RV X.K H) (enc := id) (bs := (vs.map (·.1)).map keyD) (s := { s with heap := h'.push (seqObj "list" acc.toList.toArray 0), toks := tk }) hoL (each_of (keysD_dp _) hv)
    ((reads_keys hv).mono fun v b ⟨as, h1, h2⟩ => ⟨as, h1, h2 _⟩) (by rw [List.map_id, ← ek]; exact hal) (.inr fun d hd' => ?_) (by rw [hlen2]; exact h16) (fun d hd' => ?_) fun out ho' eo => ?_))
  · rw [List.map_id] at hd'
    obtain ⟨k, _, rfl⟩ := List.mem_map.mp hd'
    cases k <;> exact ⟨fun h => (nomatch h), fun xs h => (nomatch h)⟩
  · obtain ⟨k, _, rfl⟩ := List.mem_map.mp hd'
    have : (keyD k).depth = 0 := by cases k <;> simp [keyD, PyData.depth]
    show X.A.units + 1 + 1 + (keyD k).depth < cLine
    omega
  · obtain ⟨ys, v1, d1⟩ := each_to eo
    obtain ⟨e', he'⟩ := PyProof.Rows.sortedHeap_at (vs := acc.toList) (out := out.toArray) hoL
    have hlen : ys.length ≤ sizeLine := by
      rw [d1.len, List.length_mergeSort, hlen2]
      exact h16
    refine wpAny_pure ⟨_, rfl, .ref h'.objs.size, upd H h'.objs.size (.lst ys), I1.laid (t' := tk) (fun b u e => ?_) (Nat.le_refl _)
      (show ObjOk X.prog X.w _ _ _ (.lst ys) from ⟨hlen, out, e', v1, he'⟩), rfl, q X.K H _ ys (I1.hok.fresh (Nat.le_refl _)) (by rw [ek]; exact d1)⟩
    have hb : b < h'.objs.size := Heap.lt_size e
    rw [PyProof.Rows.sortedHeap_old (Nat.ne_of_lt hb) (by rw [size_push']; exact Nat.lt_succ_of_lt hb)]
    exact Heap.get?_push_of_some _ e
end
end TT
/-! Base5 -/
/-! The rules with K said, and their readings by data. -/
namespace TT
open PySem PySem.Spec PyProof.Rows L2

/-! ### rules with K said -/
section
variable {X : Cx} {K : PySem.W.Frag} (hK : X.K = K)
include hK
theorem kix_list : IxR X (rIxL K) := hK ▸ ix_list
theorem kix_tup : IxR X (rIxT K) := hK ▸ ix_tup
theorem kin : OpR X (compareOp .In) (rIn K false) := hK ▸ op_in_seq
theorem knin : OpR X (compareOp .NotIn) (rIn K true) := hK ▸ op_notIn_seq
theorem keqD (hu : X.A.units + 64 < cLine) : OpR X (compareOp .Eq) (rEqD K) := hK ▸ op_eqD hu
theorem kneD (hu : X.A.units + 64 < cLine) : OpR X (compareOp .NotEq) (rNeD K) := hK ▸ op_neD hu
theorem kcatT : OpR X (binaryOp .Add) (rCatA K) := hK ▸ op_catA
theorem ksl_tup : SlR X (rSlA K) := hK ▸ sl_tupA
theorem ksl_list : SlR X (rSlL K) := hK ▸ sl_list
def rLen (K : PySem.W.Frag) : List V → Hp → VK → Prop := fun xs H Q => ∃ x n, xs = [x] ∧ LenV K x H n ∧ Q (.int n) H
theorem kc_len : CallR X (.builtin "len") (rLen K) := hK ▸ call_len
theorem kc_all (hc : X.calm = true) : CallR X (.builtin "all") (rAll K) := hK ▸ cr_all hc
theorem kc_any (hc : X.calm = true) : CallR X (.builtin "any") (rAny K) := hK ▸ cr_any hc
theorem kc_sum (hc : X.calm = true) : CallR X (.builtin "sum") (rSum K) := hK ▸ cr_sum hc
def rTupOf (K : PySem.W.Frag) : List V → Hp → VK → Prop := fun xs H Q => ∃ p ys, xs = [.ref p] ∧ ((SqL K H p ys ∧ ∀ l, H l = none → Q (.ref l) (upd H l (.tup ys))) ∨ (SqT K H p ys ∧ Q (.ref p) H))
theorem kc_tuple : CallR X (.type "tuple") (rTupOf K) := hK ▸ call_tuple_of
def rLstOf (K : PySem.W.Frag) : List V → Hp → VK → Prop := fun xs H Q => ∃ p ys, xs = [.ref p] ∧ (SqL K H p ys ∨ SqT K H p ys) ∧ ∀ l, H l = none → Q (.ref l) (upd H l (.lst ys))
theorem kc_list : CallR X (.type "list") (rLstOf K) := hK ▸ call_list_of
theorem kc_isi : CallR X (.builtin "isinstance") (rIsi K) := hK ▸ call_isi
theorem kc_sortedL (hu : X.A.units + 64 < cLine) : CallR X (.builtin "sorted") (rSortL K) := hK ▸ call_sortedL hu
def rDictP (K : PySem.W.Frag) : List V → Hp → VK → Prop := fun xs H Q => ∃ (a : Addr) (ps : List Addr) (kvs : List (Key × V)), xs = [.ref a] ∧ SqL K H a (ps.map V.ref) ∧ Paired (fun p kv => SqT K H p [kV kv.1, kv.2]) ps kvs ∧
    ∀ p, H p = none → Q (.ref p) (upd H p (.dK (mergeK [] kvs)))
theorem kc_dictP (hc : X.calm = true) : CallR X (.type "dict") (rDictP K) := hK ▸ call_dictP hc
theorem kpi_list {tg l : Expr} {tl : TE} (hl : PE X l tl) : PI X tg l (iList K tl) := hK ▸ pi_list hl
theorem kpi_tup {tg l : Expr} {tl : TE} (hl : PE X l tl) : PI X tg l (iTup K tl) := hK ▸ pi_tup hl
theorem kpi_enum {e : Expr} {ta : TA} {p pos tpos : Pos} {elts : List Expr} {kk : Nat} (hg : Gl X "enumerate") (hm : X.mg "enumerate" = none) (ha : PA X [e] ta) (hs : starEach [e] X.env = [(false, eval e X.env)] := by rfl) :
    PI X (.Tuple elts kk tpos) (.Call (.Name "enumerate" p) [e] [] pos) (iEnum K ta) := hK ▸ pi_enum hg hm ha hs
theorem kpi_enumT {e : Expr} {ta : TA} {p pos tpos : Pos} {elts : List Expr} {kk : Nat} (hc : X.calm = true) (hg : Gl X "enumerate") (hm : X.mg "enumerate" = none) (ha : PA X [e] ta) (hs : starEach [e] X.env = [(false, eval e X.env)] := by rfl) :
    PI X (.Tuple elts kk tpos) (.Call (.Name "enumerate" p) [e] [] pos) (iEnumT K ta) := hK ▸ pi_enumT hc hg hm ha hs
theorem kpg_tup {es : List Expr} {k : Nat} {pos : Pos} {t : TGs} {n : Nat} (hc : X.calm = true) (h : PGs X es t)
    (hn : (assignEach es X.env).length = n := by rfl) (hst : (assignEach es X.env).findIdx? (·.1) = none := by rfl) : PG X (.Tuple es k pos) (gTup K n t) := hK ▸ pg_tup hc h hn hst
theorem kpg_unl {es : List Expr} {k : Nat} {pos : Pos} {t : TGs} {n : Nat} (hc : X.calm = true) (h : PGs X es t)
    (hn : (assignEach es X.env).length = n := by rfl) (hst : (assignEach es X.env).findIdx? (·.1) = none := by rfl) : PG X (.Tuple es k pos) (gUnl K n t) := hK ▸ pg_unl hc h hn hst
theorem kfld {e : Expr} {f : Str} {pos : Pos} {ta : TE} (he : PE X e ta) (hb : attributeBase e f X.env (eval e X.env) = eval e X.env) : PE X (.Attribute e f pos) (tFld K ta f) := hK ▸ pe_fld he hb
theorem kbm0 {o : Expr} {to : TE} {name : Str} {apos cpos : Pos} {T id : String} {r : V → List V → Hp → VK → Prop} (pa : PlainAttrs T) (slot : Slot T name id) (hty : typeOf (.builtin id) = pure (.type "method_descriptor")) (hm : MtR X id r) (ho : PE X o to)
    (hbase : attributeBase o name X.env (eval o X.env) = eval o X.env := by rfl) (hline : (apos.endLine == cpos.line) = true := by rfl) : PE X (.Call (.Attribute o name apos) [] [] cpos) (tBM0 K T r to) := hK ▸ pe_bm0 pa slot hty hm ho hbase hline
theorem kbm {o e : Expr} {es : List Expr} {to : TE} {t : TA} {name : Str} {apos cpos : Pos} {T id : String} {r : V → List V → Hp → VK → Prop} (pa : PlainAttrs T) (slot : Slot T name id) (hty : typeOf (.builtin id) = pure (.type "method_descriptor")) (hm : MtR X id r) (ho : PE X o to) (ha : PA X (e :: es) t)
    (hbase : attributeBase o name X.env (eval o X.env) = eval o X.env := by rfl)
    (hfew : ((backTo cpos (starEach (e :: es) X.env)).all (fun x => !x.1) && (backToKw cpos (keywordEach [] X.env)).all (fun x => x.1.isSome)
      && decide ((e :: es).length + ([] : List Keyword).length + (if ([] : List Keyword).isEmpty then 0 else 1) < 30)) = true := by rfl)
    (hline : (apos.endLine == cpos.line) = true := by rfl) (hs : starEach (e :: es) X.env = (false, eval e X.env) :: starEach es X.env := by rfl) (hplain : (backTo cpos (starEach es X.env)).any (·.1) = false := by rfl) :
    PE X (.Call (.Attribute o name apos) (e :: es) [] cpos) (tBM K T r to t) := hK ▸ pe_bm pa slot hty hm ho ha hbase hfew hline hs hplain
def rJoin (K : PySem.W.Frag) : V → List V → Hp → VK → Prop := fun x xs H Q => ∃ a p, ∃ ys : List Str, x = .str a ∧ xs = [.ref p] ∧ (SqL K H p (ys.map V.str) ∨ SqT K H p (ys.map V.str)) ∧
    (ys.map (·.length)).sum + ys.length * a.length ≤ 16777216 ∧ Q (.str (Txt.join a ys)) H
theorem kmt_join : MtR X "str.join" (rJoin K) := hK ▸ mt_join
end
end TT
/-! Txt0 -/
/-! The text by places, its names and facts. -/
namespace TT
open PySem PySem.Spec PyProof.Rows L2
def top (i : Nat) : Stmt := PySem.Challenge.pw_twothreads_k23_whole_alike_runs_by_all_e.main.body.getD i (.Pass ⟨0, 0, 0, 0⟩)
abbrev st_is_integer : Stmt := top 11
abbrev st_sections : Stmt := top 12
abbrev st_accesses : Stmt := top 13
abbrev st_lock_contests : Stmt := top 15
abbrev st_data_contests : Stmt := top 16
abbrev st_contests : Stmt := top 17
abbrev st_forces : Stmt := top 18
abbrev st_check_number : Stmt := top 19
abbrev st_forced_lists : Stmt := top 20
abbrev st_steps_away : Stmt := top 21
abbrev st_forced_by : Stmt := top 22
abbrev st_holdings : Stmt := top 24
abbrev st_init : Stmt := inClass (top 25) 0
abbrev st_is_open_at : Stmt := inClass (top 25) 1
abbrev st_is_run : Stmt := top 28
abbrev st_check_run : Stmt := top 29
abbrev st_places_of : Stmt := top 30
abbrev st_winners_of : Stmt := top 31
abbrev st_winners : Stmt := top 32
abbrev st_alike : Stmt := top 33
abbrev st__law_start : Stmt := top 35
abbrev st__law_draw : Stmt := top 36
abbrev st__law_choice : Stmt := top 37
abbrev st__law_names : Stmt := top 38
abbrev st__law_thread : Stmt := top 39
abbrev st__law_parts : Stmt := top 40
abbrev st__law_contests : Stmt := top 41
abbrev st__law_pair : Stmt := top 42
abbrev st__law_crossed : Stmt := top 43
abbrev st__law_kept : Stmt := top 44
abbrev st__law_is_open : Stmt := top 45
abbrev st__law_winners : Stmt := top 46
abbrev st__law_every_run : Stmt := top 47
abbrev st__law_blocks : Stmt := top 48
abbrev st__law_forces : Stmt := top 49
abbrev st__law_led : Stmt := top 50
abbrev st__law_concerned : Stmt := top 51
abbrev st__law_turned : Stmt := top 52
abbrev st__law_classes : Stmt := top 53
abbrev st__law_closed_letters : Stmt := top 54
abbrev st__law_right : Stmt := top 55
abbrev st_law : Stmt := top 56
/-- what the top has written -/
structure Txt (K : PySem.W.Frag) (mg : Str → Option Value) : Prop where
  g_FREE : ∃ u, mg "FREE" = some u ∧ RelV (.str "free") u
  g_LETTERS : ∃ u, mg "LETTERS" = some u ∧ RelV (.str "ab") u
  g_LOCK : ∃ u, mg "LOCK" = some u ∧ RelV (.str "lock") u
  g_READ : ∃ u, mg "READ" = some u ∧ RelV (.str "read") u
  g_SHARE : ∃ u, mg "SHARE" = some u ∧ RelV (.str "share") u
  g_WRITE : ∃ u, mg "WRITE" = some u ∧ RelV (.str "write") u
  b_abs : mg "abs" = none
  b_all : mg "all" = none
  b_any : mg "any" = none
  b_bool : mg "bool" = none
  b_dict : mg "dict" = none
  b_enumerate : mg "enumerate" = none
  b_int : mg "int" = none
  b_isinstance : mg "isinstance" = none
  b_len : mg "len" = none
  b_list : mg "list" = none
  b_max : mg "max" = none
  b_min : mg "min" = none
  b_range : mg "range" = none
  b_set : mg "set" = none
  b_sorted : mg "sorted" = none
  b_str : mg "str" = none
  b_sum : mg "sum" = none
  b_tuple : mg "tuple" = none
  d_is_integer : ∃ f fd, C8.Def K mg "is_integer" st_is_integer f fd ∧ fd.defaults = .none
  d_sections : ∃ f fd, C8.Def K mg "sections" st_sections f fd ∧ fd.defaults = .none
  d_accesses : ∃ f fd, C8.Def K mg "accesses" st_accesses f fd ∧ fd.defaults = .none
  d_lock_contests : ∃ f fd, C8.Def K mg "lock_contests" st_lock_contests f fd ∧ fd.defaults = .none
  d_data_contests : ∃ f fd, C8.Def K mg "data_contests" st_data_contests f fd ∧ fd.defaults = .none
  d_contests : ∃ f fd, C8.Def K mg "contests" st_contests f fd ∧ fd.defaults = .none
  d_forces : ∃ f fd, C8.Def K mg "forces" st_forces f fd ∧ fd.defaults = .none
  d_check_number : ∃ f fd, C8.Def K mg "check_number" st_check_number f fd ∧ fd.defaults = .none
  d_forced_lists : ∃ f fd, C8.Def K mg "forced_lists" st_forced_lists f fd ∧ fd.defaults = .none
  d_steps_away : ∃ f fd, C8.Def K mg "steps_away" st_steps_away f fd ∧ fd.defaults = .none
  d_forced_by : ∃ f fd, C8.Def K mg "forced_by" st_forced_by f fd ∧ fd.defaults = .none
  d_holdings : ∃ f fd, C8.Def K mg "holdings" st_holdings f fd ∧ fd.defaults = .none
  d_is_run : ∃ f fd, C8.Def K mg "is_run" st_is_run f fd ∧ fd.defaults = .none
  d_check_run : ∃ f fd, C8.Def K mg "check_run" st_check_run f fd ∧ fd.defaults = .none
  d_places_of : ∃ f fd, C8.Def K mg "places_of" st_places_of f fd ∧ fd.defaults = .none
  d_winners_of : ∃ f fd, C8.Def K mg "winners_of" st_winners_of f fd ∧ fd.defaults = .none
  d_winners : ∃ f fd, C8.Def K mg "winners" st_winners f fd ∧ fd.defaults = .none
  d_alike : ∃ f fd, C8.Def K mg "alike" st_alike f fd ∧ fd.defaults = .none
  d__law_start : ∃ f fd, C8.Def K mg "_law_start" st__law_start f fd ∧ fd.defaults = .none
  d__law_draw : ∃ f fd, C8.Def K mg "_law_draw" st__law_draw f fd ∧ fd.defaults = .none
  d__law_choice : ∃ f fd, C8.Def K mg "_law_choice" st__law_choice f fd ∧ fd.defaults = .none
  d__law_names : ∃ f fd, C8.Def K mg "_law_names" st__law_names f fd ∧ fd.defaults = .none
  d__law_thread : ∃ f fd, C8.Def K mg "_law_thread" st__law_thread f fd ∧ fd.defaults = .none
  d__law_parts : ∃ f fd, C8.Def K mg "_law_parts" st__law_parts f fd ∧ fd.defaults = .none
  d__law_contests : ∃ f fd, C8.Def K mg "_law_contests" st__law_contests f fd ∧ fd.defaults = .none
  d__law_pair : ∃ f fd, C8.Def K mg "_law_pair" st__law_pair f fd ∧ fd.defaults = .none
  d__law_crossed : ∃ f fd, C8.Def K mg "_law_crossed" st__law_crossed f fd ∧ fd.defaults = .none
  d__law_kept : ∃ f fd, C8.Def K mg "_law_kept" st__law_kept f fd ∧ fd.defaults = .none
  d__law_is_open : ∃ f fd, C8.Def K mg "_law_is_open" st__law_is_open f fd ∧ fd.defaults = .none
  d__law_winners : ∃ f fd, C8.Def K mg "_law_winners" st__law_winners f fd ∧ fd.defaults = .none
  d__law_every_run : ∃ f fd, C8.Def K mg "_law_every_run" st__law_every_run f fd ∧ fd.defaults = .none
  d__law_blocks : ∃ f fd, C8.Def K mg "_law_blocks" st__law_blocks f fd ∧ fd.defaults = .none
  d__law_forces : ∃ f fd, C8.Def K mg "_law_forces" st__law_forces f fd ∧ fd.defaults = .none
  d__law_led : ∃ f fd, C8.Def K mg "_law_led" st__law_led f fd ∧ fd.defaults = .none
  d__law_concerned : ∃ f fd, C8.Def K mg "_law_concerned" st__law_concerned f fd ∧ fd.defaults = .none
  d__law_turned : ∃ f fd, C8.Def K mg "_law_turned" st__law_turned f fd ∧ fd.defaults = .none
  d__law_classes : ∃ f fd, C8.Def K mg "_law_classes" st__law_classes f fd ∧ fd.defaults = .none
  d__law_closed_letters : ∃ f fd, C8.Def K mg "_law_closed_letters" st__law_closed_letters f fd ∧ fd.defaults = .none
  d__law_right : ∃ f fd, C8.Def K mg "_law_right" st__law_right f fd ∧ fd.defaults = .none
  d_law : ∃ f fd, C8.Def K mg "law" st_law f fd ∧ fd.defaults = .none
end TT
/-! Base6 -/
/-! Readings by data; statements over the state. -/
namespace TT
open PySem PySem.Spec PyProof.Rows L2

section
variable {K : PySem.W.Frag} {σ : L2.St} {es : List SV} {F B F' B' : Hp} {ta tb te tx tc : TE} {t u : TT} {x y z d : D} {v : V} {r r' : R2} {i : Nat}

/-! ### new lists by calls -/
/-- called with data ds, it hands back a new list of data -/
def SpN (K : PySem.W.Frag) (R : List D → List D → Prop) : Sp := fun vs H Q _ => ∃ F ds zs, Ex F H ∧ DpAll K F vs ds ∧ R ds zs ∧ ∀ p us F' H', Gr F H F' H' → H p = none → F' p = none → H' p = some (.lst us) → DpAll K F' us zs → Q (.ref p) H'
theorem en_call {R : List D → List D → Prop} {E : XK} {ta : TA} {ds zs : List D} (h : EvA K ta σ F B ds) (hR : R ds zs) : EvN K (tCall (SpN K R) [] E ta) σ F B zs := fun F1 H1 g Q q =>
  h F1 H1 g _ fun vs F2 H2 g2 k2 => ⟨F2, ds, zs, g2.fh, by rw [List.append_nil]; exact k2, hR, fun p us F3 H3 g3 hp hf h3 k3 => q p us F3 H3 (g2.trans g3) (g2.hh.free hp) hf h3 k3⟩
theorem spN_len {R : List D → List D → Prop} {n : Nat} (hn : ∀ ds d, R ds d → ds.length = n) : ∀ vs H Q E, SpN K R vs H Q E → vs.length = n := fun vs H Q E ⟨F, ds, d, _, k, hR, _⟩ => by rw [k.len, hn ds d hR]

/-! ### built-in calls by data -/
theorem DpAll.hh {vs : List V} {ds : List D} (h : DpAll K F vs ds) (e : Ex F B) : DpAll K B vs ds := h.ex e
theorem rc_len {ds : List D} (hd : d = .list ds ∨ d = .tuple ds) : RCD K (rLen K) [d] F B (.int ds.length) := rc_val fun vs F1 H1 g h => by
  obtain ⟨v, us, rfl, h1, h2⟩ := dpa_cons h
  rw [dpa_nil h2]
  rcases hd with rfl | rfl
  · obtain ⟨a, xs, rfl, q1, q2⟩ := dp_lst h1
    exact ⟨.int xs.length, by rw [q2.len]; exact .int _, fun Q q => ⟨_, _, rfl, .inl ⟨xs, ex_l g.fh q1, rfl⟩, q⟩⟩
  · obtain ⟨a, xs, rfl, q1, q2⟩ := dp_tup h1
    exact ⟨.int xs.length, by rw [q2.len]; exact .int _, fun Q q => ⟨_, _, rfl, .inr ⟨xs, ex_t g.fh q1, rfl⟩, q⟩⟩
theorem rc_lenL {ds : List D} : RCD K (rLen K) [.list ds] F B (.int ds.length) := rc_len (.inl rfl)
theorem rc_lenT {ds : List D} : RCD K (rLen K) [.tuple ds] F B (.int ds.length) := rc_len (.inr rfl)
theorem rc_lenS {s : Str} (hz : s.length ≤ 100000) : RCD K (rLen K) [.str s] F B (.int s.length) := rc_val fun vs F1 H1 g h => by
  obtain ⟨v, us, rfl, h1, h2⟩ := dpa_cons h
  rw [dpa_nil h2, dp_str h1]
  exact ⟨_, .int _, fun Q q => ⟨_, _, rfl, ⟨Nat.le_trans hz (by decide), rfl⟩, q⟩⟩
theorem rc_all {bs : List Bool} : RCD K (rAll K) [.list (bs.map .bool)] F B (.bool (bs.all id)) := rc_val fun vs F1 H1 g h => by
  obtain ⟨v, us, rfl, h1, h2⟩ := dpa_cons h
  rw [dpa_nil h2]
  obtain ⟨a, xs, rfl, q1, q2⟩ := dp_lst h1
  have e := dpa_bls q2
  subst e
  exact ⟨_, .bl _, fun Q q => ⟨a, bs, rfl, ex_l g.fh q1, q⟩⟩
theorem rc_any {bs : List Bool} : RCD K (rAny K) [.list (bs.map .bool)] F B (.bool (bs.any id)) := rc_val fun vs F1 H1 g h => by
  obtain ⟨v, us, rfl, h1, h2⟩ := dpa_cons h
  rw [dpa_nil h2]
  obtain ⟨a, xs, rfl, q1, q2⟩ := dp_lst h1
  have e := dpa_bls q2
  subst e
  exact ⟨_, .bl _, fun Q q => ⟨a, bs, rfl, ex_l g.fh q1, q⟩⟩
theorem rc_sum {ns : List Int} : RCD K (rSum K) [.list (ns.map .int)] F B (.int ns.sum) := rc_val fun vs F1 H1 g h => by
  obtain ⟨v, us, rfl, h1, h2⟩ := dpa_cons h
  rw [dpa_nil h2]
  obtain ⟨a, xs, rfl, q1, q2⟩ := dp_lst h1
  have e := dpa_ints q2
  subst e
  exact ⟨_, .int _, fun Q q => ⟨a, ns, rfl, ex_l g.fh q1, q⟩⟩
theorem rc_tup {ds : List D} : RCD K (rTupOf K) [.list ds] F B (.tuple ds) := fun F1 H1 g vs h Q q => by
  obtain ⟨v, us, rfl, h1, h2⟩ := dpa_cons h
  rw [dpa_nil h2]
  obtain ⟨a, xs, rfl, q1, q2⟩ := dp_lst h1
  exact ⟨a, xs, rfl, .inl ⟨ex_l g.fh q1, fun l hl => q (.ref l) (upd F1 l (.tup xs)) _ (Gr.new g.fh hl) (.tup (SqT.of upd_same) (q2.ex (Ex.new (g.fh.free hl))))⟩⟩
theorem rcn_lst {ds : List D} (hd : d = .list ds ∨ d = .tuple ds) : RCN K (rLstOf K) [d] F B ds := fun F1 H1 g vs h Q q => by
  obtain ⟨v, us, rfl, h1, h2⟩ := dpa_cons h
  rw [dpa_nil h2]
  rcases hd with rfl | rfl
  · obtain ⟨a, xs, rfl, q1, q2⟩ := dp_lst h1
    exact ⟨a, xs, rfl, .inl (ex_l g.fh q1), fun l hl => q l xs F1 _ (Gr.mut g.fh hl) hl (g.fh.free hl) upd_same q2⟩
  · obtain ⟨a, xs, rfl, q1, q2⟩ := dp_tup h1
    exact ⟨a, xs, rfl, .inr (ex_t g.fh q1), fun l hl => q l xs F1 _ (Gr.mut g.fh hl) hl (g.fh.free hl) upd_same q2⟩
theorem rc_intB {b : Bool} : RCD K (fun xs H Q => (∃ i, xs = [.int i] ∧ Q (.int i) H) ∨ ∃ k, xs = [.bl k] ∧ Q (.int (if k then 1 else 0)) H) [.bool b] F B (.int (if b then 1 else 0)) := rc_val fun vs F1 H1 g h => by
  obtain ⟨v, us, rfl, h1, h2⟩ := dpa_cons h
  rw [dpa_nil h2, dp_bl h1]
  exact ⟨_, .int _, fun Q q => .inr ⟨b, rfl, q⟩⟩
theorem rc_abs {n : Int} : RCD K (fun xs H Q => ∃ i, xs = [.int i] ∧ Q (.int (if i < 0 then -i else i)) H) [.int n] F B (.int (if n < 0 then -n else n)) := rc_val fun vs F1 H1 g h => by
  obtain ⟨v, us, rfl, h1, h2⟩ := dpa_cons h
  rw [dpa_nil h2, dp_int h1]
  exact ⟨_, .int _, fun Q q => ⟨n, rfl, q⟩⟩
theorem rc_i2 {m n : Int} {g : Int → Int → Int} : RCD K (fun xs H Q => ∃ i j, xs = [.int i, .int j] ∧ Q (.int (g i j)) H) [.int m, .int n] F B (.int (g m n)) := rc_val fun vs F1 H1 gr h => by
  obtain ⟨v, us, rfl, h1, h2⟩ := dpa_cons h
  obtain ⟨v2, us2, rfl, h3, h4⟩ := dpa_cons h2
  rw [dpa_nil h4, dp_int h1, dp_int h3]
  exact ⟨_, .int _, fun Q q => ⟨m, n, rfl, q⟩⟩
theorem rcn_sort {ds : List D} (hal : PySem.W.AllAlike ds) (hso : PySem.W.Sortable ds) (hd : ∀ d ∈ ds, d.depth ≤ 60) : RCN K (rSortL K) [.list ds] F B (sortD ds) := fun F1 H1 g vs h Q q => by
  obtain ⟨v, us, rfl, h1, h2⟩ := dpa_cons h
  rw [dpa_nil h2]
  obtain ⟨a, xs, rfl, q1, q2⟩ := dp_lst h1
  exact ⟨a, xs, ds, F1, rfl, ex_l g.fh q1, q2.ex g.fh, q2, hal, hso, hd, fun p us hp k => q p us F1 _ (Gr.mut g.fh hp) hp (g.fh.free hp) upd_same k⟩
theorem r2_cat {a b : List D} (hz : a.length + b.length ≤ 100000) : R2D K (rCatA K) (.tuple a) (.tuple b) F B (.tuple (a ++ b)) := fun F1 H1 g u v hu hv Q q => by
  obtain ⟨p, xs, rfl, q1, q2⟩ := dp_tup hu
  obtain ⟨p', ys, rfl, q3, q4⟩ := dp_tup hv
  refine ⟨p, p', xs, ys, rfl, rfl, ex_t g.fh q1, ex_t g.fh q3, by rw [q2.len, q4.len]; exact Nat.le_trans hz (by decide), fun e => ?_, fun _ e => ?_, fun _ _ l hl => ?_⟩
  · have : a = [] := by have := q2.len; rw [e] at this; exact List.eq_nil_of_length_eq_zero this.symm
    subst this
    exact q _ F1 H1 (Gr.refl g.fh) hv
  · have : b = [] := by have := q4.len; rw [e] at this; exact List.eq_nil_of_length_eq_zero this.symm
    subst this
    rw [List.append_nil] at q
    exact q _ F1 H1 (Gr.refl g.fh) hu
  · exact q (.ref l) (upd F1 l (.tup (xs ++ ys))) _ (Gr.new g.fh hl) (.tup (SqT.of upd_same) ((q2.app q4).ex (Ex.new (g.fh.free hl))))
/-- two new lists, joined -/
theorem en_cat {a b : List D} (h1 : EvN K ta σ F B a) (h2 : EvN K tb σ F B b) (hz : a.length + b.length ≤ 100000) : EvN K (tOp rCat ta tb) σ F B (a ++ b) := fun F1 H1 g Q q =>
  h1 F1 H1 g _ fun p xs F2 H2 g2 hp hf hx kx => h2 F2 H2 (g.trans g2) _ fun p' ys F3 H3 g3 hp' hf' hy ky =>
    ⟨p, p', xs, ys, rfl, rfl, g3.hh p _ hx, hy, by rw [kx.len, ky.len]; exact Nat.le_trans hz (by decide), fun l hl =>
      q l (xs ++ ys) F3 _ ((g2.trans g3).trans (Gr.mut g3.fh hl)) ((g2.trans g3).hh.free hl) (g3.fh.free hl) upd_same ((kx.ex g3.ff).app ky)⟩
theorem flatten_dpa {vs : List V} {ds : List D} (h : DpAll K F vs ds) : ∀ n : Nat, DpAll K F (List.replicate n vs).flatten (List.replicate n ds).flatten
  | 0 => .nil
  | n + 1 => by
    rw [List.replicate_succ, List.replicate_succ, List.flatten_cons, List.flatten_cons]
    exact h.app (flatten_dpa h n)
theorem en_rep {a : List D} {k : Int} (h1 : EvN K ta σ F B a) (h2 : EvD K tb σ F B (.int k)) (hz : a.length * k.toNat ≤ 100000) (h0 : 0 ≤ k) (hk : k < 100000) : EvN K (tOp rRep ta tb) σ F B (List.replicate k.toNat a).flatten := fun F1 H1 g Q q =>
  h1 F1 H1 g _ fun p xs F2 H2 g2 hp hf hx kx => h2 F2 H2 (g.trans g2) _ fun w F3 H3 g3 hw =>
    ⟨p, k, xs, rfl, dp_int hw, g3.hh p _ hx, by omega, by omega, by rw [kx.len]; exact Nat.le_trans hz (by decide), fun l hl =>
      q l _ F3 _ ((g2.trans g3).trans (Gr.mut g3.fh hl)) ((g2.trans g3).hh.free hl) (g3.fh.free hl) upd_same (flatten_dpa (kx.ex g3.ff) _)⟩

/-! ### slices -/
def cutA {α : Type} (xs : List α) (lo hi : Option Int) : List α := (xs.drop (HT.sIx xs.length 0 lo)).take (HT.sIx xs.length xs.length hi - HT.sIx xs.length 0 lo)
theorem cut_dpa {vs : List V} {ds : List D} (h : DpAll K F vs ds) (lo hi : Option Int) : DpAll K F (cutV vs lo hi) (cutA ds lo hi) := by
  unfold cutV cutA
  rw [h.len]
  exact (h.drop _).take _
theorem eo_none : EvO tNoPart σ F B none := fun F1 H1 g Q q => q F1 H1 (Gr.refl g.fh)
theorem eo_some {n : Int} (h : EvD K te σ F B (.int n)) : EvO (tPart te) σ F B (some n) := fun F1 H1 g Q q => h F1 H1 g _ fun v F2 H2 g2 k => ⟨n, dp_int k, q F2 H2 g2⟩
theorem EvO.gr {to : TO} {o : Option Int} (h : EvO to σ F B o) (g : Gr F B F' B') : EvO to σ F' B' o := fun F1 H1 a => h F1 H1 (g.trans a)
theorem ev_slT {ds : List D} {tl th : TO} {lo hi : Option Int} (h : EvD K te σ F B (.tuple ds)) (hl : EvO tl σ F B lo) (hh : EvO th σ F B hi) : EvD K (tSl (rSlA K) te tl th) σ F B (.tuple (cutA ds lo hi)) := fun F1 H1 g Q q =>
  h F1 H1 g _ fun v F2 H2 g2 hv => hl F2 H2 (g.trans g2) _ fun F3 H3 g3 => hh F3 H3 ((g.trans g2).trans g3) _ fun F4 H4 g4 => by
    have gg := (g2.trans g3).trans g4
    obtain ⟨p, xs, rfl, q1, q2⟩ := dp_tup (hv.ex (g3.trans g4).ff)
    refine ⟨p, xs, rfl, ex_t g4.fh q1, fun e => ?_, fun _ l hl => ?_⟩
    · have : cutA ds lo hi = ds := by
        unfold cutA
        rw [← q2.len, e.1, e.2, q2.len]
        simp
      rw [this] at q
      exact q _ F4 H4 gg (.tup q1 q2)
    · exact q (.ref l) (upd F4 l (.tup (cutV xs lo hi))) _ (gg.trans (Gr.new g4.fh hl)) (.tup (SqT.of upd_same) ((cut_dpa q2 lo hi).ex (Ex.new (g4.fh.free hl))))
theorem en_slL {ds : List D} {tl th : TO} {lo hi : Option Int} (h : EvD K te σ F B (.list ds)) (hl : EvO tl σ F B lo) (hh : EvO th σ F B hi) : EvN K (tSl (rSlL K) te tl th) σ F B (cutA ds lo hi) := fun F1 H1 g Q q =>
  h F1 H1 g _ fun v F2 H2 g2 hv => hl F2 H2 (g.trans g2) _ fun F3 H3 g3 => hh F3 H3 ((g.trans g2).trans g3) _ fun F4 H4 g4 => by
    have gg := (g2.trans g3).trans g4
    obtain ⟨p, xs, rfl, q1, q2⟩ := dp_lst (hv.ex (g3.trans g4).ff)
    exact ⟨p, xs, rfl, ex_l g4.fh q1, fun l hl => q l _ F4 _ (gg.trans (Gr.mut g4.fh hl)) (gg.hh.free hl) (g4.fh.free hl) upd_same (cut_dpa q2 lo hi)⟩
theorem ev_slS {s : Str} {tl th : TO} {lo hi : Option Int} (h : EvD K te σ F B (.str s)) (hl : EvO tl σ F B lo) (hh : EvO th σ F B hi) (hz : s.length ≤ 100000) : EvD K (tSl C8.rSlX te tl th) σ F B (.str (Txt.slice s lo hi)) := fun F1 H1 g Q q =>
  h F1 H1 g _ fun v F2 H2 g2 hv => hl F2 H2 (g.trans g2) _ fun F3 H3 g3 => hh F3 H3 ((g.trans g2).trans g3) _ fun F4 H4 g4 =>
    ⟨s, dp_str hv, Nat.le_trans hz (by decide), q _ F4 H4 ((g2.trans g3).trans g4) (.str _)⟩

/-! ### methods of texts -/
theorem ev_strip {s c : Str} (h : EvD K te σ F B (.str s)) (hc : EvA K (tCons tx tNil) σ F B [.str c]) (hz : s.length ≤ 100000) : EvD K (tBM K "str" (fun x xs H Q => ∃ a b, x = .str a ∧ xs = [.str b] ∧ a.length ≤ sizeLine ∧ Q (.str (Txt.stripChars a b)) H) te (tCons tx tNil)) σ F B (.str (Txt.stripChars s c)) := fun F1 H1 g Q q =>
  h F1 H1 g _ fun v F2 H2 g2 hv => ⟨by rw [dp_str hv]; rfl, hc F2 H2 (g.trans g2) _ fun vs F3 H3 g3 hvs => by
    obtain ⟨w, us, rfl, h1, h2⟩ := dpa_cons hvs
    rw [dpa_nil h2]
    exact ⟨s, c, dp_str hv, by rw [dp_str h1], Nat.le_trans hz (by decide), q _ F3 H3 (g2.trans g3) (.str _)⟩⟩
theorem ev_count {s c : Str} (h : EvD K te σ F B (.str s)) (hc : EvD K tx σ F B (.str c)) : EvD K (tM1 (fun x xs H Q => ∃ a b, x = .str a ∧ xs = [.str b] ∧ Q (.int (Txt.count a b)) H) te tx) σ F B (.int (Txt.count s c)) := fun F1 H1 g Q q =>
  h F1 H1 g _ fun v F2 H2 g2 hv => ⟨⟨s, dp_str hv⟩, hc F2 H2 (g.trans g2) _ fun w F3 H3 g3 hw => ⟨s, c, dp_str hv, by rw [dp_str hw], q _ F3 H3 (g2.trans g3) (.int _)⟩⟩
theorem ev_join {s : Str} {ys : List Str} (h : EvD K te σ F B (.str s)) (hc : EvD K tx σ F B (.list (ys.map .str))) (hz : (ys.map (·.length)).sum + ys.length * s.length ≤ 100000) : EvD K (tM1 (rJoin K) te tx) σ F B (.str (Txt.join s ys)) := fun F1 H1 g Q q =>
  h F1 H1 g _ fun v F2 H2 g2 hv => ⟨⟨s, dp_str hv⟩, hc F2 H2 (g.trans g2) _ fun w F3 H3 g3 hw => by
    obtain ⟨p, xs, rfl, q1, q2⟩ := dp_lst hw
    have e := dpa_strs q2
    subst e
    exact ⟨s, p, ys, dp_str hv, rfl, .inl (ex_l g3.fh q1), Nat.le_trans hz (by decide), q _ F3 H3 (g2.trans g3) (.str _)⟩⟩

/-! ### looking at what changes -/
def flatD : D → Bool
  | .int _ => true
  | .str _ => true
  | .bool _ => true
  | .none => true
  | _ => false
theorem flat_any {K2 : PySem.W.Frag} (hd : flatD d = true) (h : Dp K F v d) : Dp K2 F' v d := by
  cases h with
  | non => exact .non
  | bl b => exact .bl b
  | int i => exact .int i
  | str x => exact .str x
  | lst _ _ => cases hd
  | tup _ _ => cases hd
theorem gr_peek {F1 H1 : Hp} (g : Gr F B F1 H1) : Gr B B H1 H1 := ⟨g.hh, Ex.refl _, g.hh, fun a ha => by
  cases q : B a with
  | none => exact absurd q ha
  | some o => exact g.hh a o q⟩
theorem gr_back {F1 H1 F2 H2 : Hp} (e : Ex F1 H1) (g : Gr H1 H1 F2 H2) : Gr F1 H1 F1 H2 := ⟨Ex.refl _, e.trans g.hh, g.hh, fun _ _ => rfl⟩
theorem ev_peek (h : EvD K te σ B B d) (hd : flatD d = true := by rfl) : EvD K te σ F B d := fun F1 H1 g Q q => h H1 H1 (gr_peek g) Q fun v F2 H2 g2 k => q v F1 H2 (gr_back g.fh g2) (flat_any hd k)
theorem et_peek {b : Bool} (h : EvT t σ B B b) : EvT t σ F B b := fun F1 H1 g Q q => h H1 H1 (gr_peek g) Q fun F2 H2 g2 => q F1 H2 (gr_back g.fh g2)
theorem SO.put : ∀ {σ : L2.St} {es : List SV} {i : Nat} {v : V} {d : D}, SO K F σ es → σ[i]? = some (some v) → Dp K F v d → SO K F σ (es.set i (.dat d))
  | _, _, _, _, _, .nil, _, _ => .nil
  | _, _, 0, v, d, .cons (a := a) h t, e, k => by
    simp at e
    subst e
    exact .cons k t
  | _, _, i + 1, v, d, .cons h t, e, k => .cons h (SO.put t (by simpa using e) k)
/-- the list in slot i is taken for data, for a look -/
theorem SO.pk {p : Addr} {ds : List D} (so : SO K B σ es) (e : Ex F B) (m : MOk K F B (.lst p ds)) (hi : es[i]? = some (.val (.ref p))) : SO K B σ (es.set i (.dat (.list ds))) := by
  obtain ⟨hf, vs, h1, h2⟩ := m
  exact so.put (so.val hi) (.lst (SqL.of h1) (h2.ex e))
end

/-! ### dicts by data -/
section
variable {κ : Type} [DecidableEq κ]
def valD (kds : List (κ × D)) (k : κ) : Option D := (kds.find? fun kv => decide (kv.1 = k)).map (·.2)
def putD (kds : List (κ × D)) (k : κ) (d : D) : List (κ × D) := if (kds.any fun kv => decide (kv.1 = k)) = true then kds.map (fun kv => if kv.1 = k then (kv.1, d) else kv) else kds ++ [(k, d)]
def dropD (kds : List (κ × D)) (k : κ) : List (κ × D) := kds.filter fun kv => decide (kv.1 ≠ k)
variable {K : PySem.W.Frag} {F F' : Hp}
theorem KD.keys : ∀ {kvs : List (κ × V)} {kds : List (κ × D)}, KD K F kvs kds → kvs.map (·.1) = kds.map (·.1)
  | _, _, .nil => rfl
  | _, _, .cons h t => by rw [List.map_cons, List.map_cons, h.1, KD.keys t]
theorem KD.len : ∀ {kvs : List (κ × V)} {kds : List (κ × D)}, KD K F kvs kds → kvs.length = kds.length
  | _, _, .nil => rfl
  | _, _, .cons h t => by rw [List.length_cons, List.length_cons, KD.len t]
theorem KD.get : ∀ {kvs : List (κ × V)} {kds : List (κ × D)} (k : κ), KD K F kvs kds → (valD kds k = none ∧ valV kvs k = none) ∨ ∃ d v, valD kds k = some d ∧ valV kvs k = some v ∧ Dp K F v d
  | _, _, k, .nil => .inl ⟨rfl, rfl⟩
  | p :: r, q :: s, k, .cons h t => by
    by_cases e : p.1 = k
    · right
      exact ⟨q.2, p.2, by simp [valD, List.find?_cons, ← h.1, e], valV_pos e, h.2⟩
    · have e2 : valD (q :: s) k = valD s k := by simp [valD, List.find?_cons, ← h.1, e]
      rw [e2, valV_neg e]
      exact KD.get k t
theorem KD.some {kvs : List (κ × V)} {kds : List (κ × D)} {k : κ} {d : D} (h : KD K F kvs kds) (e : valD kds k = some d) : ∃ v, valV kvs k = some v ∧ Dp K F v d := by
  rcases h.get k with ⟨a, _⟩ | ⟨d', v, a, b, c⟩
  · rw [a] at e; cases e
  · rw [a] at e; cases e; exact ⟨v, b, c⟩
theorem KD.isSome {kvs : List (κ × V)} {kds : List (κ × D)} {k : κ} (h : KD K F kvs kds) : (valV kvs k).isSome = (valD kds k).isSome := by
  rcases h.get k with ⟨a, b⟩ | ⟨d', v, a, b, c⟩ <;> rw [a, b] <;> rfl
theorem KD.any {kvs : List (κ × V)} {kds : List (κ × D)} {k : κ} (h : KD K F kvs kds) : (kvs.any fun kv => decide (kv.1 = k)) = (kds.any fun kv => decide (kv.1 = k)) := by
  induction h with
  | nil => rfl
  | cons h t ih => rw [List.any_cons, List.any_cons, ih, h.1]
theorem KD.app {kvs kvs' : List (κ × V)} {kds kds' : List (κ × D)} (h : KD K F kvs kds) (h' : KD K F kvs' kds') : KD K F (kvs ++ kvs') (kds ++ kds') := by
  induction h with
  | nil => exact h'
  | cons h t ih => exact .cons h ih
theorem KD.put {kvs : List (κ × V)} {kds : List (κ × D)} {k : κ} {v : V} {d : D} (h : KD K F kvs kds) (k1 : Dp K F v d) : KD K F (putK kvs k v) (putD kds k d) := by
  unfold putK putD
  rw [h.any]
  by_cases c : (kds.any fun kv => decide (kv.1 = k)) = true
  · rw [if_pos c, if_pos c]
    clear c
    induction h with
    | nil => exact .nil
    | @cons a b l m h t ih =>
      refine .cons ?_ ih
      by_cases c2 : a.1 = k
      · have c3 := c2
        rw [h.1] at c3
        simp only [if_pos c2, if_pos c3]
        exact ⟨h.1, k1⟩
      · have c3 := c2
        rw [h.1] at c3
        simp only [if_neg c2, if_neg c3]
        exact h
  · rw [if_neg c, if_neg c]
    exact h.app (.cons ⟨rfl, k1⟩ .nil)
theorem KD.drop {kvs : List (κ × V)} {kds : List (κ × D)} {k : κ} (h : KD K F kvs kds) : KD K F (dropK kvs k) (dropD kds k) := by
  unfold dropK dropD
  induction h with
  | nil => exact .nil
  | @cons a b l m h t ih =>
    rw [List.filter_cons, List.filter_cons, h.1]
    split
    · exact .cons h ih
    · exact ih
theorem valD_putD (kds : List (κ × D)) (k j : κ) (d : D) : valD (putD kds k d) j = if j = k then some d else valD kds j := by
  unfold putD
  have map_ : ∀ l : List (κ × D), valD (l.map fun kv => if kv.1 = k then (kv.1, d) else kv) j = (valD l j).map fun x => if j = k then d else x := by
    intro l
    induction l with
    | nil => rfl
    | cons p r ih =>
      unfold valD at ih ⊢
      rw [List.map_cons, List.find?_cons, List.find?_cons]
      by_cases e : p.1 = j
      · have e1 : (if p.1 = k then (p.1, d) else p).1 = j := by split <;> exact e
        rw [decide_eq_true e1, decide_eq_true e]
        by_cases h : p.1 = k
        · have hj : j = k := e.symm.trans h
          simp [h, hj]
        · have hj : ¬ j = k := fun z => h (e.trans z)
          simp [h, hj]
      · have e1 : ¬ (if p.1 = k then (p.1, d) else p).1 = j := by split <;> exact e
        rw [decide_eq_false e1, decide_eq_false e]
        exact ih
  have snoc_ : ∀ l : List (κ × D), (l.any fun kv => decide (kv.1 = k)) = false → valD (l ++ [(k, d)]) j = if j = k then some d else valD l j := by
    intro l
    induction l with
    | nil =>
      intro _
      by_cases e : j = k
      · simp [valD, e]
      · have e' : ¬ k = j := fun z => e z.symm
        simp [valD, e, e']
    | cons p r ih =>
      intro h
      rw [List.any_cons, Bool.or_eq_false_iff] at h
      have ih := ih h.2
      unfold valD at ih ⊢
      rw [List.cons_append, List.find?_cons, List.find?_cons]
      by_cases e : p.1 = j
      · have : ¬ j = k := fun z => (of_decide_eq_false h.1) (e.trans z)
        rw [decide_eq_true e, if_neg this]
      · rw [decide_eq_false e]
        exact ih
  by_cases c : (kds.any fun kv => decide (kv.1 = k)) = true
  · rw [if_pos c, map_]
    by_cases e : j = k
    · subst e
      rw [if_pos rfl]
      obtain ⟨p, hp, e⟩ := List.any_eq_true.mp c
      have : (valD kds j).isSome := by
        unfold valD
        rw [Option.isSome_map, List.find?_isSome]
        exact ⟨p, hp, e⟩
      obtain ⟨x, hx⟩ := Option.isSome_iff_exists.mp this
      rw [hx]
      simp
    · rw [if_neg e]
      simp [e]
  · rw [if_neg c]
    exact snoc_ kds (Bool.eq_false_iff.mpr c)
theorem valD_dropD (kds : List (κ × D)) (k j : κ) : valD (dropD kds k) j = if j = k then none else valD kds j := by
  unfold dropD valD
  induction kds with
  | nil => simp
  | cons p r ih =>
    rw [List.filter_cons]
    by_cases h : p.1 = k
    · rw [if_neg (by simp [h]), ih]
      by_cases e : j = k
      · rw [if_pos e, if_pos e]
      · rw [if_neg e, if_neg e, List.find?_cons, decide_eq_false (fun z => e (z.symm.trans h))]
    · rw [if_pos (by simp [h]), List.find?_cons, List.find?_cons]
      by_cases e : p.1 = j
      · rw [decide_eq_true e, if_neg (fun z => h (e.trans z))]
      · rw [decide_eq_false e]
        exact ih
theorem valD_none_iff {kds : List (κ × D)} {k : κ} : valD kds k = none ↔ k ∉ kds.map (·.1) := by
  unfold valD
  rw [Option.map_eq_none_iff, List.find?_eq_none]
  constructor
  · intro h m
    obtain ⟨p, hp, e⟩ := List.mem_map.mp m
    exact h p hp (decide_eq_true e)
  · intro h p hp e
    exact h (List.mem_map.mpr ⟨p, hp, of_decide_eq_true e⟩)
theorem putD_new {kds : List (κ × D)} {k : κ} (d : D) (h : valD kds k = none) : putD kds k d = kds ++ [(k, d)] := by
  unfold putD
  rw [if_neg]
  intro c
  obtain ⟨p, hp, e⟩ := List.any_eq_true.mp c
  exact valD_none_iff.mp h (List.mem_map.mpr ⟨p, hp, of_decide_eq_true e⟩)
end

section
variable {K : PySem.W.Frag} {σ : L2.St} {F B : Hp} {td te tx : TE} {d x : D} {k : Key} {p : Addr} {kds : List (Key × D)}
theorem dp_key {v : V} (h : Dp K F v (keyD k)) : v = kV k := by
  cases k with
  | inl i => exact dp_int h
  | inr x => exact dp_str h
/-- d[k] of a dict that changes -/
theorem ev_dget (hd : EvV td σ F B (.ref p)) (hk : EvD K te σ F B (keyD k)) (m : MOk K F B (.dK p kds)) (e : valD kds k = some d) : EvD K (tDGet td te) σ F B d := fun F1 H1 g Q q =>
  hd F1 H1 g _ fun F2 H2 g2 => hk F2 H2 (g.trans g2) _ fun v F3 H3 g3 hv => by
    obtain ⟨_, kvs, h1, h2⟩ := m.gr ((g.trans g2).trans g3)
    obtain ⟨w, e1, e2⟩ := h2.some e
    exact ⟨p, w, rfl, .inl ⟨kvs, k, .inl h1, dp_key hv, e1.symm⟩, q w F3 H3 (g2.trans g3) e2⟩
theorem ev_din (hd : EvV td σ F B (.ref p)) (hk : EvD K te σ F B (keyD k)) (m : MOk K F B (.dK p kds)) : EvD K (tDIn te td) σ F B (.bool (valD kds k).isSome) := fun F1 H1 g Q q =>
  hk F1 H1 g _ fun v F2 H2 g2 hv => hd F2 H2 (g.trans g2) _ fun F3 H3 g3 => by
    obtain ⟨_, kvs, h1, h2⟩ := m.gr ((g.trans g2).trans g3)
    exact ⟨p, _, rfl, .inl ⟨kvs, k, .inl h1, dp_key hv, rfl⟩, q _ F3 H3 (g2.trans g3) (by rw [h2.isSome]; exact .bl _)⟩
theorem ev_dnin (hd : EvV td σ F B (.ref p)) (hk : EvD K te σ F B (keyD k)) (m : MOk K F B (.dK p kds)) : EvD K (tDNotIn te td) σ F B (.bool (!(valD kds k).isSome)) := fun F1 H1 g Q q =>
  hk F1 H1 g _ fun v F2 H2 g2 hv => hd F2 H2 (g.trans g2) _ fun F3 H3 g3 => by
    obtain ⟨_, kvs, h1, h2⟩ := m.gr ((g.trans g2).trans g3)
    exact ⟨p, _, rfl, .inl ⟨kvs, k, .inl h1, dp_key hv, rfl⟩, q _ F3 H3 (g2.trans g3) (by rw [h2.isSome]; exact .bl _)⟩
end

/-! ### statements over the state -/
section
variable {K : PySem.W.Frag} {F0 B0 F H : Hp} {es es' : List SV} {ms ms' : List MO} {σ : L2.St} {i j : Nat} {d x y : D} {te tx tl td : TE} {ta : TA} {tt : TT} {tu tw : TS} {Dn : Ends} {p : Addr} {ds zs : List D} {g : TG}
theorem st_set (S : Sta K F0 B0 es ms F H σ) (h : EvD K te σ F H d) (k : ∀ F' H' σ', Sta K F0 B0 (es.set i (.dat d)) ms F' H' σ' → Dn.nx σ' H') : tAsg te (gName i) Dn σ H :=
  h F H (Gr.refl S.ex) _ fun v F' H' g kv => k F' H' _ ((S.grow g).set i kv)
theorem st_setN (S : Sta K F0 B0 es ms F H σ) (h : EvN K te σ F H ds) (k : ∀ p F' H' σ', Sta K F0 B0 (es.set i (.val (.ref p))) (.lst p ds :: ms) F' H' σ' → Dn.nx σ' H') : tAsg te (gName i) Dn σ H :=
  h F H (Gr.refl S.ex) _ fun p vs F' H' g hp hf h2 kv => k p F' H' _ ((S.made (m := .lst p ds) g hp ⟨hf, vs, h2, kv⟩).setV i (.ref p))
theorem st_ret (S : Sta K F0 B0 es ms F H σ) (h : EvD K te σ F H d) (k : ∀ v F' H', Gr F0 B0 F' H' → Dp K F' v d → Dn.rt v H') : tRet te Dn σ H :=
  h F H (Gr.refl S.ex) _ fun v F' H' g kv => k v F' H' (S.gr.trans g) kv
/-- a new list is handed back -/
theorem st_retN (S : Sta K F0 B0 es ms F H σ) (h : EvN K te σ F H ds) (k : ∀ p us F' H', Gr F0 B0 F' H' → B0 p = none → F' p = none → H' p = some (.lst us) → DpAll K F' us ds → Dn.rt (.ref p) H') : tRet te Dn σ H :=
  h F H (Gr.refl S.ex) _ fun p vs F' H' g hp hf h2 kv => k p vs F' H' (S.gr.trans g) (S.gr.hh.free hp) hf h2 kv
/-- a name's list is handed back -/
theorem st_retM (S : Sta K F0 B0 es ms F H σ) (hi : es[i]? = some (.val (.ref p))) (hj : ms[j]? = some (.lst p ds)) (k : ∀ us F' H', Gr F0 B0 F' H' → B0 p = none → F' p = none → H' p = some (.lst us) → DpAll K F' us ds → Dn.rt (.ref p) H') : tRet (tVar i) Dn σ H := by
  obtain ⟨hf, vs, h1, h2⟩ := S.m hj
  exact ⟨.ref p, S.so.val hi, k vs F H S.gr (S.b hj) hf h1 h2⟩
theorem st_if {b : Bool} (S : Sta K F0 B0 es ms F H σ) (h : EvT tt σ F H b) (h1 : b = true → ∀ F' H', Sta K F0 B0 es ms F' H' σ → tu Dn σ H') (h2 : b = false → ∀ F' H', Sta K F0 B0 es ms F' H' σ → tw Dn σ H') : tIfS tt tu tw Dn σ H :=
  h F H (Gr.refl S.ex) _ fun F' H' g => by
    cases b with
    | true => exact (show tu Dn σ H' from h1 rfl F' H' (S.grow g))
    | false => exact (show tw Dn σ H' from h2 rfl F' H' (S.grow g))
theorem st_app (S : Sta K F0 B0 es ms F H σ) (hi : es[i]? = some (.val (.ref p))) (hj : ms[j]? = some (.lst p ds)) (h : EvD K te σ F H d) (hz : ds.length < 100000)
    (k : ∀ F' H', Sta K F0 B0 es (ms.set j (.lst p (ds ++ [d]))) F' H' σ → Dn.nx σ H') : tDrop (tBM K "list" rAppend (tVar i) (tCons te tNil)) Dn σ H := by
  obtain ⟨hf, vs, h1, h2⟩ := S.m hj
  refine ⟨.ref p, S.so.val hi, .inl ⟨rfl, vs, SqL.of h1⟩, h F H (Gr.refl S.ex) _ fun v F' H' g kv => ?_⟩
  have S' := S.grow g
  obtain ⟨hf', vs', h1', h2'⟩ := S'.m hj
  have e : vs' = vs := by have := g.hh p _ h1; rw [h1'] at this; cases this; rfl
  subst e
  refine ⟨p, vs', v, rfl, rfl, h1', Nat.lt_of_lt_of_le (by rw [h2'.len]; exact hz) (by decide), k F' _ (S'.turn (m := .lst p ds) (m' := .lst p (ds ++ [d])) hj rfl ⟨hf', _, upd_same, h2'.snoc kv⟩)⟩
theorem st_expr (S : Sta K F0 B0 es ms F H σ) (h : EvD K te σ F H d) (k : ∀ F' H', Sta K F0 B0 es ms F' H' σ → Dn.nx σ H') : tDrop te Dn σ H :=
  h F H (Gr.refl S.ex) _ fun v F' H' g kv => k F' H' (S.grow g)
/-- a new dict -/
theorem st_newK (S : Sta K F0 B0 es ms F H σ) (k : ∀ p F' H' σ', Sta K F0 B0 (es.set i (.val (.ref p))) (.dK p [] :: ms) F' H' σ' → Dn.nx σ' H') : tAsg tDNewK (gName i) Dn σ H := fun p hp =>
  k p F _ _ ((S.made (m := .dK p []) (Gr.mut S.ex hp) hp ⟨S.ex.free hp, [], upd_same, .nil⟩).setV i (.ref p))
/-- d[k] = e -/
theorem st_dput {k : Key} {kds : List (Key × D)} (S : Sta K F0 B0 es ms F H σ) (hv : EvD K te σ F H d) (hi : es[i]? = some (.val (.ref p))) (hj : ms[j]? = some (.dK p kds)) (hk : EvD K tx σ F H (keyD k)) (hz : kds.length < 100000)
    (q : ∀ F' H', Sta K F0 B0 es (ms.set j (.dK p (putD kds k d))) F' H' σ → Dn.nx σ H') : sDPut (tVar i) tx te Dn σ H :=
  hv F H (Gr.refl S.ex) _ fun v F1 H1 g1 kv => ⟨.ref p, S.so.val hi, hk F1 H1 g1 _ fun w F2 H2 g2 kw => by
    have S' := S.grow (g1.trans g2)
    obtain ⟨hf, kvs, h1, h2⟩ := S'.m hj
    exact ⟨p, _, rfl, .inl ⟨kvs, k, h1, dp_key kw, Nat.lt_of_lt_of_le (by rw [h2.len]; exact hz) (by decide), rfl⟩, q F2 _ (S'.turn (m := .dK p kds) (m' := .dK p (putD kds k d)) hj rfl ⟨hf, _, upd_same, h2.put (kv.ex g2.ff)⟩)⟩⟩
/-- a turn's or a body's end -/
theorem NX.by {I : List SV → List MO → Prop} (S : Sta K F0 B0 es ms F H σ) (hI : I es' ms') (hw : Paired le1 es es') (hm : List.Sublist ms' ms) : NX K F0 B0 I σ H := NX.of ((S.weak hw).less hm) hI
theorem Sta.start {vs : List V} {ds : List D} (n : Nat) (e : Ex F B0) (h : DpAll K F vs ds) : Sta K F B0 (ds.map SV.dat ++ List.replicate n .un) [] F B0 (vs.map some ++ List.replicate n none) := ⟨Gr.refl e, so_start n h, fun m hm => (nomatch hm), List.nodup_nil⟩
end
end TT
/-! Base7 -/
namespace TT
open PySem PySem.Spec PyProof.Rows L2
section
variable {K : PySem.W.Frag} {σ : L2.St} {es : List SV} {F B F' B' : Hp} {ta tb te tx tc : TE} {t u : TT} {x y z d : D} {v : V} {r r' : R2} {i : Nat}
theorem Sta.begin {N : List Str} {vs : List V} {ds : List D} (n : Nat) (e : Ex F B) (h : DpAll K F vs ds) (hn : N.length - ds.length = n := by rfl) : Sta K F B (ds.map SV.dat ++ List.replicate n .un) [] F B (L2.start N vs) := by
  unfold L2.start
  rw [h.len, hn]
  exact Sta.start n e h
theorem r2_ltI {m n : Int} : R2D K (rI0 fun i j => .bl (decide (i < j))) (.int m) (.int n) F B (.bool (decide (m < n))) := r2_B0
/-- isinstance of flat data -/
theorem rc_isi {T : String} {U : String} {b : Bool} (hv : ∀ (v : V) (F : Hp), Dp K F v d → flatD d = true ∧ ∀ H, TyOf K H v (.type U)) (hk : kitB U T = some b) (hc : EvV tc σ F B (.ty T)) (hx : EvD K te σ F B d) : EvD K (tCB (rIsi K) (tCons te (tCons tc tNil))) σ F B (.bool b) := fun F1 H1 g Q q =>
  hx F1 H1 g _ fun v F2 H2 g2 kv => hc F2 H2 (g.trans g2) _ fun F3 H3 g3 => ⟨v, .ty T, .type U, .type T, b, rfl, .ty T, .base ((hv v _ kv).2 H3), kit_ty hk, q _ F3 H3 (g2.trans g3) (.bl b)⟩
theorem ev_ty (n : String) : EvV (tC (.ty n)) σ F B (.ty n) := fun F1 H1 g Q q => q F1 H1 (Gr.refl g.fh)
end

section
variable {K : PySem.W.Frag} {σ : L2.St} {es : List SV} {F B F' B' : Hp} {ta tb te tx tc : TE} {t u : TT} {wi : TI} {g : TG} {tt : TT} {ds : List D} {vs is : List Nat}
theorem ev_neg {n : Int} (h : EvD K te σ F B (.int n)) : EvD K (tUn (rU fun i => .int (-i)) te) σ F B (.int (-n)) := fun F1 H1 g Q q => h F1 H1 g _ fun v F2 H2 g2 kv => ⟨n, dp_int kv, q _ F2 H2 g2 (.int _)⟩
theorem enumD_map {α : Type} (l : List α) (enc : α → D) : enumD (l.map enc) = l.zipIdx.map fun p => .tuple [.int (p.2 : Nat), enc p.1] := by
  apply List.ext_getElem?
  intro i
  unfold enumD
  rw [List.getElem?_mapIdx, List.getElem?_map, List.getElem?_map, List.getElem?_zipIdx]
  cases l[i]? <;> simp
/-- a comprehension over l.map enc -/
theorem en_lcA {α : Type} (l : List α) (enc : α → D) (so : SO K F σ es) (it : ItrD K wi σ F B ds) (hds : ds = l.map enc) (p : α → Bool) (f : α → D) (es2 : α → List SV) (hz : l.length < 100000) (tg : ∀ a, a ∈ l → TgOk K g (enc a) (wipeE es vs) (es2 a) is) (hi : ∀ i ∈ is, i ∈ vs)
    (ht : ∀ a, a ∈ l → ∀ F1 H1 σ2, Gr F B F1 H1 → SO K F1 σ2 (es2 a) → EvT tt σ2 F1 H1 (p a))
    (he : ∀ a, a ∈ l → p a = true → ∀ F1 H1 σ2, Gr F B F1 H1 → SO K F1 σ2 (es2 a) → EvD K te σ2 F1 H1 (f a)) : EvN K (tLc wi g tt te vs) σ F B ((l.filter p).map f) := fun F1 H1 g1 Q q => by
  subst hds
  refine it F1 H1 g1 _ fun J F2 H2 g2 y Dl hD => ?_
  refine ⟨fun i m H' => m = l.length - i ∧ i ≤ l.length ∧ ∃ F', Gr F2 H2 F' H' ∧ ML K F' H' Dl (((l.take i).filter p).map f), ⟨l.length, by simp, Nat.zero_le _, F2, Gr.mut g2.fh hD, g2.fh.free hD, [], upd_same, .nil⟩, ?_⟩
  rintro i m H' ⟨rfl, hi', F', g3, ml⟩
  by_cases hlt : i < l.length
  · refine .inr ⟨y.go i H' (by rw [List.length_map]; exact hlt) (g3.ff.trans g3.fh), fun H4 => i + 1 ≤ l.length ∧ ∃ F', Gr F2 H2 F' H4 ∧ ML K F' H4 Dl (((l.take (i + 1)).filter p).map f), fun H4 q => ⟨l.length - (i + 1), by omega, rfl, q.1, q.2⟩, fun x H4 hy => ?_⟩
    obtain ⟨F4, g4, k4⟩ := y.yld i (enc l[i]) F' H' x H4 (by rw [List.getElem?_map, List.getElem?_eq_getElem hlt]; rfl) g3.ff g3.fh hy
    have hm : l[i] ∈ l := List.getElem_mem hlt
    have g04 : Gr F B F4 H4 := ((g1.trans g2).trans g3).trans g4
    refine tg _ hm x F4 H4 (wipe σ vs) _ g4.fh k4 ((so.ex g04.ff).wipe vs) fun σ2 so2 w2 => ⟨(w2 vs hi).trans (wipe_wipe vs), ?_⟩
    refine ht _ hm F4 H4 σ2 g04 so2 F4 H4 (Gr.refl g4.fh) _ fun F5 H5 g5 => ?_
    have tk : l.take (i + 1) = l.take i ++ [l[i]] := by rw [List.take_add_one, List.getElem?_eq_getElem hlt]; rfl
    have ml5 := (ml.gr g4).gr g5
    cases hp : p l[i] with
    | true =>
      rw [if_pos rfl]
      refine he _ hm hp F4 H4 σ2 g04 so2 F5 H5 g5 _ fun v F6 H6 g6 k6 => ?_
      obtain ⟨a1, us, a2, a3⟩ := ml5.gr g6
      have hl : us.length < 100000 := by
        rw [a3.len, List.length_map]
        refine Nat.lt_of_le_of_lt (List.length_filter_le _ _) ?_
        rw [List.length_take]
        omega
      refine ⟨us, a2, Nat.lt_of_lt_of_le hl (by decide), hlt, F6, (((g3.trans g4).trans g5).trans g6).put hD a1, a1, us ++ [v], upd_same, ?_⟩
      rw [tk, List.filter_append, List.map_append, List.filter_cons_of_pos hp]
      exact a3.app (.cons k6 .nil)
    | false =>
      rw [if_neg Bool.false_ne_true]
      refine ⟨hlt, F5, (g3.trans g4).trans g5, ?_⟩
      rw [tk, List.filter_append, List.filter_cons_of_neg (by rw [hp]; decide)]
      simpa using ml5
  · have e' : i = l.length := by omega
    subst e'
    refine .inl ⟨by have := y.stop H' (g3.ff.trans g3.fh); rw [List.length_map] at this; exact this, ?_⟩
    obtain ⟨a1, us, a2, a3⟩ := ml
    rw [List.take_length] at a3
    exact q Dl us F' H' (g2.trans g3) (g2.hh.free hD) a1 a2 a3
theorem en_lcA0 {α : Type} (l : List α) (enc : α → D) (so : SO K F σ es) (it : ItrD K wi σ F B ds) (hds : ds = l.map enc) (f : α → D) (es2 : α → List SV) (hz : l.length < 100000) (tg : ∀ a, a ∈ l → TgOk K g (enc a) (wipeE es vs) (es2 a) is) (hi : ∀ i ∈ is, i ∈ vs)
    (he : ∀ a, a ∈ l → ∀ F1 H1 σ2, Gr F B F1 H1 → SO K F1 σ2 (es2 a) → EvD K te σ2 F1 H1 (f a)) : EvN K (tLc wi g tYes te vs) σ F B (l.map f) := by
  have h := en_lcA (tt := tYes) (te := te) l enc so it hds (fun _ => true) f es2 hz tg hi (fun d hd F1 H1 σ2 g1 s1 => et_yes) (fun d hd _ => he d hd)
  rw [List.filter_eq_self.mpr fun _ _ => rfl] at h
  exact h
end
section
variable {K : PySem.W.Frag} {F0 B0 F H : Hp} {ms0 : List MO} {es0 : List SV} {σ : L2.St} {wi : TI} {g : TG} {tb : TS} {tc : TT} {Dn : Ends} {ds : List D} {is : List Nat}
/-- for over l.map enc; the target said -/
theorem for_A {α : Type} (l : List α) (enc : α → D) (S : Sta K F0 B0 es0 ms0 F H σ) (it : ItrD K wi σ F H ds) (hds : ds = l.map enc) (I : Nat → List SV → List MO → Prop) (h0 : I 0 es0 ms0)
    (hs : ∀ Fb Bb, Gr F0 B0 Fb Bb → ∀ i a es ms F1 H1 σ1, l[i]? = some a → I i es ms → Sta K Fb Bb es ms F1 H1 σ1 → ∃ es' is, TgOk K g (enc a) es es' is ∧
      ∀ σ2, Sta K Fb Bb es' ms F1 H1 σ2 → tb { Dn with nx := NX K Fb Bb (I (i + 1)), ct := NX K Fb Bb (I (i + 1)), bk := Dn.nx } σ2 H1)
    (hd : ∀ es ms F1 H1 σ1, I l.length es ms → Sta K F0 B0 es ms F1 H1 σ1 → Dn.nx σ1 H1) : tFor wi g tb Dn σ H := by
  subst hds
  refine for_S S it I h0 (fun Fb Bb gb i d v es ms F1 H1 σ1 hd hI S1 kv => ?_) (fun es ms F1 H1 σ1 hI S1 => hd es ms F1 H1 σ1 (by rw [List.length_map] at hI; exact hI) S1)
  rw [List.getElem?_map] at hd
  obtain ⟨a, ha, rfl⟩ := Option.map_eq_some_iff.mp hd
  obtain ⟨es', is, tg, k⟩ := hs Fb Bb gb i a es ms F1 H1 σ1 ha hI S1
  exact S1.tg kv tg fun σ2 S2 => k σ2 S2
end
/-! ### sorted, by what is encoded -/
def sortBy {α : Type} (f : α → D) (l : List α) : List α := l.mergeSort fun a b => PySem.W.dataLe false id (f a) (f b)
theorem sortD_map {α : Type} (f : α → D) (l : List α) : sortD (l.map f) = (sortBy f l).map f := (List.map_mergeSort (r := fun a b => PySem.W.dataLe false id (f a) (f b)) (s := PySem.W.dataLe false id) (f := f) (l := l) (fun _ _ _ _ => rfl)).symm
theorem sortBy_len {α : Type} (f : α → D) (l : List α) : (sortBy f l).length = l.length := List.length_mergeSort _
theorem sortBy_perm {α : Type} (f : α → D) (l : List α) : (sortBy f l).Perm l := List.mergeSort_perm _ _
theorem sortBy_mem {α : Type} {f : α → D} {l : List α} {a : α} : a ∈ sortBy f l ↔ a ∈ l := (sortBy_perm f l).mem_iff
theorem all_of {α : Type} {f : α → D} (h : ∀ a b, PySem.W.alike (f a) (f b) = true) (l : List α) : PySem.W.AllAlike (l.map f) := PySem.W.AllAlike.of h
theorem dep_of {α : Type} {f : α → D} (h : ∀ a, (f a).depth ≤ 60) (l : List α) : ∀ d ∈ l.map f, d.depth ≤ 60 := fun d hd => by
  obtain ⟨a, _, rfl⟩ := List.mem_map.mp hd
  exact h a
end TT
/-! Base8 -/
namespace TT
open PySem PySem.Spec PyProof.Rows L2
section
variable {K : PySem.W.Frag} {σ : L2.St} {es es' : List SV} {F B F' B' F0 B0 H : Hp} {ta tb te tx tc : TE} {t u : TT} {x y z d d2 : D} {v : V} {i j n : Nat} {ms : List MO} {Dn : Ends} {g : TG} {is : List Nat} {mk mk2 : Addr → MO}
/-- to a new object that may change -/
def EvM (K : PySem.W.Frag) (te : TE) (σ : L2.St) (F B : Hp) (mk : Addr → MO) : Prop :=
  ∀ F1 H1, Gr F B F1 H1 → ∀ Q : VK, (∀ p F2 H2, Gr F1 H1 F2 H2 → H1 p = none → MOk K F2 H2 (mk p) → Q (.ref p) H2) → te σ H1 Q
theorem EvN.toM {ds : List D} (h : EvN K te σ F B ds) : EvM K te σ F B (fun p => .lst p ds) := fun F1 H1 g Q q => h F1 H1 g Q fun p vs F2 H2 g2 hp hf h2 kv => q p F2 H2 g2 hp ⟨hf, vs, h2, kv⟩
theorem em_newK : EvM K tDNewK σ F B (fun p => .dK p []) := fun F1 H1 g Q q p hp => q p F1 _ (Gr.mut g.fh hp) hp ⟨g.fh.free hp, [], upd_same, .nil⟩
theorem em_newT : EvM K tDNewT σ F B (fun p => .dT p []) := fun F1 H1 g Q q p hp => q p F1 _ (Gr.mut g.fh hp) hp ⟨g.fh.free hp, [], upd_same, .nil⟩
/-- {k: v} -/
theorem em_disp1 {k : Key} (hk : EvD K ta σ F B (keyD k)) (hv : EvD K tb σ F B d) : EvM K (tDisp [(ta, tb)]) σ F B (fun p => .dK p [(k, d)]) := fun F1 H1 g Q q p hp => by
  have g1 : Gr F1 H1 F1 (upd H1 p (.dK [])) := Gr.mut g.fh hp
  refine hk F1 _ (g.trans g1) _ fun u F2 H2 g2 ku => hv F2 H2 ((g.trans g1).trans g2) _ fun w F3 H3 g3 kw => ?_
  have g13 := (g1.trans g2).trans g3
  have h3 : H3 p = some (.dK []) := (g2.trans g3).hh p _ upd_same
  have f3 : F3 p = none := by
    rw [(g2.trans g3).nw p (by rw [upd_same]; exact fun z => nomatch z)]
    exact g.fh.free hp
  refine ⟨h3, [(k, w)], by rw [dp_key ku]; rfl, (by show 1 ≤ 15; decide), q p F3 _ (g13.put hp f3) hp ⟨f3, [(k, w)], ?_, .cons ⟨rfl, kw⟩ .nil⟩⟩
  rw [upd_same]
  rfl
theorem Sta.madeM (S : Sta K F0 B0 es ms F H σ) (hm : ∀ p, (mk p).ad = p) {p : Addr} {F' H' : Hp} (g : Gr F H F' H') (hp : H p = none) (h : MOk K F' H' (mk p)) : Sta K F0 B0 es (mk p :: ms) F' H' σ := S.made g (by rw [hm]; exact hp) h
theorem st_setM (S : Sta K F0 B0 es ms F H σ) (h : EvM K te σ F H mk) (k : ∀ p F' H' σ', Sta K F0 B0 (es.set i (.val (.ref p))) (mk p :: ms) F' H' σ' → Dn.nx σ' H') (hm : ∀ p, (mk p).ad = p := by intro _; rfl) : tAsg te (gName i) Dn σ H :=
  h F H (Gr.refl S.ex) _ fun p F' H' g hp h2 => k p F' H' _ ((S.madeM hm g hp h2).setV i (.ref p))
theorem st_parMM (S : Sta K F0 B0 es ms F H σ) (h1 : EvM K ta σ F H mk) (h2 : EvM K tb σ F H mk2) (k : ∀ p p2 F' H' σ', Sta K F0 B0 ((es.set i (.val (.ref p))).set j (.val (.ref p2))) (mk2 p2 :: mk p :: ms) F' H' σ' → Dn.nx σ' H') (hm : ∀ p, (mk p).ad = p := by intro _; rfl) (hm2 : ∀ p, (mk2 p).ad = p := by intro _; rfl) :
    tPar i j (tCons ta (tCons tb tNil)) Dn σ H :=
  h1 F H (Gr.refl S.ex) _ fun p F1 H1 g1 hp m1 => h2 F1 H1 g1 _ fun p2 F2 H2 g2 hp2 m2 => ⟨_, _, rfl, k p p2 F2 H2 _ ((((S.madeM hm g1 hp m1).madeM hm2 g2 hp2 m2).setV i (.ref p)).setV j (.ref p2))⟩
theorem st_parDD (S : Sta K F0 B0 es ms F H σ) (h1 : EvD K ta σ F H d) (h2 : EvD K tb σ F H d2) (k : ∀ F' H' σ', Sta K F0 B0 ((es.set i (.dat d)).set j (.dat d2)) ms F' H' σ' → Dn.nx σ' H') : tPar i j (tCons ta (tCons tb tNil)) Dn σ H :=
  h1 F H (Gr.refl S.ex) _ fun v F1 H1 g1 kv => h2 F1 H1 g1 _ fun w F2 H2 g2 kw => ⟨_, _, rfl, k F2 H2 _ (((S.grow (g1.trans g2)).set i (kv.ex g2.ff)).set j kw)⟩
theorem st_parMD (S : Sta K F0 B0 es ms F H σ) (h1 : EvM K ta σ F H mk) (h2 : EvD K tb σ F H d2) (k : ∀ p F' H' σ', Sta K F0 B0 ((es.set i (.val (.ref p))).set j (.dat d2)) (mk p :: ms) F' H' σ' → Dn.nx σ' H') (hm : ∀ p, (mk p).ad = p := by intro _; rfl) : tPar i j (tCons ta (tCons tb tNil)) Dn σ H :=
  h1 F H (Gr.refl S.ex) _ fun p F1 H1 g1 hp m1 => h2 F1 H1 g1 _ fun w F2 H2 g2 kw => ⟨_, _, rfl, k p F2 H2 _ ((((S.madeM hm g1 hp m1).grow g2).setV i (.ref p)).set j kw)⟩
theorem st_parDM (S : Sta K F0 B0 es ms F H σ) (h1 : EvD K ta σ F H d) (h2 : EvM K tb σ F H mk) (k : ∀ p F' H' σ', Sta K F0 B0 ((es.set i (.dat d)).set j (.val (.ref p))) (mk p :: ms) F' H' σ' → Dn.nx σ' H') (hm : ∀ p, (mk p).ad = p := by intro _; rfl) : tPar i j (tCons ta (tCons tb tNil)) Dn σ H :=
  h1 F H (Gr.refl S.ex) _ fun v F1 H1 g1 kv => h2 F1 H1 g1 _ fun p F2 H2 g2 hp m2 => ⟨_, _, rfl, k p F2 H2 _ ((((S.grow g1).madeM hm g2 hp m2).set i (kv.ex g2.ff)).setV j (.ref p))⟩
/-- a, b = e1, e2 where one is a captured name: two new objects -/
theorem st_parCMM (S : Sta K F0 B0 es ms F H σ) (h1 : EvM K ta σ F H mk) (h2 : EvM K tb σ F H mk2) (k : ∀ p p2 F' H' σ', Sta K F0 B0 ((es.set i (.val (.ref p))).set j (.val (.ref p2))) (mk2 p2 :: mk p :: ms) F' H' σ' → Dn.nx σ' H') (hm : ∀ p, (mk p).ad = p := by intro _; rfl) (hm2 : ∀ p, (mk2 p).ad = p := by intro _; rfl) :
    tAsg (tTup (tCons ta (tCons tb tNil))) (gTup K 2 (gCons (gName i) (gCons (gName j) gNil))) Dn σ H :=
  h1 F H (Gr.refl S.ex) _ fun p F1 H1 g1 hp m1 => h2 F1 H1 g1 _ fun p2 F2 H2 g2 hp2 m2 => ⟨by show 2 ≤ sizeLine; decide, fun l hl =>
    ⟨l, _, rfl, SqT.of upd_same, rfl, _, _, rfl, _, _, rfl, rfl, k p p2 F2 _ _ (((((S.madeM hm g1 hp m1).madeM hm2 g2 hp2 m2).grow (Gr.mut g2.fh hl)).setV i (.ref p)).setV j (.ref p2))⟩⟩
theorem st_parCDD (S : Sta K F0 B0 es ms F H σ) (h1 : EvD K ta σ F H d) (h2 : EvD K tb σ F H d2) (k : ∀ F' H' σ', Sta K F0 B0 ((es.set i (.dat d)).set j (.dat d2)) ms F' H' σ' → Dn.nx σ' H') : tAsg (tTup (tCons ta (tCons tb tNil))) (gTup K 2 (gCons (gName i) (gCons (gName j) gNil))) Dn σ H :=
  h1 F H (Gr.refl S.ex) _ fun v F1 H1 g1 kv => h2 F1 H1 g1 _ fun w F2 H2 g2 kw => ⟨by show 2 ≤ sizeLine; decide, fun l hl =>
    ⟨l, _, rfl, SqT.of upd_same, rfl, _, _, rfl, _, _, rfl, rfl, k F2 _ _ ((((S.grow (g1.trans g2)).grow (Gr.mut g2.fh hl)).set i (kv.ex g2.ff)).set j kw)⟩⟩
/-- what stands behind a statement, said once -/
theorem st_cut {tu tw : TS} (S : Sta K F0 B0 es ms F H σ) (Mid : List SV → List MO → Prop) (h : tu { Dn with nx := NX K F0 B0 Mid } σ H) (k : ∀ es ms F' H' σ', Mid es ms → Sta K F0 B0 es ms F' H' σ' → tw Dn σ' H') : C8.tCut tu tw Dn σ H :=
  ⟨_, h, fun σ' H' ⟨es, ms, F', hI, S'⟩ => k es ms F' H' σ' hI S'⟩
/-- a target takes data -/
theorem st_asg (S : Sta K F0 B0 es ms F H σ) (h : EvD K te σ F H d) (tg : TgOk K g d es es' is) (k : ∀ F' H' σ', Sta K F0 B0 es' ms F' H' σ' → Dn.nx σ' H') : tAsg te g Dn σ H :=
  h F H (Gr.refl S.ex) _ fun v F' H' gr kv => (S.grow gr).tg kv tg fun σ2 S2 => k F' H' σ2 S2
end
section
variable {κ : Type} [DecidableEq κ]
theorem putD_len (kds : List (κ × D)) (k : κ) (d : D) : (putD kds k d).length ≤ kds.length + 1 := by
  unfold putD
  split
  · rw [List.length_map]; omega
  · rw [List.length_append]; exact Nat.le_refl _
theorem dropD_len (kds : List (κ × D)) (k : κ) : (dropD kds k).length ≤ kds.length := List.length_filter_le _ _
end
end TT
/-! Base9 -/
namespace TT
open PySem PySem.Spec PyProof.Rows L2
/-! equality of plain data -/
theorem eqv_nil (ds : List D) : PyData.eqv (.list ds) (.list []) = ds.isEmpty := by
  cases ds <;> simp [PyData.eqv, PyData.eqvAll]
theorem eqvAll_ints : ∀ ns ms : List Int, PyData.eqvAll (ns.map .int) (ms.map .int) = decide (ns = ms)
  | [], [] => by simp [PyData.eqvAll]
  | [], _ :: _ => by simp [PyData.eqvAll]
  | _ :: _, [] => by simp [PyData.eqvAll]
  | n :: ns, m :: ms => by
    rw [List.map_cons, List.map_cons, PyData.eqvAll, eqvAll_ints ns ms]
    by_cases h : n = m <;> simp [PyData.eqv, h]
theorem eqvAll_strs : ∀ ns ms : List Str, PyData.eqvAll (ns.map .str) (ms.map .str) = decide (ns = ms)
  | [], [] => by simp [PyData.eqvAll]
  | [], _ :: _ => by simp [PyData.eqvAll]
  | _ :: _, [] => by simp [PyData.eqvAll]
  | n :: ns, m :: ms => by
    rw [List.map_cons, List.map_cons, PyData.eqvAll, eqvAll_strs ns ms]
    by_cases h : n = m
    · simp [PyData.eqv, h]
    · simp [PyData.eqv, h]
theorem shaped_by {ds : List D} (h : ∀ d ∈ ds, d.canLay0 = true ∧ d.depth ≤ 30) : SeqAt.shaped (.list ds) = true ∧ SeqAt.shaped (.tuple ds) = true := by
  have a : PyData.canLayAll0 ds = true ∧ PyData.depthAll ds ≤ 30 := by
    induction ds with
    | nil => simp [PyData.canLayAll0, PyData.depthAll]
    | cons d ds ih =>
      obtain ⟨h1, h2⟩ := h d List.mem_cons_self
      obtain ⟨h3, h4⟩ := ih fun x hx => h x (List.mem_cons_of_mem _ hx)
      rw [PyData.canLayAll0, PyData.depthAll, h1, h3]
      exact ⟨rfl, Nat.max_le.mpr ⟨h2, h4⟩⟩
  constructor
  · unfold SeqAt.shaped
    rw [PyData.canLay0, PyData.depth, a.1]
    simp
    omega
  · unfold SeqAt.shaped
    rw [PyData.canLay0, PyData.depth, a.1]
    simp
    omega
theorem shaped_ints (ns : List Int) : SeqAt.shaped (.list (ns.map .int)) = true ∧ SeqAt.shaped (.tuple (ns.map .int)) = true := shaped_by fun d hd => by
  obtain ⟨n, _, rfl⟩ := List.mem_map.mp hd
  simp [PyData.canLay0, PyData.depth]
theorem shaped_strs {ns : List Str} (h : ∀ s ∈ ns, PyData.strOk s = true) : SeqAt.shaped (.list (ns.map .str)) = true ∧ SeqAt.shaped (.tuple (ns.map .str)) = true := shaped_by fun d hd => by
  obtain ⟨n, hn, rfl⟩ := List.mem_map.mp hd
  simp [PyData.canLay0, PyData.depth, h n hn]

section
variable {K : PySem.W.Frag} {σ : L2.St} {es es' : List SV} {F B F' B' F0 B0 H : Hp} {ta tb te tx tc : TE} {d : D} {v : V} {i j n : Nat} {ms : List MO} {Dn : Ends} {g : TG} {p : Addr} {ds zs : List D} {mk : Addr → MO}
/-- to a new object that keeps a word -/
def EvP (K : PySem.W.Frag) (te : TE) (σ : L2.St) (F B : Hp) (P : (Addr → MO) → Prop) : Prop :=
  ∀ F1 H1, Gr F B F1 H1 → ∀ Q : VK, (∀ mk p F2 H2, P mk → Gr F1 H1 F2 H2 → H1 p = none → MOk K F2 H2 (mk p) → Q (.ref p) H2) → te σ H1 Q
/-- called with data ds, it hands back a new object that keeps a word -/
def SpM (K : PySem.W.Frag) (R : List D → ((Addr → MO) → Prop) → Prop) : Sp := fun vs H Q _ => ∃ F ds P, Ex F H ∧ DpAll K F vs ds ∧ R ds P ∧ ∀ mk p F' H', P mk → Gr F H F' H' → H p = none → MOk K F' H' (mk p) → Q (.ref p) H'
theorem ep_call {R : List D → ((Addr → MO) → Prop) → Prop} {E : XK} {ta : TA} {P : (Addr → MO) → Prop} (h : EvA K ta σ F B ds) (hR : R ds P) : EvP K (tCall (SpM K R) [] E ta) σ F B P := fun F1 H1 g Q q =>
  h F1 H1 g _ fun vs F2 H2 g2 k2 => ⟨F2, ds, P, g2.fh, by rw [List.append_nil]; exact k2, hR, fun mk p F3 H3 hP g3 hp m3 => q mk p F3 H3 hP (g2.trans g3) (g2.hh.free hp) m3⟩
theorem spM_len {R : List D → ((Addr → MO) → Prop) → Prop} {n : Nat} (hn : ∀ ds P, R ds P → ds.length = n) : ∀ vs H Q E, SpM K R vs H Q E → vs.length = n := fun vs H Q E ⟨F, ds, d, _, k, hR, _⟩ => by rw [k.len, hn ds d hR]
theorem em_call {R : List D → ((Addr → MO) → Prop) → Prop} {E : XK} {ta : TA} (h : EvA K ta σ F B ds) (hR : R ds (fun m => m = mk)) : EvM K (tCall (SpM K R) [] E ta) σ F B mk := fun F1 H1 g Q q =>
  ep_call h hR F1 H1 g Q fun mk' p F2 H2 e g2 hp m => q p F2 H2 g2 hp (e ▸ m)
theorem st_setP {P : (Addr → MO) → Prop} (S : Sta K F0 B0 es ms F H σ) (h : EvP K te σ F H P) (hm : ∀ mk, P mk → ∀ p, (mk p).ad = p) (k : ∀ mk p F' H' σ', P mk → Sta K F0 B0 (es.set i (.val (.ref p))) (mk p :: ms) F' H' σ' → Dn.nx σ' H') : tAsg te (gName i) Dn σ H :=
  h F H (Gr.refl S.ex) _ fun mk p F' H' hP g hp h2 => k mk p F' H' _ hP ((S.madeM (hm mk hP) g hp h2).setV i (.ref p))
/-- a name's object is handed back -/
theorem st_retO {m : MO} (S : Sta K F0 B0 es ms F H σ) (hi : es[i]? = some (.val (.ref p))) (hj : ms[j]? = some m) (hp : m.ad = p) (k : ∀ F' H', Gr F0 B0 F' H' → B0 p = none → MOk K F' H' m → Dn.rt (.ref p) H') : tRet (tVar i) Dn σ H :=
  ⟨.ref p, S.so.val hi, k F H S.gr (by rw [← hp]; exact S.b hj) (S.m hj)⟩
/-- sorted(a new dict) -/
theorem en_sortP {P : (Addr → MO) → Prop} (h : EvP K te σ F B P) (hP : ∀ mk, P mk → ∃ kds : List (Key × D), (mk = fun p => .dK p kds) ∧ PySem.W.AllAlike (kds.map fun kv => keyD kv.1) ∧ sortD (kds.map fun kv => keyD kv.1) = zs) (hz : ∀ d ∈ zs, ∃ k, d = keyD k) : EvN K (tCB rSortK (tCons te tNil)) σ F B zs := fun F1 H1 g Q q =>
  h F1 H1 g _ fun mk p F2 H2 hm g2 hp m2 => by
    obtain ⟨kds, rfl, hal, hs⟩ := hP mk hm
    obtain ⟨hf, kvs, h1, h2⟩ := m2
    have ek : (kvs.map fun kv => keyD kv.1) = kds.map fun kv => keyD kv.1 := by
      have e := congrArg (List.map keyD) h2.keys
      rw [List.map_map, List.map_map] at e
      exact e
    refine ⟨p, kvs, rfl, .inl h1, by rw [ek]; exact hal, fun K' F' l us hl hu => ?_⟩
    rw [ek, hs] at hu
    exact q l us F2 _ (g2.trans (Gr.mut g2.fh hl)) (g2.hh.free hl) (g2.fh.free hl) upd_same (flat_all hz hu)
/-- x = xs.pop(k) -/
theorem st_popAt {k : Nat} (S : Sta K F0 B0 es ms F H σ) (hi : es[i]? = some (.val (.ref p))) (hj : ms[j]? = some (.lst p ds)) (hk : EvD K te σ F H (.int (k : Nat))) (hb : k < 2 ^ 63) (hd : ds[k]? = some d)
    (q : ∀ F' H' σ', Sta K F0 B0 (es.set n (.dat d)) (ms.set j (.lst p (ds.eraseIdx k))) F' H' σ' → Dn.nx σ' H') : tAsg (tBM K "list" rPopAt (tVar i) (tCons te tNil)) (gName n) Dn σ H := by
  obtain ⟨hf, vs, h1, h2⟩ := S.m hj
  refine ⟨.ref p, S.so.val hi, .inl ⟨rfl, vs, SqL.of h1⟩, hk F H (Gr.refl S.ex) _ fun v F' H' gr kv => ?_⟩
  have S' := S.grow gr
  obtain ⟨hf', vs', h1', h2'⟩ := S'.m hj
  obtain ⟨w, hw, kw⟩ := h2'.get hd
  have hl : k < vs'.length := (List.getElem?_eq_some_iff.mp hw).1
  refine ⟨p, vs', (k : Int), k, w, rfl, by rw [dp_int kv], h1', by omega, by omega, ?_, hw, q F' _ _ ((S'.turn (m := .lst p ds) (m' := .lst p (ds.eraseIdx k)) hj rfl ⟨hf', _, upd_same, h2'.erase k⟩).set n kw)⟩
  unfold seqIndex?
  simp
  omega
/-- x = xs.pop() -/
theorem st_pop (S : Sta K F0 B0 es ms F H σ) (hi : es[i]? = some (.val (.ref p))) (hj : ms[j]? = some (.lst p (ds ++ [d])))
    (q : ∀ F' H' σ', Sta K F0 B0 (es.set n (.dat d)) (ms.set j (.lst p ds)) F' H' σ' → Dn.nx σ' H') : tAsg (tBM0 K "list" rPop (tVar i)) (gName n) Dn σ H := by
  obtain ⟨hf, vs, h1, h2⟩ := S.m hj
  have hl : vs.length = ds.length + 1 := by rw [h2.len]; simp
  obtain ⟨w, hw, kw⟩ := h2.get (i := ds.length) (d := d) (by simp)
  refine ⟨.ref p, S.so.val hi, .inl ⟨rfl, vs, SqL.of h1⟩, p, vs, w, rfl, rfl, h1, by rw [hl]; exact hw, q F _ _ ((S.turn (m := .lst p (ds ++ [d])) (m' := .lst p ds) hj rfl ⟨hf, _, upd_same, ?_⟩).set n kw)⟩
  have := h2.dropLast
  rw [List.dropLast_concat] at this
  exact this
end
end TT
/-! Base10 -/
/-! Dicts of texts; things of which something is known. -/
namespace TT
open PySem PySem.Spec PyProof.Rows L2
theorem pr_len {α β : Type} {G : α → β → Prop} : ∀ {l : List α} {m : List β}, Paired G l m → l.length = m.length
  | _, _, .nil => rfl
  | _, _, .cons _ t => by rw [List.length_cons, List.length_cons, pr_len t]
theorem pr_get {α β : Type} {G : α → β → Prop} : ∀ {l : List α} {m : List β} {i : Nat} {b : β}, Paired G l m → m[i]? = some b → ∃ a, l[i]? = some a ∧ G a b
  | _, _, _, _, .nil, e => by simp at e
  | _, _, 0, _, .cons h _, e => by simp at e; subst e; exact ⟨_, rfl, h⟩
  | _, _, i + 1, _, .cons _ t, e => by simpa using pr_get (i := i) t (by simpa using e)
theorem pr_app {α β : Type} {G : α → β → Prop} : ∀ {l l' : List α} {m m' : List β}, Paired G l m → Paired G l' m' → Paired G (l ++ l') (m ++ m')
  | _, _, _, _, .nil, h => h
  | _, _, _, _, .cons a t, h => .cons a (pr_app t h)
def fset (f : FS) (n w : Str) : FS := (fun m => if m = n then some w else f.1 m, f.2 + 1)
def fdel (f : FS) (n : Str) : FS := (fun m => if m = n then none else f.1 m, f.2)
def f0 : FS := (fun _ => none, 0)
theorem DK.nil : DK [] f0 := ⟨Nat.le_refl _, List.nodup_nil, by simp, fun n => rfl⟩
theorem DK.weak {kvs : List (Key × V)} {f g : FS} (h : DK kvs f) (e : ∀ n, g.1 n = f.1 n) (l : f.2 ≤ g.2) : DK kvs g := ⟨Nat.le_trans h.1 l, h.2.1, h.2.2.1, fun n => by rw [e]; exact h.2.2.2 n⟩
theorem DK.put {kvs : List (Key × V)} {f : FS} (h : DK kvs f) (n w : Str) : DK (putK kvs (.inr n) (.str w)) (fset f n w) := by
  obtain ⟨h1, h2, h3, h4⟩ := h
  have hv : ∀ m, valV (putK kvs (.inr n) (.str w)) (.inr m) = ((fset f n w).1 m).map V.str := fun m => by
    rw [valV_put]
    by_cases e : m = n
    · simp [fset, e]
    · have e' : ¬ (Sum.inr m : Key) = .inr n := fun z => e (Sum.inr.inj z)
      simp [fset, e, h4 m]
  cases c : valV kvs (.inr n) with
  | none =>
    refine ⟨?_, nd_putK _ h2 c, ?_, hv⟩
    · rw [putK_new _ c, List.length_append]
      exact Nat.succ_le_succ h1
    · rw [putK_new _ c]
      intro x hx
      rw [List.map_append, List.mem_append] at hx
      rcases hx with hx | hx
      · exact h3 x hx
      · simp at hx; exact ⟨n, hx⟩
  | some v =>
    have hk : (putK kvs (.inr n) (.str w)).map (·.1) = kvs.map (·.1) := by
      unfold putK
      rw [if_pos (by rw [valV_any, c]; rfl), List.map_map]
      refine List.map_congr_left fun x _ => ?_
      show (if x.1 = (Sum.inr n : Key) then (x.1, V.str w) else x).1 = x.1
      split <;> rfl
    refine ⟨?_, by rw [hk]; exact h2, by rw [hk]; exact h3, hv⟩
    have e := congrArg List.length hk
    rw [List.length_map, List.length_map] at e
    rw [e]
    exact Nat.le_succ_of_le h1
theorem DK.del {kvs : List (Key × V)} {f : FS} (h : DK kvs f) (n : Str) : DK (dropK kvs (.inr n)) (fdel f n) := by
  obtain ⟨h1, h2, h3, h4⟩ := h
  refine ⟨Nat.le_trans (List.length_filter_le _ _) h1, nd_dropK h2, fun x hx => ?_, fun m => ?_⟩
  · obtain ⟨p, hp, rfl⟩ := List.mem_map.mp hx
    exact h3 _ (List.mem_map.mpr ⟨p, dropK_mem hp, rfl⟩)
  · have e : ∀ l : List (Key × V), valV (dropK l (.inr n)) (.inr m) = if m = n then none else valV l (.inr m) := by
      intro l
      induction l with
      | nil => simp [dropK, valV]
      | cons p r ih =>
        by_cases c : p.1 = .inr n
        · rw [dropK_pos c, ih]
          by_cases e : m = n
          · rw [if_pos e, if_pos e]
          · rw [if_neg e, if_neg e, valV_neg fun z => e (Sum.inr.inj (z.symm.trans c))]
        · rw [dropK_neg c]
          by_cases c2 : p.1 = .inr m
          · rw [valV_pos c2, valV_pos c2, if_neg fun z => c (by rw [c2, z])]
          · rw [valV_neg c2, valV_neg c2, ih]
    rw [e, h4 m]
    by_cases e : m = n <;> simp [fdel, e]
theorem FD.ex {F F' : Hp} {v : V} {f : FS} (e : Ex F F') (h : FD F v f) : FD F' v f := by
  obtain ⟨q, kvs, a, b, c⟩ := h
  exact ⟨q, kvs, a, e _ _ b, c⟩
section
variable {K : PySem.W.Frag} {σ : L2.St} {es es' : List SV} {F B F' B' F0 B0 H : Hp} {ta tb te tx tc : TE} {d : D} {v : V} {i j n : Nat} {ms : List MO} {Dn : Ends} {g : TG} {p : Addr} {ds zs : List D} {R R2 : Hp → V → Prop} {f f' : FS} {fs : List FS}
/-- to something of which R is known -/
def EvR (te : TE) (σ : L2.St) (F B : Hp) (R : Hp → V → Prop) : Prop := ∀ F1 H1, Gr F B F1 H1 → ∀ Q : VK, (∀ v F2 H2, Gr F1 H1 F2 H2 → R F2 v → Q v H2) → te σ H1 Q
theorem EvR.gr (h : EvR te σ F B R) (g : Gr F B F' B') : EvR te σ F' B' R := fun F1 H1 a => h F1 H1 (g.trans a)
theorem er_var (so : SO K F σ es) (h : es[i]? = some (.rel R)) : EvR (tVar i) σ F B R := fun F1 H1 g Q q => by
  obtain ⟨v, h1, h2, h3⟩ := so.rel h
  exact ⟨v, h1, q v F1 H1 (Gr.refl g.fh) (h3 _ _ _ g.ff h2)⟩
theorem Sta.setR (S : Sta K F0 B0 es ms F H σ) (i : Nat) (hm : ∀ F F' v, Ex F F' → R F v → R F' v) (h : R F v) : Sta K F0 B0 (es.set i (.rel R)) ms F H (σ.set i (some v)) := S.slots (S.so.setR i hm h)
theorem st_setR (S : Sta K F0 B0 es ms F H σ) (hm : ∀ F F' v, Ex F F' → R F v → R F' v) (h : EvR te σ F H R) (k : ∀ F' H' σ', Sta K F0 B0 (es.set i (.rel R)) ms F' H' σ' → Dn.nx σ' H') : tAsg te (gName i) Dn σ H :=
  h F H (Gr.refl S.ex) _ fun v F' H' g hv => k F' H' _ ((S.grow g).setR i hm hv)
theorem st_parCRR (S : Sta K F0 B0 es ms F H σ) (hm : ∀ F F' v, Ex F F' → R F v → R F' v) (hm2 : ∀ F F' v, Ex F F' → R2 F v → R2 F' v) (h1 : EvR ta σ F H R) (h2 : EvR tb σ F H R2) (k : ∀ F' H' σ', Sta K F0 B0 ((es.set i (.rel R)).set j (.rel R2)) ms F' H' σ' → Dn.nx σ' H') :
    tAsg (tTup (tCons ta (tCons tb tNil))) (gTup K 2 (gCons (gName i) (gCons (gName j) gNil))) Dn σ H :=
  h1 F H (Gr.refl S.ex) _ fun v F1 H1 g1 kv => h2 F1 H1 g1 _ fun w F2 H2 g2 kw => ⟨by show 2 ≤ sizeLine; decide, fun l hl =>
    ⟨l, _, rfl, SqT.of upd_same, rfl, _, _, rfl, _, _, rfl, rfl, k F2 _ _ ((((S.grow (g1.trans g2)).grow (Gr.mut g2.fh hl)).setR i hm (hm _ _ _ g2.ff kv)).setR j hm2 kw)⟩⟩
/-! dicts of texts -/
theorem em_newSV : EvM K tDNewK σ F B (fun p => .dsv p f0) := fun F1 H1 g Q q p hp => q p F1 _ (Gr.mut g.fh hp) hp ⟨g.fh.free hp, [], upd_same, .nil⟩
theorem st_dputV {m w : Str} (S : Sta K F0 B0 es ms F H σ) (hv : EvD K te σ F H (.str w)) (hi : es[i]? = some (.val (.ref p))) (hj : ms[j]? = some (.dsv p f)) (hk : EvD K tx σ F H (.str m)) (hz : f.2 < 100000)
    (q : ∀ F' H', Sta K F0 B0 es (ms.set j (.dsv p (fset f m w))) F' H' σ → Dn.nx σ H') : sDPut (tVar i) tx te Dn σ H :=
  hv F H (Gr.refl S.ex) _ fun v F1 H1 g1 kv => ⟨.ref p, S.so.val hi, hk F1 H1 g1 _ fun u F2 H2 g2 kw => by
    have S' := S.grow (g1.trans g2)
    obtain ⟨hf, kvs, h1, h2⟩ := S'.m hj
    rw [dp_str kv, dp_str kw]
    exact ⟨p, _, rfl, .inl ⟨kvs, .inr m, h1, rfl, Nat.lt_of_le_of_lt h2.1 (Nat.lt_of_lt_of_le hz (by decide)), rfl⟩, q F2 _ (S'.turn (m := .dsv p f) (m' := .dsv p (fset f m w)) hj rfl ⟨hf, _, upd_same, h2.put m w⟩)⟩⟩
theorem st_dpopV {m w : Str} (S : Sta K F0 B0 es ms F H σ) (hi : es[i]? = some (.val (.ref p))) (hj : ms[j]? = some (.dsv p f)) (hk : EvD K tx σ F H (.str m)) (hw : f.1 m = some w)
    (q : ∀ F' H', Sta K F0 B0 es (ms.set j (.dsv p (fdel f m))) F' H' σ → Dn.nx σ H') : tDrop (tDPop1 (tVar i) tx) Dn σ H := by
  obtain ⟨_, kvs0, h0, _⟩ := S.m hj
  refine ⟨.ref p, S.so.val hi, p, rfl, .inl ⟨kvs0, .inl h0⟩, hk F H (Gr.refl S.ex) _ fun u F2 H2 g2 kw => ?_⟩
  have S' := S.grow g2
  obtain ⟨hf, kvs, h1, h2⟩ := S'.m hj
  exact ⟨kvs, .inr m, .str w, h1, dp_str kw, by rw [h2.2.2.2 m, hw]; rfl, q F2 _ (S'.turn (m := .dsv p f) (m' := .dsv p (fdel f m)) hj rfl ⟨hf, _, upd_same, h2.del m⟩)⟩
/-- xs = [{}] -/
theorem st_newDL (S : Sta K F0 B0 es ms F H σ) (k : ∀ p F' H' σ', Sta K F0 B0 (es.set i (.val (.ref p))) (.lsd p [f0] :: ms) F' H' σ' → Dn.nx σ' H') : tAsg (tLst (tCons tDNewK tNil)) (gName i) Dn σ H := fun d hd => ⟨by show 1 ≤ sizeLine; decide, fun p hp => by
  have g1 : Gr F H (upd F d (.dK [])) (upd H d (.dK [])) := Gr.new S.ex hd
  have g2 := g1.trans (Gr.mut (o := .lst [.ref d]) g1.fh hp)
  have hpH : H p = none := g1.hh.free hp
  have hF : upd F d (.dK []) p = none := g1.fh.free hp
  refine k p (upd F d (.dK [])) _ _ ((S.made (m := .lsd p [f0]) g2 hpH ⟨hF, [.ref d], upd_same, ?_⟩).setV i (.ref p))
  exact .cons ⟨d, [], rfl, upd_same, DK.nil⟩ .nil⟩
/-- kept = dict(xs[-1]) -/
theorem st_copyD (S : Sta K F0 B0 es ms F H σ) (hi : es[i]? = some (.val (.ref p))) (hj : ms[j]? = some (.lsd p (fs ++ [f]))) (k : ∀ p' F' H' σ', Sta K F0 B0 (es.set n (.val (.ref p'))) (.dsv p' f :: ms) F' H' σ' → Dn.nx σ' H') :
    tAsg (tCB (fun xs H Q => ∃ (a : Addr) (kvs : List (Key × V)), xs = [.ref a] ∧ Rd H a (.dK kvs) ∧ ∀ p, H p = none → Q (.ref p) (upd H p (.dK kvs))) (tCons (tOp (rIxL K) (tVar i) (tUn (rU fun i => .int (-i)) (tC (.int 1)))) tNil)) (gName n) Dn σ H := by
  obtain ⟨hf, vs, h1, h2⟩ := S.m hj
  have hl : vs.length = fs.length + 1 := by rw [pr_len h2]; simp
  have hg : ∃ v, vs[fs.length]? = some v ∧ FD F v f := by
    have := pr_get h2 (i := fs.length) (b := f) (by simp)
    exact this
  obtain ⟨v, hv, q, kvs, rfl, hq, dk⟩ := hg
  refine ⟨.ref p, S.so.val hi, 1, rfl, p, vs, -1, .ref q, rfl, rfl, SqL.of h1, ?_, q, kvs, rfl, .inl (S.ex _ _ hq), fun p' hp' => k p' F _ _ ((S.made (m := .dsv p' f) (Gr.mut S.ex hp') hp' ⟨S.ex.free hp', kvs, upd_same, dk⟩).setV n (.ref p'))⟩
  unfold atI
  have e : ixN vs.length (-1) = some fs.length := by
    rw [hl]
    unfold ixN
    simp
    omega
  rw [e]
  exact hv
/-- xs.append(kept): kept is frozen -/
theorem st_appD {p2 : Addr} {ms' : List MO} (S : Sta K F0 B0 es (.dsv p2 f :: .lsd p fs :: ms') F H σ) (hi : es[i]? = some (.val (.ref p))) (hn : es[n]? = some (.val (.ref p2))) (he : ∀ m, f'.1 m = f.1 m) (hl : f.2 ≤ f'.2) (hz : fs.length < 100000)
    (k : ∀ F' H', Sta K F0 B0 es (.lsd p (fs ++ [f']) :: ms') F' H' σ → Dn.nx σ H') : tDrop (tBM K "list" rAppend (tVar i) (tCons (tVar n) tNil)) Dn σ H := by
  obtain ⟨hf, vs, h1, h2⟩ := S.m (j := 1) rfl
  obtain ⟨hf2, kvs, h3, h4⟩ := S.m (j := 0) rfl
  have hb2 := S.b (j := 0) rfl
  have ne : p ≠ p2 := S.ne (j := 1) (j' := 0) rfl rfl (by decide)
  refine ⟨.ref p, S.so.val hi, .inl ⟨rfl, vs, SqL.of h1⟩, .ref p2, S.so.val hn, p, vs, .ref p2, rfl, rfl, h1, Nat.lt_of_lt_of_le (by rw [pr_len h2]; exact hz) (by decide), ?_⟩
  -- kept is frozen first
  have S1 : Sta K F0 B0 es (.lsd p fs :: ms') (upd F p2 (.dK kvs)) H σ := by
    refine ⟨S.gr.fix hb2 hf2 h3, S.so.ex (Ex.new hf2), fun m hm => ⟨?_, (S.mo m (List.mem_cons_of_mem _ hm)).2⟩, (List.nodup_cons.mp S.nd).2⟩
    have kk := (S.mo m (List.mem_cons_of_mem _ hm)).1
    have ne2 : m.ad ≠ p2 := fun z => (List.nodup_cons.mp S.nd).1 (by rw [show (MO.dsv p2 f).ad = m.ad from z.symm]; exact List.mem_map.mpr ⟨m, hm, rfl⟩)
    exact kk.ex (Ex.new hf2) (by rw [upd_ne ne2]; exact kk.free) fun _ e => e
  obtain ⟨hf', vs', h1', h2'⟩ := S1.m (j := 0) rfl
  have ev : vs' = vs := by rw [h1] at h1'; cases h1'; rfl
  subst ev
  exact k _ _ (S1.turn (j := 0) (m := .lsd p fs) (m' := .lsd p (fs ++ [f'])) rfl rfl ⟨hf', _, upd_same, pr_app h2' (.cons ⟨p2, kvs, rfl, upd_same, h4.weak he hl⟩ .nil)⟩)
end
end TT
/-! Base11 -/
/-! Comprehensions of things of which something is known; fields; a lock. -/
namespace TT
open PySem PySem.Spec PyProof.Rows L2
section
variable {K : PySem.W.Frag} {σ : L2.St} {es : List SV} {F B F' B' : Hp} {ta tb te tx tc : TE} {t u : TT} {wi : TI} {g : TG} {tt : TT} {ds : List D} {vs is : List Nat}
/-- to a new list, each item known by R -/
def EvRN {α : Type} (te : TE) (σ : L2.St) (F B : Hp) (R : α → Hp → V → Prop) (l : List α) : Prop :=
  ∀ F1 H1, Gr F B F1 H1 → ∀ Q : VK, (∀ p vs F2 H2, Gr F1 H1 F2 H2 → H1 p = none → F2 p = none → H2 p = some (.lst vs) → Paired (fun v a => R a F2 v) vs l → Q (.ref p) H2) → te σ H1 Q
theorem en_lcR {α : Type} (l : List α) (enc : α → D) (R : α → Hp → V → Prop) (hR : ∀ a F F' v, Ex F F' → R a F v → R a F' v) (so : SO K F σ es) (it : ItrD K wi σ F B ds) (hds : ds = l.map enc) (es2 : α → List SV) (hz : l.length < 100000) (tg : ∀ a, a ∈ l → TgOk K g (enc a) (wipeE es vs) (es2 a) is) (hi : ∀ i ∈ is, i ∈ vs)
    (he : ∀ a, a ∈ l → ∀ F1 H1 σ2, Gr F B F1 H1 → SO K F1 σ2 (es2 a) → EvR te σ2 F1 H1 (R a)) : EvRN (tLc wi g tYes te vs) σ F B R l := fun F1 H1 g1 Q q => by
  subst hds
  refine it F1 H1 g1 _ fun J F2 H2 g2 y Dl hD => ?_
  refine ⟨fun i m H' => m = l.length - i ∧ i ≤ l.length ∧ ∃ F', Gr F2 H2 F' H' ∧ F' Dl = none ∧ ∃ us, H' Dl = some (.lst us) ∧ Paired (fun v a => R a F' v) us (l.take i), ⟨l.length, by simp, Nat.zero_le _, F2, Gr.mut g2.fh hD, g2.fh.free hD, [], upd_same, .nil⟩, ?_⟩
  rintro i m H' ⟨rfl, hi', F', g3, fD, us, hDl, pr⟩
  by_cases hlt : i < l.length
  · refine .inr ⟨y.go i H' (by rw [List.length_map]; exact hlt) (g3.ff.trans g3.fh), fun H4 => i + 1 ≤ l.length ∧ ∃ F', Gr F2 H2 F' H4 ∧ F' Dl = none ∧ ∃ us, H4 Dl = some (.lst us) ∧ Paired (fun v a => R a F' v) us (l.take (i + 1)), fun H4 q => ⟨l.length - (i + 1), by omega, rfl, q.1, q.2⟩, fun x H4 hy => ?_⟩
    obtain ⟨F4, g4, k4⟩ := y.yld i (enc l[i]) F' H' x H4 (by rw [List.getElem?_map, List.getElem?_eq_getElem hlt]; rfl) g3.ff g3.fh hy
    have hm : l[i] ∈ l := List.getElem_mem hlt
    have g04 : Gr F B F4 H4 := ((g1.trans g2).trans g3).trans g4
    refine tg _ hm x F4 H4 (wipe σ vs) _ g4.fh k4 ((so.ex g04.ff).wipe vs) fun σ2 so2 w2 => ⟨(w2 vs hi).trans (wipe_wipe vs), ?_⟩
    have tk : l.take (i + 1) = l.take i ++ [l[i]] := by rw [List.take_add_one, List.getElem?_eq_getElem hlt]; rfl
    refine (et_yes (F := F4) (B := H4)) F4 H4 (Gr.refl g4.fh) _ fun F5 H5 g5 => ?_
    rw [if_pos rfl]
    refine he _ hm F4 H4 σ2 g04 so2 F5 H5 g5 _ fun v F6 H6 g6 k6 => ?_
    have g46 := (g4.trans g5).trans g6
    have h6 : H6 Dl = some (.lst us) := g46.hh _ _ hDl
    have f6 : F6 Dl = none := by rw [g46.nw Dl (by rw [hDl]; exact fun z => nomatch z)]; exact fD
    have hl : us.length < 100000 := by
      rw [pr_len pr, List.length_take]
      omega
    refine ⟨us, h6, Nat.lt_of_lt_of_le hl (by decide), hlt, F6, (g3.trans g46).put hD f6, f6, us ++ [v], upd_same, ?_⟩
    rw [tk]
    exact pr_app (Paired.mapP pr fun v a h => hR a _ _ _ g46.ff h) (.cons k6 .nil)
  · have e' : i = l.length := by omega
    subst e'
    refine .inl ⟨by have := y.stop H' (g3.ff.trans g3.fh); rw [List.length_map] at this; exact this, ?_⟩
    rw [List.take_length] at pr
    exact q Dl us F' H' (g2.trans g3) (g2.hh.free hD) fD hDl pr
/-- a frozen list of frozen dicts -/
def FL (F : Hp) (v : V) (fs : List FS) : Prop := ∃ l vs, v = .ref l ∧ F l = some (.lst vs) ∧ Paired (FD F) vs fs
theorem FL.ex {F F' : Hp} {v : V} {fs : List FS} (e : Ex F F') (h : FL F v fs) : FL F' v fs := by
  obtain ⟨l, vs, a, b, c⟩ := h
  exact ⟨l, vs, a, e _ _ b, Paired.mapP c fun _ _ h => h.ex e⟩
/-- a new list of dicts, frozen -/
theorem er_lsd {fs : List FS} {P : (Addr → MO) → Prop} (h : EvP K te σ F B P) (hP : ∀ mk, P mk → mk = fun p => .lsd p fs) : EvR te σ F B (fun F v => FL F v fs) := fun F1 H1 g Q q => h F1 H1 g Q fun mk p F2 H2 hm g2 hp m2 => by
  have e := hP mk hm
  subst e
  obtain ⟨hf, vs, h1, h2⟩ := m2
  refine q _ (upd F2 p (.lst vs)) H2 (g2.fix hp hf h1) ⟨p, vs, rfl, upd_same, Paired.mapP h2 fun _ _ h => h.ex (Ex.new hf)⟩
end

section
variable {K : PySem.W.Frag} {F0 B0 F H : Hp} {es : List SV} {ms : List MO} {σ : L2.St} {i n : Nat} {p p2 : Addr} {kds : List (Key × D)} {Rs : List (Hp → V → Prop)} {R : Hp → V → Prop} {Dn : Ends}
/-- a dict is frozen -/
theorem Sta.freezeK (S : Sta K F0 B0 es (.dK p kds :: ms) F H σ) : ∃ kvs, KD K F kvs kds ∧ Ex F (upd F p (.dK kvs)) ∧ Sta K F0 B0 es ms (upd F p (.dK kvs)) H σ := by
  obtain ⟨hf, kvs, h1, h2⟩ := (S.mo _ List.mem_cons_self).1
  have hb : B0 p = none := (S.mo _ List.mem_cons_self).2
  have nin : p ∉ ms.map MO.ad := (List.nodup_cons.mp S.nd).1
  refine ⟨kvs, h2, Ex.new hf, ⟨S.gr.fix hb hf h1, S.so.ex (Ex.new hf), fun m hm => ⟨?_, (S.mo m (List.mem_cons_of_mem _ hm)).2⟩, (List.nodup_cons.mp S.nd).2⟩⟩
  have k := (S.mo m (List.mem_cons_of_mem _ hm)).1
  have ne : m.ad ≠ p := fun z => nin (by rw [← z]; exact List.mem_map.mpr ⟨m, hm, rfl⟩)
  exact k.ex (Ex.new hf) (by rw [upd_ne ne]; exact k.free) fun _ e => e
/-- xs.append(y), y a thing of which R is known -/
theorem st_appR {j : Nat} (S : Sta K F0 B0 es ms F H σ) (hi : es[i]? = some (.val (.ref p))) (hj : ms[j]? = some (.lsr p Rs)) (hm : ∀ F F' v, Ex F F' → R F v → R F' v) {te : TE} (h : EvR te σ F H R) (hz : Rs.length < 100000)
    (k : ∀ F' H', Sta K F0 B0 es (ms.set j (.lsr p (Rs ++ [R]))) F' H' σ → Dn.nx σ H') : tDrop (tBM K "list" rAppend (tVar i) (tCons te tNil)) Dn σ H := by
  obtain ⟨hf, vs, h1, h2⟩ := S.m hj
  refine ⟨.ref p, S.so.val hi, .inl ⟨rfl, vs, SqL.of h1⟩, h F H (Gr.refl S.ex) _ fun v F' H' g kv => ?_⟩
  have S' := S.grow g
  obtain ⟨hf', vs', h1', h2'⟩ := S'.m hj
  have e : vs' = vs := by have := g.hh p _ h1; rw [h1'] at this; cases this; rfl
  subst e
  refine ⟨p, vs', v, rfl, rfl, h1', Nat.lt_of_lt_of_le (by rw [pr_len h2']; exact hz) (by decide), k F' _ (S'.turn (m := .lsr p Rs) (m' := .lsr p (Rs ++ [R])) hj rfl ⟨hf', _, upd_same, pr_app h2' (.cons ⟨kv, hm⟩ .nil)⟩)⟩
theorem em_newR {te : TE} (h : EvN K te σ F H []) : EvM K te σ F H (fun p => .lsr p []) := fun F1 H1 g Q q => h F1 H1 g Q fun p vs F2 H2 g2 hp hf h2 kv => q p F2 H2 g2 hp ⟨hf, vs, h2, by rw [dpa_nil kv]; exact .nil⟩
end

section
variable {K : PySem.W.Frag} {F0 B0 F H B : Hp} {es : List SV} {ms : List MO} {σ : L2.St} {i j n : Nat} {p : Addr} {Rs : List (Hp → V → Prop)} {R : Hp → V → Prop} {Dn : Ends} {ds : List D} {ta : TA}
theorem er_val {v : V} (so : SO K F σ es) (hi : es[i]? = some (.val v)) (hm : ∀ F F' v, Ex F F' → R F v → R F' v) (h : R F v) : EvR (tVar i) σ F B R := fun F1 H1 g Q q => ⟨v, so.val hi, q v F1 H1 (Gr.refl g.fh) (hm _ _ _ g.ff h)⟩
/-- called with data, it hands back a thing of which P is known -/
def SpX (K : PySem.W.Frag) (R : List D → (Hp → V → Prop) → Prop) : Sp := fun vs H Q _ => ∃ F ds P, Ex F H ∧ DpAll K F vs ds ∧ R ds P ∧ ∀ v F' H', Gr F H F' H' → P F' v → Q v H'
theorem er_call {RR : List D → (Hp → V → Prop) → Prop} {E : XK} (h : EvA K ta σ F B ds) (hR : RR ds R) : EvR (tCall (SpX K RR) [] E ta) σ F B R := fun F1 H1 g Q q =>
  h F1 H1 g _ fun vs F2 H2 g2 k2 => ⟨F2, ds, R, g2.fh, by rw [List.append_nil]; exact k2, hR, fun v F3 H3 g3 hv => q v F3 H3 (g2.trans g3) hv⟩
theorem spX_len {RR : List D → (Hp → V → Prop) → Prop} {n : Nat} (hn : ∀ ds P, RR ds P → ds.length = n) : ∀ vs H Q E, SpX K RR vs H Q E → vs.length = n := fun vs H Q E ⟨F, ds, d, _, k, hR, _⟩ => by rw [k.len, hn ds d hR]
theorem st_retLsr (S : Sta K F0 B0 es ms F H σ) (hi : es[i]? = some (.val (.ref p))) (hj : ms[j]? = some (.lsr p Rs)) (k : ∀ us F' H', Gr F0 B0 F' H' → F' p = some (.lst us) → Paired (fun v R => R F' v) us Rs → Dn.rt (.ref p) H') : tRet (tVar i) Dn σ H := by
  obtain ⟨hf, us, h1, h2⟩ := S.m hj
  exact ⟨.ref p, S.so.val hi, k us (upd F p (.lst us)) H (S.gr.fix (S.b hj) hf h1) upd_same (Paired.mapP h2 fun v R h => h.2 _ _ _ (Ex.new hf) h.1)⟩
theorem st_retX (S : Sta K F0 B0 es ms F H σ) {te : TE} (h : EvR te σ F H R) (k : ∀ v F' H', Gr F0 B0 F' H' → R F' v → Dn.rt v H') : tRet te Dn σ H := h F H (Gr.refl S.ex) _ fun v F' H' g kv => k v F' H' (S.gr.trans g) kv
end
theorem pr_map {α β γ : Type} {G : α → γ → Prop} {f : β → γ} : ∀ {l : List α} {m : List β}, Paired G l (m.map f) → Paired (fun a b => G a (f b)) l m
  | _, [], h => by cases h; exact .nil
  | _, b :: m, h => by
    cases h with
    | cons h t => exact .cons h (pr_map t)
end TT
/-! Mir -/
/-! What the defs compute, in plain words. -/
namespace TT
open PySem PySem.Spec PyProof.Rows L2
/-! threads -/
abbrev Th := List (Str × Str)
abbrev stD (s : Str × Str) : D := .tuple [.str s.1, .str s.2]
abbrev thD (t : Th) : D := .tuple (t.map stD)
abbrev prD (a b : Th) : D := .tuple [thD a, thD b]
def isL (w : Str) : Bool := decide (w ∈ (["lock", "share"] : List Str))
def isF (w : Str) : Bool := decide (w = "free")
/-- the word that holds n behind i steps -/
def held (t : Th) : Nat → Str → Option Str
  | 0, _ => none
  | i + 1, n => match t[i]? with
    | some (w, m) => if m = n then (if isL w then some w else if isF w then none else held t i n) else held t i n
    | none => held t i n
/-- the last step ahead of i that locks n -/
def lastB (t : Th) : Nat → Str → Option (Nat × Str)
  | 0, _ => none
  | i + 1, n => match t[i]? with
    | some (w, m) => if m = n ∧ isL w then some (i, w) else lastB t i n
    | none => lastB t i n
/-- locks nest, nothing is held at the end -/
structure Vd (t : Th) : Prop where
  len : t.length ≤ 6
  lk : ∀ i w n, t[i]? = some (w, n) → isL w = true → held t i n = none
  fr : ∀ i w n, t[i]? = some (w, n) → isF w = true → (held t i n).isSome
  fin : ∀ n, held t t.length n = none
  ok : ∀ s ∈ t, PyData.strOk s.1 = true ∧ PyData.strOk s.2 = true
structure Sec where
  (b e : Nat)
  (how name : Str)
deriving DecidableEq
def seD (s : Sec) : D := .tuple [.int s.b, .int s.e, .str s.how, .str s.name]
def secAt (t : Th) (i : Nat) : Option Sec := match t[i]? with
  | some (w, n) => if isF w then (lastB t i n).map fun p => ⟨p.1, i, p.2, n⟩ else none
  | none => none
def secs (t : Th) : List Sec := (List.range t.length).filterMap (secAt t)
theorem held_lastB (t : Th) : ∀ i n w, held t i n = some w → (lastB t i n).isSome
  | 0, n, w, h => by simp [held] at h
  | i + 1, n, w, h => by
    unfold held at h
    unfold lastB
    cases e : t[i]? with
    | none => rw [e] at h; exact held_lastB t i n w h
    | some p =>
      obtain ⟨v, m⟩ := p
      rw [e] at h
      simp only at h ⊢
      by_cases c : m = n
      · by_cases l : isL v = true
        · rw [if_pos ⟨c, l⟩]; rfl
        · rw [if_neg (fun z => l z.2)]
          rw [if_pos c, if_neg l] at h
          split at h
          · cases h
          · exact held_lastB t i n w h
      · rw [if_neg (fun z => c z.1)]
        rw [if_neg c] at h
        exact held_lastB t i n w h
/-! contests -/
structure Ct where
  (ab ae bb be : Nat)
  (kind name : Str)
deriving DecidableEq
def ctD (c : Ct) : D := .tuple [.int c.ab, .int c.ae, .int c.bb, .int c.be, .str c.kind, .str c.name]
def forcesB (a b : Ct) : Bool := decide (b.ab ≤ a.ae) && decide (a.bb ≤ b.be)
abbrev Acc := (Str × Str) × Nat
def accP (p : Acc) : Bool := decide (p.1.1 ∈ (["read", "write"] : List Str))
def accD (p : Acc) : D := .tuple [.int (p.2 : Nat), .str p.1.1, .str p.1.2]
def acc (t : Th) : List Acc := t.zipIdx.filter accP
def lockP1 (s s' : Sec) : Bool := decide (s.name = s'.name) && !(decide (s.how = s'.how) && decide (s'.how = "share"))
def lockC (s s' : Sec) : Ct := ⟨s.b, s.e, s'.b, s'.e, "lock", s.name⟩
def pairsOf {α β γ : Type} (p : α → β → Bool) (f : α → β → γ) (l : List α) (m : List β) : List γ := l.flatMap fun a => (m.filter (p a)).map (f a)
def lockS (a b : Th) : List Ct := pairsOf lockP1 lockC (sortBy seD (secs a)) (sortBy seD (secs b))
def dataP1 (x y : Acc) : Bool := decide (x.1.2 = y.1.2) && !(decide (x.1.1 = y.1.1) && decide (y.1.1 = "read"))
def dataC (x y : Acc) : Ct := ⟨x.2, x.2, y.2, y.2, "data", x.1.2⟩
def dataS (a b : Th) : List Ct := pairsOf dataP1 dataC (acc a) (acc b)
def cons (a b : Th) : List Ct := sortBy ctD (lockS a b ++ dataS a b)
theorem alike_ct (a b : Ct) : PySem.W.alike (ctD a) (ctD b) = true := by simp [ctD, PySem.W.alike, PySem.W.alikeAll]
theorem alike_se (a b : Sec) : PySem.W.alike (seD a) (seD b) = true := by simp [seD, PySem.W.alike, PySem.W.alikeAll]
theorem depth_ct (a : Ct) : (ctD a).depth ≤ 60 := by simp [ctD, PyData.depth, PyData.depthAll]
theorem depth_se (a : Sec) : (seD a).depth ≤ 60 := by simp [seD, PyData.depth, PyData.depthAll]
theorem secs_len (t : Th) : (secs t).length ≤ t.length := by
  unfold secs
  refine Nat.le_trans (List.length_filterMap_le _ _) ?_
  rw [List.length_range]
  exact Nat.le_refl _
theorem acc_len (t : Th) : (acc t).length ≤ t.length := by
  unfold acc
  refine Nat.le_trans (List.length_filter_le _ _) ?_
  rw [List.length_zipIdx]
  exact Nat.le_refl _
theorem pairs_len {α β γ : Type} (p : α → β → Bool) (f : α → β → γ) (m : List β) : ∀ l : List α, (pairsOf p f l m).length ≤ l.length * m.length
  | [] => by simp [pairsOf]
  | a :: l => by
    have ih := pairs_len p f m l
    unfold pairsOf at ih ⊢
    rw [List.flatMap_cons, List.length_append, List.length_map, List.length_cons, Nat.succ_mul]
    have := List.length_filter_le (p a) m
    omega
theorem pairs_snoc {α β γ : Type} (p : α → β → Bool) (f : α → β → γ) (l : List α) (m : List β) {i : Nat} {a : α} (h : l[i]? = some a) : pairsOf p f (l.take (i + 1)) m = pairsOf p f (l.take i) m ++ (m.filter (p a)).map (f a) := by
  unfold pairsOf
  rw [List.take_add_one, h, List.flatMap_append]
  simp
theorem inner_snoc {β γ : Type} (p : β → Bool) (f : β → γ) (m : List β) {j : Nat} {b : β} (h : m[j]? = some b) : ((m.take (j + 1)).filter p).map f = ((m.take j).filter p).map f ++ (if p b then [f b] else []) := by
  rw [List.take_add_one, h, List.filter_append, List.map_append]
  congr 1
  by_cases c : p b = true
  · simp [c]
  · simp [c]
theorem lockS_len {a b : Th} (ha : a.length ≤ 12) (hb : b.length ≤ 12) : (lockS a b).length ≤ 144 := by
  refine Nat.le_trans (pairs_len _ _ _ _) ?_
  rw [sortBy_len, sortBy_len]
  exact Nat.le_trans (Nat.mul_le_mul (Nat.le_trans (secs_len a) ha) (Nat.le_trans (secs_len b) hb)) (by decide)
theorem dataS_len {a b : Th} (ha : a.length ≤ 12) (hb : b.length ≤ 12) : (dataS a b).length ≤ 144 := by
  refine Nat.le_trans (pairs_len _ _ _ _) ?_
  exact Nat.le_trans (Nat.mul_le_mul (Nat.le_trans (acc_len a) ha) (Nat.le_trans (acc_len b) hb)) (by decide)
theorem cons_len {a b : Th} (ha : a.length ≤ 12) (hb : b.length ≤ 12) : (cons a b).length ≤ 288 := by
  unfold cons
  rw [sortBy_len, List.length_append]
  have := lockS_len ha hb
  have := dataS_len ha hb
  omega

/-! sorted lists of one another's permutations are one list -/
theorem le_anti {a b : D} (h1 : PySem.W.dataLe false id a b = true) (h2 : PySem.W.dataLe false id b a = true) : PySem.W.keyToks a = PySem.W.keyToks b := by
  have h1' : (!PySem.W.dataLt b a) = true := h1
  have h2' : (!PySem.W.dataLt a b) = true := h2
  rw [Bool.not_eq_true'] at h1' h2'
  exact PyProof.Rows.lex_total (O := PyProof.Rows.itemOrd) _ _ h2' h1'
theorem pw_eq {α : Type} {r : α → α → Prop} (anti : ∀ a b, r a b → r b a → a = b) : ∀ {l m : List α}, l.Perm m → l.Pairwise r → m.Pairwise r → l = m
  | [], m, p, _, _ => (List.nil_perm.mp p).symm
  | a :: l, [], p, _, _ => absurd p.length_eq (by simp)
  | a :: l, b :: m, p, h1, h2 => by
    obtain ⟨a1, a2⟩ := List.pairwise_cons.mp h1
    obtain ⟨b1, b2⟩ := List.pairwise_cons.mp h2
    have e : a = b := by
      by_cases hab : a = b
      · exact hab
      · have i1 : a ∈ m := (List.mem_cons.mp (p.subset List.mem_cons_self)).resolve_left hab
        have i2 : b ∈ l := (List.mem_cons.mp (p.symm.subset List.mem_cons_self)).resolve_left fun z => hab z.symm
        exact anti a b (a1 b i2) (b1 a i1)
    subst e
    rw [pw_eq anti (List.Perm.cons_inv p) a2 b2]
theorem sortBy_pw {α : Type} (f : α → D) (l : List α) : (sortBy f l).Pairwise fun a b => PySem.W.dataLe false id (f a) (f b) = true :=
  PySem.W.sort_pairwise (PySem.W.sortLe_total (PyProof.Rows.listOrd PyProof.Rows.itemOrd) false fun b => PySem.W.keyToks (f b)) l
theorem sortBy_eq {α : Type} {f : α → D} (inj : ∀ a b, PySem.W.keyToks (f a) = PySem.W.keyToks (f b) → a = b) {l m : List α} (p : l.Perm m) : sortBy f l = sortBy f m :=
  pw_eq (fun a b h1 h2 => inj a b (le_anti h1 h2)) (((sortBy_perm f l).trans p).trans (sortBy_perm f m).symm) (sortBy_pw f l) (sortBy_pw f m)
theorem cps_inj {a b : Str} (h : a.cps.toList = b.cps.toList) : a = b := PySem.W.str_of_cps h
theorem ct_inj (a b : Ct) (h : PySem.W.keyToks (ctD a) = PySem.W.keyToks (ctD b)) : a = b := by
  obtain ⟨a1, a2, a3, a4, a5, a6⟩ := a
  obtain ⟨b1, b2, b3, b4, b5, b6⟩ := b
  simp [ctD, PySem.W.keyToks, PySem.W.keyToksAll] at h
  obtain ⟨h1, h2, h3, h4, h5, h6⟩ := h
  have e1 : a1 = b1 := by omega
  have e2 : a2 = b2 := by omega
  have e3 : a3 = b3 := by omega
  have e4 : a4 = b4 := by omega
  subst e1 e2 e3 e4
  rw [cps_inj (congrArg Array.toList h5), cps_inj (congrArg Array.toList h6)]
theorem int_inj (a b : Nat) (h : PySem.W.keyToks (.int (a : Nat)) = PySem.W.keyToks (.int (b : Nat))) : a = b := by
  simp [PySem.W.keyToks] at h
  omega
theorem str_inj (a b : Str) (h : PySem.W.keyToks (.str a) = PySem.W.keyToks (.str b)) : a = b := by
  simp [PySem.W.keyToks] at h
  exact cps_inj (congrArg Array.toList h)
abbrev inD (ns : List Nat) : List D := ns.map fun n => .int (n : Nat)
theorem sort_rise {l m : List Nat} (p : l.Perm m) (h : m.Pairwise (· ≤ ·)) : sortD (inD l) = inD m := by
  rw [inD, sortD_map, sortBy_eq int_inj p]
  rw [pw_eq (r := fun a b : Nat => a ≤ b) (fun a b => Nat.le_antisymm) (sortBy_perm _ _) ?_ h]
  refine (sortBy_pw (fun n : Nat => .int (n : Nat)) m).imp fun {a b} h => ?_
  have h' : (!PySem.W.dataLt (.int (b : Nat)) (.int (a : Nat))) = true := h
  rw [PySem.W.dataLt_int, PySem.W.not_lt_int] at h'
  have := of_decide_eq_true h'
  omega
/-! what is led to -/
inductive Rch (E : Nat → Nat → Prop) (s : Nat) : Nat → Prop
  | refl : Rch E s s
  | step {i j : Nat} : Rch E s i → E i j → Rch E s j
def EG (cs : List Ct) (i j : Nat) : Prop := ∃ a b, cs[i]? = some a ∧ cs[j]? = some b ∧ forcesB a b = true
noncomputable def led (cs : List Ct) (k : Nat) : List Nat := (List.range cs.length).filter fun j => @decide (Rch (EG cs) k j) (Classical.propDecidable _)
theorem led_mem {cs : List Ct} {k j : Nat} : j ∈ led cs k ↔ j < cs.length ∧ Rch (EG cs) k j := by
  unfold led
  rw [List.mem_filter, List.mem_range, @decide_eq_true_iff _ (Classical.propDecidable _)]
theorem led_sorted (cs : List Ct) (k : Nat) : (led cs k).Pairwise (· ≤ ·) := (List.pairwise_lt_range.imp fun h => Nat.le_of_lt h).filter _
theorem led_nodup (cs : List Ct) (k : Nat) : (led cs k).Nodup := List.nodup_range.filter _
theorem rch_lt {cs : List Ct} {k j : Nat} (hk : k < cs.length) (h : Rch (EG cs) k j) : j < cs.length := by
  cases h with
  | refl => exact hk
  | step _ e => obtain ⟨_, b, _, hb, _⟩ := e; exact (List.getElem?_eq_some_iff.mp hb).1
theorem nodup_map_on {α β : Type} {f : α → β} : ∀ {l : List α}, (∀ x ∈ l, ∀ y ∈ l, f x = f y → x = y) → l.Nodup → (l.map f).Nodup
  | [], _, _ => List.nodup_nil
  | a :: l, h, n => by
    obtain ⟨n1, n2⟩ := List.nodup_cons.mp n
    rw [List.map_cons]
    refine List.nodup_cons.mpr ⟨fun m => ?_, nodup_map_on (fun x hx y hy => h x (List.mem_cons_of_mem _ hx) y (List.mem_cons_of_mem _ hy)) n2⟩
    obtain ⟨b, hb, e⟩ := List.mem_map.mp m
    have := h b (List.mem_cons_of_mem _ hb) a List.mem_cons_self e
    subst this
    exact n1 hb
/-- the keys of a dict that are just what is led to -/
def LedK (cs : List Ct) (k : Nat) (kds : List (Key × D)) : Prop := (kds.map (·.1)).Nodup ∧ ∀ x, x ∈ kds.map (·.1) ↔ ∃ j : Nat, x = .inl (j : Nat) ∧ j ∈ led cs k
theorem ledK_sort {cs : List Ct} {k : Nat} {kds : List (Key × D)} (h : LedK cs k kds) : ∃ ns : List Nat, ns.Perm (led cs k) ∧ kds.map (·.1) = ns.map (fun j : Nat => (Sum.inl (j : Int) : Key)) := by
  obtain ⟨h1, h2⟩ := h
  refine ⟨(kds.map (·.1)).map fun x => (match x with | .inl i => i.toNat | .inr _ => 0), ?_, ?_⟩
  · refine (List.perm_ext_iff_of_nodup ?_ (led_nodup cs k)).mpr fun j => ?_
    · refine nodup_map_on (fun x hx y hy e => ?_) h1
      obtain ⟨i, rfl, _⟩ := (h2 x).mp hx
      obtain ⟨j, rfl, _⟩ := (h2 y).mp hy
      simp at e
      rw [e]
    · rw [List.mem_map]
      constructor
      · rintro ⟨x, hx, rfl⟩
        obtain ⟨i, rfl, hi⟩ := (h2 x).mp hx
        simpa using hi
      · intro hj
        exact ⟨.inl (j : Nat), (h2 _).mpr ⟨j, rfl, hj⟩, by simp⟩
  · rw [List.map_map]
    conv => lhs; rw [← List.map_id (kds.map (·.1))]
    refine List.map_congr_left fun x hx => ?_
    obtain ⟨i, rfl, _⟩ := (h2 x).mp hx
    simp

theorem inD_eq (ns : List Nat) : inD ns = (ns.map fun n : Nat => (n : Int)).map .int := by rw [List.map_map]; rfl
theorem shaped_inD (ns : List Nat) : SeqAt.shaped (.list (inD ns)) = true ∧ SeqAt.shaped (.tuple (inD ns)) = true := by rw [inD_eq]; exact shaped_ints _
theorem ne_nilD (ds : List D) : (!PyData.eqv (.list ds) (.list [])) = !ds.isEmpty := by rw [eqv_nil]
/-! what one contest forces -/
def fl (cs : List Ct) (c : Ct) : List Nat := (cs.zipIdx.filter fun p => forcesB c p.1).map fun p => p.2
theorem fl_mem {cs : List Ct} {c : Ct} {j : Nat} : j ∈ fl cs c ↔ ∃ b, cs[j]? = some b ∧ forcesB c b = true := by
  unfold fl
  rw [List.mem_map]
  constructor
  · rintro ⟨⟨b, i⟩, h, rfl⟩
    obtain ⟨h1, h2⟩ := List.mem_filter.mp h
    have := List.mem_zipIdx_iff_getElem?.mp h1
    exact ⟨b, this, h2⟩
  · rintro ⟨b, h1, h2⟩
    exact ⟨(b, j), List.mem_filter.mpr ⟨List.mem_zipIdx_iff_getElem?.mpr h1, h2⟩, rfl⟩
theorem eg_fl {cs : List Ct} {i j : Nat} {c : Ct} (h : cs[i]? = some c) : EG cs i j ↔ j ∈ fl cs c := by
  rw [fl_mem]
  constructor
  · rintro ⟨a, b, ha, hb, e⟩
    rw [h] at ha
    cases ha
    exact ⟨b, hb, e⟩
  · rintro ⟨b, hb, e⟩
    exact ⟨c, b, h, hb, e⟩
theorem fl_len (cs : List Ct) (c : Ct) : (fl cs c).length ≤ cs.length := by
  unfold fl
  rw [List.length_map]
  refine Nat.le_trans (List.length_filter_le _ _) ?_
  rw [List.length_zipIdx]
  exact Nat.le_refl _
theorem putD_keys {κ : Type} [DecidableEq κ] (kds : List (κ × D)) (k : κ) (d : D) : ∀ x, x ∈ (putD kds k d).map (·.1) ↔ x = k ∨ x ∈ kds.map (·.1) := fun x => by
  have h : ∀ (l : List (κ × D)) y, y ∈ l.map (·.1) ↔ valD l y ≠ none := fun l y => by
    rw [Ne, valD_none_iff, Classical.not_not]
  rw [h, h, valD_putD]
  by_cases e : x = k
  · simp [e]
  · simp [e]
theorem putD_nodup {κ : Type} [DecidableEq κ] {kds : List (κ × D)} {k : κ} (d : D) (h : (kds.map (·.1)).Nodup) (hk : valD kds k = none) : ((putD kds k d).map (·.1)).Nodup := by
  rw [putD_new d hk, List.map_append]
  refine List.nodup_append.mpr ⟨h, by simp, fun a ha b hb => ?_⟩
  simp at hb
  subst hb
  exact fun e => valD_none_iff.mp hk (e ▸ ha)
theorem key_in {κ : Type} [DecidableEq κ] {kds : List (κ × D)} {k : κ} : k ∈ kds.map (·.1) ↔ (valD kds k).isSome = true := by
  rw [Option.isSome_iff_ne_none, Ne, valD_none_iff, Classical.not_not]
def IsI (d : D) : Prop := ∃ z : Int, d = .int z
/-- what the search has found (kds), what still waits (ws) -/
structure Bfs (cs : List Ct) (k : Nat) (kds : List (Key × D)) (ws : List Nat) (done : Nat → Nat → Prop) (P : D → Prop) : Prop where
  nd : (kds.map (·.1)).Nodup
  rc : ∀ x, x ∈ kds.map (·.1) → ∃ j : Nat, x = .inl (j : Nat) ∧ Rch (EG cs) k j
  st : (Sum.inl (k : Int) : Key) ∈ kds.map (·.1)
  wt : ∀ w ∈ ws, (Sum.inl (w : Int) : Key) ∈ kds.map (·.1)
  cl : ∀ i : Nat, (Sum.inl (i : Int) : Key) ∈ kds.map (·.1) → i ∉ ws → ∀ j, EG cs i j → done i j → (Sum.inl (j : Int) : Key) ∈ kds.map (·.1)
  vl : ∀ x d, valD kds x = some d → P d
theorem Bfs.len {cs : List Ct} {k : Nat} {kds : List (Key × D)} {ws : List Nat} {dn : Nat → Nat → Prop} {P : D → Prop} (hk : k < cs.length) (h : Bfs cs k kds ws dn P) : kds.length ≤ cs.length := by
  have h1 : ((kds.map (·.1)).map fun x : Key => (match x with | .inl i => i.toNat | .inr _ => 0)).Nodup := by
    refine nodup_map_on (fun x hx y hy e => ?_) h.nd
    obtain ⟨i, rfl, _⟩ := h.rc x hx
    obtain ⟨j, rfl, _⟩ := h.rc y hy
    simp at e
    rw [e]
  have h2 := L2.nat_nodup_len _ (List.range cs.length) h1 fun x hx => by
    obtain ⟨y, hy, rfl⟩ := List.mem_map.mp hx
    obtain ⟨j, rfl, r⟩ := h.rc y hy
    simpa using rch_lt hk r
  simpa using h2
theorem Bfs.fin {cs : List Ct} {k : Nat} {kds : List (Key × D)} {dn : Nat → Nat → Prop} {P : D → Prop} (hk : k < cs.length) (hd : ∀ i j, dn i j) (h : Bfs cs k kds [] dn P) : LedK cs k kds := by
  refine ⟨h.nd, fun x => ⟨fun hx => ?_, ?_⟩⟩
  · obtain ⟨j, rfl, r⟩ := h.rc x hx
    exact ⟨j, rfl, led_mem.mpr ⟨rch_lt hk r, r⟩⟩
  · rintro ⟨j, rfl, hj⟩
    have r := (led_mem.mp hj).2
    clear hj
    induction r with
    | refl => exact h.st
    | step _ e ih => exact h.cl _ ih (by simp) _ e (hd _ _)
theorem Bfs.put {cs : List Ct} {k i j : Nat} {kds : List (Key × D)} {ws : List Nat} {dn : Nat → Nat → Prop} {P : D → Prop} {z : D} (hz : P z) (h : Bfs cs k kds ws dn P) (hi : Rch (EG cs) k i) (e : EG cs i j) (hj : valD kds (.inl (j : Nat)) = none) (ws' : List Nat) (hw : ∀ w, w ∈ ws' ↔ w = j ∨ w ∈ ws) : Bfs cs k (putD kds (.inl (j : Nat)) z) ws' dn P := by
  have K := putD_keys kds (.inl (j : Nat)) z
  refine ⟨putD_nodup _ h.nd hj, fun x hx => ?_, (K _).mpr (.inr h.st), fun w hw' => ?_, fun a ha hn b eb db => ?_, fun x d hx => ?_⟩
  · rcases (K x).mp hx with rfl | hx
    · exact ⟨j, rfl, hi.step e⟩
    · exact h.rc x hx
  · rcases (hw w).mp hw' with rfl | hw'
    · exact (K _).mpr (.inl rfl)
    · exact (K _).mpr (.inr (h.wt w hw'))
  · have hn' := fun z => hn ((hw a).mpr z)
    rcases (K _).mp ha with e | ha
    · have : a = j := by have := Sum.inl.inj e; omega
      exact absurd (.inl this) hn'
    · exact (K _).mpr (.inr (h.cl a ha (fun z => hn' (.inr z)) b eb db))
  · rw [valD_putD] at hx
    split at hx
    · cases hx; exact hz
    · exact h.vl x d hx
theorem Bfs.start (cs : List Ct) (k : Nat) {P : D → Prop} {z : D} (hz : P z) : Bfs cs k [(.inl (k : Nat), z)] [k] (fun _ _ => True) P := by
  refine ⟨by simp, fun x hx => ?_, by simp, fun w hw => ?_, fun i hi hn => ?_, fun x d hx => ?_⟩
  · simp at hx
    exact ⟨k, hx, .refl⟩
  · simp at hw
    simp [hw]
  · simp at hi hn
    exact absurd (by omega) hn
  · simp [valD, List.find?_cons] at hx
    split at hx
    · simp at hx; exact hx ▸ hz
    · simp at hx

/-! what is held -/
def hsAt (t : Th) (i : Nat) : FS := (held t i, i)
def hs (t : Th) (i : Nat) : List FS := (List.range (i + 1)).map (hsAt t)
theorem held_step {t : Th} {i : Nat} {w m : Str} (h : t[i]? = some (w, m)) (n : Str) : held t (i + 1) n = if m = n then (if isL w then some w else if isF w then none else held t i n) else held t i n := by
  show (match t[i]? with | some (w, m) => if m = n then (if isL w then some w else if isF w then none else held t i n) else held t i n | none => held t i n) = _
  rw [h]
def hst1 (f : FS) (w m : Str) : FS := if isL w then fset f m w else f
def hst2 (f : FS) (w m : Str) : FS := if isF w then fdel f m else f
theorem lf_not {w : Str} (h : isF w = true) : isL w = false := by
  have e := of_decide_eq_true h
  rw [e]
  decide +kernel
theorem hst_ok {t : Th} {i : Nat} {w m : Str} (h : t[i]? = some (w, m)) (f : FS) (hf : ∀ n, f.1 n = held t i n) : ∀ n, held t (i + 1) n = (hst2 (hst1 f w m) w m).1 n := fun n => by
  rw [held_step h]
  by_cases l : isL w = true
  · have nf : ¬ isF w = true := fun z => by rw [lf_not z] at l; cases l
    have e1 : hst1 f w m = fset f m w := if_pos l
    have e2 : hst2 (fset f m w) w m = fset f m w := if_neg nf
    rw [e1, e2]
    by_cases e : m = n
    · subst e; simp [fset, l]
    · have e' : ¬ n = m := fun z => e z.symm
      simp [fset, e, e', hf]
  · have e1 : hst1 f w m = f := if_neg l
    rw [e1]
    by_cases f' : isF w = true
    · have e2 : hst2 f w m = fdel f m := if_pos f'
      rw [e2]
      by_cases e : m = n
      · subst e; simp [fdel, l, f']
      · have e' : ¬ n = m := fun z => e z.symm
        simp [fdel, e, e', hf]
    · have e2 : hst2 f w m = f := if_neg f'
      rw [e2]
      by_cases e : m = n
      · subst e; simp [l, f', hf]
      · simp [e, hf]
theorem hst_len (f : FS) (w m : Str) : (hst2 (hst1 f w m) w m).2 ≤ f.2 + 1 := by
  unfold hst2 hst1
  split <;> split <;> simp [fset, fdel]

/-- a frozen dict of what k leads to -/
def LedF (cs : List Ct) (k : Nat) (F : Hp) (v : V) : Prop := ∃ q kvs, v = .ref q ∧ F q = some (.dK kvs) ∧ (kvs.map (·.1)).Nodup ∧ ∀ x, x ∈ kvs.map (·.1) ↔ ∃ j : Nat, x = .inl (j : Nat) ∧ j ∈ led cs k
theorem LedF.ex {cs : List Ct} {k : Nat} (F F' : Hp) (v : V) (e : Ex F F') (h : LedF cs k F v) : LedF cs k F' v := by
  obtain ⟨q, kvs, a, b, c⟩ := h
  exact ⟨q, kvs, a, e _ _ b, c⟩

/-- a frozen list of them -/
def LedL (cs : List Ct) (F : Hp) (v : V) : Prop := ∃ l us, v = .ref l ∧ F l = some (.lst us) ∧ Paired (fun v k => LedF cs k F v) us (List.range cs.length)
theorem LedL.ex {cs : List Ct} (F F' : Hp) (v : V) (e : Ex F F') (h : LedL cs F v) : LedL cs F' v := by
  obtain ⟨l, us, a, b, c⟩ := h
  exact ⟨l, us, a, e _ _ b, Paired.mapP c fun _ _ h => h.ex _ _ _ e⟩
end TT
/-! Pln -/
/-! The plane's object; both dicts together. -/
namespace TT
open PySem PySem.Spec PyProof.Rows L2
def OpenS (f g : Str → Option Str) : Prop := ∀ n w w', f n = some w → g n = some w' → w = "share" ∧ w' = "share"
noncomputable def openB (f g : Str → Option Str) : Bool := @decide (OpenS f g) (Classical.propDecidable _)
theorem openB_iff {f g : Str → Option Str} : openB f g = true ↔ OpenS f g := @decide_eq_true_iff _ (Classical.propDecidable _)
theorem lookup_valV : ∀ {kvs : List (Key × V)} {p : Key × V}, (kvs.map (·.1)).Nodup → p ∈ kvs → valV kvs p.1 = some p.2
  | q :: r, p, h, hp => by
    obtain ⟨h1, h2⟩ := List.nodup_cons.mp h
    rcases List.mem_cons.mp hp with rfl | hp
    · exact valV_pos rfl
    · rw [valV_neg fun e => h1 (by show q.1 ∈ _; rw [e]; exact List.mem_map.mpr ⟨p, hp, rfl⟩)]
      exact lookup_valV h2 hp
section
variable {K : PySem.W.Frag} {σ : L2.St} {es : List SV} {F B F' B' F0 B0 H : Hp} {ta tb te tx tc : TE} {d : D} {v : V} {i j n : Nat} {ms : List MO} {Dn : Ends} {p : Addr} {f g : FS}
theorem SO.len : ∀ {σ : L2.St} {es : List SV}, SO K F σ es → σ.length = es.length
  | _, _, .nil => rfl
  | _, _, .cons _ t => by rw [List.length_cons, List.length_cons, SO.len t]
theorem open_all {kvs kvs' : List (Key × V)} (hk : DK kvs f) (hk' : DK kvs' g) :
    (((kvs.filter fun x => (valV kvs' x.1).isSome).map fun x => decide (valV kvs x.1 = some (V.str "share")) && decide (valV kvs' x.1 = some (V.str "share"))).all id) = openB f.1 g.1 := by
  rw [Bool.eq_iff_iff, openB_iff, List.all_eq_true]
  constructor
  · intro h m w w' h1 h2
    have e1 : valV kvs (.inr m) = some (.str w) := by rw [hk.2.2.2 m, h1]; rfl
    have e2 : valV kvs' (.inr m) = some (.str w') := by rw [hk'.2.2.2 m, h2]; rfl
    obtain ⟨x, hx, ex⟩ := List.mem_map.mp (valV_in e1)
    have := h _ (List.mem_map.mpr ⟨x, List.mem_filter.mpr ⟨hx, by rw [ex, e2]; rfl⟩, rfl⟩)
    rw [ex, e1, e2] at this
    simpa using this
  · intro h b hb
    obtain ⟨x, hx, rfl⟩ := List.mem_map.mp hb
    obtain ⟨h1, h2⟩ := List.mem_filter.mp hx
    obtain ⟨m, em⟩ := hk.2.2.1 x.1 (List.mem_map.mpr ⟨x, h1, rfl⟩)
    have e1 : valV kvs x.1 = some x.2 := lookup_valV hk.2.1 h1
    obtain ⟨y, e2⟩ := Option.isSome_iff_exists.mp h2
    rw [em] at e1 e2 ⊢
    rw [hk.2.2.2 m] at e1 ⊢
    rw [hk'.2.2.2 m] at e2 ⊢
    cases c1 : f.1 m with
    | none => rw [c1] at e1; cases e1
    | some w =>
      cases c2 : g.1 m with
      | none => rw [c2] at e2; cases e2
      | some w' =>
        obtain ⟨rfl, rfl⟩ := h m w w' c1 c2
        simp
/-- all([one[x] == 'share' and other[x] == 'share' for x in one if x in other]) -/
theorem rd_open (so : SO K F σ es) (hz : f.2 ≤ 1000) (h5 : es.length = 5) (h2 : es[2]? = some (.rel fun F v => FD F v f)) (h3 : es[3]? = some (.rel fun F v => FD F v g)) :
    EvD K (tCB (rAll K) (tCons (tLockE (tLc (iKeys (tVar 2)) (gName 4) (tB (tDIn (tVar 4) (tVar 3))) (tAndV (tOp rEq (tDGet (tVar 2) (tVar 4)) (tC (.str "share"))) (tOp rEq (tDGet (tVar 3) (tVar 4)) (tC (.str "share")))) [4])) tNil)) σ F B (.bool (openB f.1 g.1)) := fun F1 H1 g1 Q q => by
  obtain ⟨v2, e2, ⟨q2, kvs, rfl, f2, k2⟩, _⟩ := so.rel h2
  obtain ⟨v3, e3, ⟨q3, kvs', rfl, f3, k3⟩, _⟩ := so.rel h3
  have e1 : Ex F H1 := g1.ff.trans g1.fh
  have hl : σ.length = 5 := by rw [so.len, h5]
  refine ⟨q2, .dK kvs, e1 _ _ f2, trivial, fun od => ?_⟩
  have hl2 : upd H1 q2 (.frz od (.dK kvs)) q2 = some (.frz od (.dK kvs)) := upd_same
  have hln : ∀ a, a ≠ q2 → upd H1 q2 (.frz od (.dK kvs)) a = H1 a := fun a h => upd_ne h
  generalize upd H1 q2 (.frz od (.dK kvs)) = Hl at hl2 hln ⊢
  refine ⟨.ref q2, e2, q2, od, rfl, .inl ⟨kvs, hl2, fun Dl hD => ?_⟩⟩
  have nD : Dl ≠ q2 := fun z => by rw [z, hl2] at hD; cases hD
  have hD1 : H1 Dl = none := by rw [hln _ nD] at hD; exact hD
  have nD3 : q3 ≠ Dl := ne_of_none (e1 _ _ f3) hD1
  let px : Key × V → Bool := fun x => (valV kvs' x.1).isSome
  let fx : Key × V → Bool := fun x => decide (valV kvs x.1 = some (V.str "share")) && decide (valV kvs' x.1 = some (V.str "share"))
  let bs : Nat → List Bool := fun i => ((kvs.take i).filter px).map fx
  have rd2 : ∀ l, Rd (upd Hl Dl (.lst l)) q2 (.dK kvs) := fun l => .inr ⟨od, by rw [upd_ne nD.symm, hl2]⟩
  have rd3 : ∀ l, Rd (upd Hl Dl (.lst l)) q3 (.dK kvs') := fun l => by
    by_cases z : q3 = q2
    · subst z
      have : kvs' = kvs := by rw [f2] at f3; cases f3; rfl
      rw [this]
      exact rd2 l
    · exact .inl (by rw [upd_ne nD3, hln _ z]; exact e1 _ _ f3)
  refine lc_it (n := kvs.length) walk_keys (fun i H => H = upd Hl Dl (.lst ((bs i).map V.bl))) rfl (fun i H _ e => by rw [e, upd_ne nD.symm, hl2]) ?_ ?_
  · rintro i x H H' hi rfl ⟨rfl, k, v, hk, rfl⟩
    refine ⟨?_, ?_⟩
    · exact (wipe_setx _ (by simp)).trans (wipe_wipe [4])
    have s4 : ((wipe σ [4]).set 4 (some (kV k)))[4]? = some (some (kV k)) := List.getElem?_set_self (by rw [wipe_length]; omega)
    have s2 : ((wipe σ [4]).set 4 (some (kV k)))[2]? = some (some (.ref q2)) := by rw [List.getElem?_set_ne (by decide), wipe_out (by decide)]; exact e2
    have s3 : ((wipe σ [4]).set 4 (some (kV k)))[3]? = some (some (.ref q3)) := by rw [List.getElem?_set_ne (by decide), wipe_out (by decide)]; exact e3
    have tk : kvs.take (i + 1) = kvs.take i ++ [(k, v)] := by rw [List.take_add_one, hk]; rfl
    refine ⟨_, s4, _, s3, q3, _, rfl, .inl ⟨kvs', k, rd3 _, rfl, rfl⟩, _, rfl, ?_⟩
    have hv : valV kvs k = some v := lookup_valV (p := (k, v)) k2.2.1 (List.mem_of_getElem? hk)
    cases c : (valV kvs' k).isSome with
    | false =>
      refine iteF ?_
      rw [show bs (i + 1) = bs i from by show ((kvs.take (i + 1)).filter px).map fx = _; rw [tk, List.filter_append, List.filter_cons_of_neg (by show ¬ (valV kvs' k).isSome = true; rw [c]; decide)]; simp [bs]]
    | true =>
      refine iteT ?_
      obtain ⟨v', hv'⟩ := Option.isSome_iff_exists.mp c
      have hbs : bs (i + 1) = bs i ++ [fx (k, v)] := by
        show ((kvs.take (i + 1)).filter px).map fx = _
        rw [tk, List.filter_append, List.filter_cons_of_pos (by exact c), List.map_append]
        simp [bs]
      have hlen : ((bs i).map V.bl).length < sizeLine := by
        rw [List.length_map]
        refine Nat.lt_of_le_of_lt ?_ (show 1000 < sizeLine by decide)
        refine Nat.le_trans ?_ (Nat.le_trans k2.1 hz)
        show (((kvs.take i).filter px).map fx).length ≤ _
        rw [List.length_map]
        refine Nat.le_trans (List.length_filter_le _ _) ?_
        rw [List.length_take]
        omega
      obtain ⟨m, em⟩ := k2.2.2.1 k (List.mem_map.mpr ⟨(k, v), List.mem_of_getElem? hk, rfl⟩)
      have str2 : ∃ w, v = .str w := by
        have := k2.2.2.2 m
        rw [← em, hv] at this
        cases c1 : f.1 m with
        | none => rw [c1] at this; cases this
        | some w => rw [c1] at this; exact ⟨w, by simpa using this⟩
      obtain ⟨w, rfl⟩ := str2
      have str3 : ∃ w, v' = .str w := by
        have := k3.2.2.2 m
        rw [← em, hv'] at this
        cases c1 : g.1 m with
        | none => rw [c1] at this; cases this
        | some w => rw [c1] at this; exact ⟨w, by simpa using this⟩
      obtain ⟨w', rfl⟩ := str3
      have eq2 : decide (valV kvs k = some (V.str "share")) = decide (V.str w = V.str "share") := by rw [hv]; simp
      have eq3 : decide (valV kvs' k = some (V.str "share")) = decide (V.str w' = V.str "share") := by rw [hv']; simp
      refine ⟨_, s2, _, s4, q2, .str w, rfl, .inl ⟨kvs, k, rd2 _, rfl, hv.symm⟩, rfl, _, rfl, ?_⟩
      cases c2 : decide (V.str w = V.str "share") with
      | false =>
        show ∃ acc, _ ∧ _ ∧ _
        refine ⟨_, upd_same, hlen, ?_⟩
        rw [hbs, show fx (k, .str w) = false from by show (decide (valV kvs k = some (V.str "share")) && _) = false; rw [eq2, c2]; rfl]
        funext a
        by_cases z : a = Dl
        · rw [z, upd_same, upd_same]; simp
        · rw [upd_ne z, upd_ne z, upd_ne z]
      | true =>
        refine ⟨_, s3, _, s4, q3, .str w', rfl, .inl ⟨kvs', k, rd3 _, rfl, hv'.symm⟩, rfl, _, upd_same, hlen, ?_⟩
        rw [hbs, show fx (k, .str w) = decide (V.str w' = V.str "share") from by show (decide (valV kvs k = some (V.str "share")) && decide (valV kvs' k = some (V.str "share"))) = _; rw [eq2, c2, eq3]; rfl]
        funext a
        by_cases z : a = Dl
        · rw [z, upd_same, upd_same]; simp
        · rw [upd_ne z, upd_ne z, upd_ne z]
  · rintro H rfl
    refine ⟨by rw [upd_ne nD.symm, hl2], Dl, bs kvs.length, rfl, SqL.of (by rw [upd_ne nD, upd_same]), ?_⟩
    have gf : Gr F1 H1 F1 (upd (upd Hl Dl (.lst ((bs kvs.length).map V.bl))) q2 (.dK kvs)) := by
      have hx : Ex H1 (upd (upd Hl Dl (.lst ((bs kvs.length).map V.bl))) q2 (.dK kvs)) := fun a o e => by
        by_cases z : a = q2
        · subst z
          rw [upd_same]
          rw [e1 _ _ f2] at e
          exact e
        · rw [upd_ne z, upd_ne (ne_of_none e hD1), hln _ z]
          exact e
      exact ⟨Ex.refl _, g1.fh.trans hx, hx, fun _ _ => rfl⟩
    refine q _ F1 _ gf ?_
    have := open_all k2 k3
    show Dp K F1 (.bl ((bs kvs.length).all id)) _
    rw [show (bs kvs.length).all id = openB f.1 g.1 from by show ((((kvs.take kvs.length).filter px).map fx).all id) = _; rw [List.take_length]; exact this]
    exact .bl _
end

/-! the plane -/
def PlaneF (F : Hp) (fs : List (Str × V)) (a b : Th) : Prop := ∃ hb l0 l1, fs.lookup ("held_by" : Str) = some (V.ref hb) ∧ fs.lookup ("is_open_at" : Str) = none ∧ F hb = some (.lst [.ref l0, .ref l1]) ∧ FL F (.ref l0) (hs a a.length) ∧ FL F (.ref l1) (hs b b.length)
def PlaneR (C : Addr) (a b : Th) (F : Hp) (v : V) : Prop := ∃ p dx fs, v = .ref p ∧ F p = some (.ins C dx fs) ∧ PlaneF F fs a b
theorem PlaneF.ex {F F' : Hp} {fs : List (Str × V)} {a b : Th} (e : Ex F F') (h : PlaneF F fs a b) : PlaneF F' fs a b := by
  obtain ⟨hb, l0, l1, h1, h2, h3, h4, h5⟩ := h
  exact ⟨hb, l0, l1, h1, h2, e _ _ h3, h4.ex e, h5.ex e⟩
theorem PlaneR.ex {C : Addr} {a b : Th} (F F' : Hp) (v : V) (e : Ex F F') (h : PlaneR C a b F v) : PlaneR C a b F' v := by
  obtain ⟨p, dx, fs, h1, h2, h3⟩ := h
  exact ⟨p, dx, fs, h1, e _ _ h2, h3.ex e⟩
section
variable {K : PySem.W.Frag} {σ : L2.St} {es : List SV} {F B F' B' F0 B0 H : Hp} {ta tb te tx tc : TE} {d : D} {v : V} {i j n : Nat} {ms : List MO} {Dn : Ends} {p C dx : Addr} {fs : List (Str × V)} {fn : Str} {R : Hp → V → Prop} {a b : Th}
theorem st_fld (S : Sta K F0 B0 es ms F H σ) (hv : EvR te σ F H R) (hi : es[i]? = some (.val (.ref p))) (hj : ms[j]? = some (.ins p C dx fs)) (cl : Cls K C) (na : NoAttr K C fn) (hz : fs.length < 1000)
    (k : ∀ v F' H', Gr F H F' H' → R F' v → Sta K F0 B0 es (ms.set j (.ins p C dx (putF fn v fs))) F' (upd H' p (.ins C dx (putF fn v fs))) σ → Dn.nx σ (upd H' p (.ins C dx (putF fn v fs)))) : sFld K (tVar i) te fn Dn σ H :=
  hv F H (Gr.refl S.ex) _ fun v F' H' g kv => by
    have S' := S.grow g
    obtain ⟨hf, _, h1, _⟩ := S'.m hj
    exact ⟨.ref p, S.so.val hi, p, C, dx, fs, rfl, h1, cl, na, hz, k v F' H' g kv (S'.turn (m := .ins p C dx fs) (m' := .ins p C dx (putF fn v fs)) hj rfl ⟨hf, (), upd_same, trivial⟩)⟩
theorem er_fldM (S : Sta K F0 B0 es ms F H σ) (hi : es[i]? = some (.val (.ref p))) (hj : ms[j]? = some (.ins p C dx fs)) (cl : Cls K C) (na : NoAttr K C fn) (hl : fs.lookup fn = some v) : EvR (tFld K (tVar i) fn) σ F H (fun _ u => u = v) := fun F1 H1 g Q q => by
  obtain ⟨hf, _, h1, _⟩ := (S.m hj).gr g
  exact ⟨.ref p, S.so.val hi, p, C, dx, fs, v, rfl, h1, cl, na, hl, q v F1 H1 (Gr.refl g.fh) rfl⟩
theorem EvD.toR (h : EvD K te σ F B d) : EvR te σ F B (fun F v => Dp K F v d) := h
/-- a new list of two, frozen -/
theorem er_two {α : Type} {R : α → Hp → V → Prop} {x y : α} (hR : ∀ a F F' v, Ex F F' → R a F v → R a F' v) (h : EvRN te σ F B R [x, y]) : EvR te σ F B (fun F v => ∃ q u w, v = .ref q ∧ F q = some (.lst [u, w]) ∧ R x F u ∧ R y F w) := fun F1 H1 g Q q => h F1 H1 g Q fun p vs F2 H2 g2 hp hf h2 pr => by
  cases pr with
  | cons h1 t =>
    cases t with
    | cons h3 t =>
      cases t
      exact q _ (upd F2 p _) H2 (g2.fix hp hf h2) ⟨p, _, _, rfl, upd_same, hR _ _ _ _ (Ex.new hf) h1, hR _ _ _ _ (Ex.new hf) h3⟩
/-- called with a new instance -/
def sp_init (K : PySem.W.Frag) (C : Addr) : Sp := fun vs H Q _ => ∃ F p dx v a b, vs = [.ref p, v] ∧ Ex F H ∧ F p = none ∧ H p = some (.ins C dx []) ∧ Dp K F v (prD a b) ∧ Vd a ∧ Vd b ∧
  ∀ F' H' fs, Gr F (del H p) F' H' → F' p = none → H' p = some (.ins C dx fs) → PlaneF F' fs a b → Q .non H'
theorem er_make {E : XK} (va : Vd a) (vb : Vd b) (h : EvD K te σ F B (prD a b)) : EvR (tMake C (sp_init K C) [] E (tCons te tNil)) σ F B (PlaneR C a b) := fun F1 H1 g Q q => h F1 H1 g _ fun v F2 H2 g2 kv x dx nx ndx ne => by
  have e2 : Ex H2 (upd (upd H2 dx (.own x)) x (.ins C dx [])) := fun a o e => by
    rw [upd_ne (ne_of_none e nx), upd_ne (ne_of_none e ndx)]; exact e
  refine ⟨F2, x, dx, v, a, b, rfl, g2.fh.trans e2, g2.fh.free nx, upd_same, kv, va, vb, fun F3 H3 fs g3 hf h3 pl => ⟨rfl, ?_⟩⟩
  have e3 : Ex H2 (del (upd (upd H2 dx (.own x)) x (.ins C dx [])) x) := fun a o e => by
    rw [del_ne (ne_of_none e nx)]; exact e2 a o e
  have g23 : Gr F2 H2 F2 (del (upd (upd H2 dx (.own x)) x (.ins C dx [])) x) := ⟨Ex.refl _, g2.fh.trans e3, e3, fun _ _ => rfl⟩
  exact q _ (upd F3 x (.ins C dx fs)) H3 ((g2.trans (g23.trans g3)).fix (g2.hh.free nx) hf h3) ⟨x, dx, fs, rfl, upd_same, pl.ex (Ex.new hf)⟩
def sp_is_open_at (K : PySem.W.Frag) (C : Addr) : Sp := fun vs H Q _ => ∃ F v w a b, ∃ i j : Nat, vs = [v, w] ∧ Ex F H ∧ PlaneR C a b F v ∧ Dp K F w (.tuple [.int (i : Nat), .int (j : Nat)]) ∧ Vd a ∧ Vd b ∧ i ≤ a.length ∧ j ≤ b.length ∧
  ∀ u F' H', Gr F H F' H' → Dp K F' u (.bool (openB (held a i) (held b j))) → Q u H'
theorem ev_isopen {E : XK} {s t : Nat} {x : TA} (va : Vd a) (vb : Vd b) (hi : s ≤ a.length) (hj : t ≤ b.length) (ho : EvR ta σ F B (PlaneR C a b)) (h : EvA K x σ F B [.tuple [.int (s : Nat), .int (t : Nat)]]) : EvD K (tMeth C "is_open_at" (sp_is_open_at K C) [] E ta x) σ F B (.bool (openB (held a s) (held b t))) := fun F1 H1 g Q q =>
  ho F1 H1 g _ fun v F2 H2 g2 pl => by
    obtain ⟨p, dx, fs, rfl, h1, h2⟩ := id pl
    obtain ⟨hb, l0, l1, b1, b2, b3⟩ := id h2
    refine ⟨p, dx, fs, rfl, g2.fh _ _ h1, b2, h F2 H2 (g.trans g2) _ fun vs F3 H3 g3 hv => ?_⟩
    obtain ⟨w, us, rfl, k1, k2⟩ := dpa_cons hv
    rw [dpa_nil k2]
    exact ⟨F3, .ref p, w, a, b, s, t, rfl, g3.fh, pl.ex _ _ _ g3.ff, k1, va, vb, hi, hj, fun u F4 H4 g4 k4 => q u F4 H4 ((g2.trans g3).trans g4) k4⟩
/-- self.held_by[c][i] -/
theorem er_held {cl : Cls K C} {na : NoAttr K C "held_by"} {t : Th} {k : Nat} {c : Int} (so : SO K F σ es) (h0 : es[0]? = some (.rel (PlaneR C a b))) (hc : (c = 0 ∧ t = a) ∨ (c = 1 ∧ t = b)) (hk : k ≤ t.length) (h : EvD K te σ F B (.int (k : Nat))) :
    EvR (tOp (rIxL K) (tOp (rIxL K) (tFld K (tVar 0) "held_by") (tC (.int c))) te) σ F B (fun F v => FD F v (hsAt t k)) := fun F1 H1 g Q q => by
  obtain ⟨v, e0, ⟨p, dx, fs, rfl, h1, hb, l0, l1, b1, b2, b3, b4, b5⟩, _⟩ := so.rel h0
  have e1 : Ex F H1 := g.ff.trans g.fh
  have go : ∀ l : Addr, atI [V.ref l0, V.ref l1] c = some (.ref l) → FL F (.ref l) (hs t t.length) → (tOp (rIxL K) (tOp (rIxL K) (tFld K (tVar 0) "held_by") (tC (.int c))) te) σ H1 Q := fun l hl fl => by
    obtain ⟨l', us, e, hus, pr⟩ := fl
    cases e
    refine ⟨.ref p, e0, p, C, dx, fs, _, rfl, e1 _ _ h1, cl, na, b1, hb, _, c, _, rfl, rfl, SqL.of (e1 _ _ b3), hl, h F1 H1 g _ fun w F2 H2 g2 kw => ?_⟩
    have e2 := (g.trans g2).ff
    obtain ⟨u, hu, fd⟩ := pr_get pr (i := k) (b := hsAt t k) (by unfold hs; rw [List.getElem?_map, List.getElem?_range (by omega)]; rfl)
    exact ⟨l, us, (k : Int), u, rfl, dp_int kw, SqL.of (g2.hh _ _ (e1 _ _ hus)), atI_nat hu, q u F2 H2 g2 (fd.ex e2)⟩
  rcases hc with ⟨rfl, rfl⟩ | ⟨rfl, rfl⟩
  · exact go l0 rfl b4
  · exact go l1 rfl b5
/-- a new dict of texts, frozen -/
theorem er_dsv {f : FS} {P : (Addr → MO) → Prop} (h : EvP K te σ F B P) (hP : ∀ mk, P mk → mk = fun p => .dsv p f) : EvR te σ F B (fun F v => FD F v f) := fun F1 H1 g Q q => h F1 H1 g Q fun mk p F2 H2 hm g2 hp m2 => by
  have e := hP mk hm
  subst e
  obtain ⟨hf, kvs, h1, h2⟩ := m2
  exact q _ (upd F2 p (.dK kvs)) H2 (g2.fix hp hf h1) ⟨p, kvs, rfl, upd_same, h2⟩
end
theorem cutA_take {α : Type} (xs : List α) (i : Nat) : cutA xs none (some (i : Int)) = xs.take i := by
  unfold cutA
  have e1 : HT.sIx xs.length 0 none = 0 := rfl
  have e2 : HT.sIx xs.length xs.length (some (i : Int)) = min i xs.length := by
    exact HT.sIx_nat _ _ _
  rw [e1, e2, List.drop_zero, Nat.sub_zero]
  by_cases h : i ≤ xs.length
  · rw [Nat.min_eq_left h]
  · rw [Nat.min_eq_right (by omega), List.take_length, List.take_of_length_le (by omega)]
/-- the plane's class and its defs -/
structure TxtP (K : PySem.W.Frag) (mg : Str → Option Value) (C : Addr) : Prop where
  cl : Cls K C
  mg_Plane : mg "Plane" = some (.ref C)
  nS : NoAttr K C "sizes"
  nE : NoAttr K C "end"
  nH : NoAttr K C "held_by"
  d_init : ∃ f fd, Mk K C f ∧ C8.Fun K "__init__" "Plane.__init__" st_init f fd ∧ fd.defaults = .none
  d_is_open_at : ∃ f fd, Meth K C "is_open_at" f ∧ C8.Fun K "is_open_at" "Plane.is_open_at" st_is_open_at f fd ∧ fd.defaults = .none
end TT
/-! Math1 -/
/-! Two threads as a lattice path: runs, contests, exchanges, winners. Core Lean alone. -/
namespace TM

/-- a contest: (abegin, aend, bbegin, bend) -/
abbrev C := Nat × Nat × Nat × Nat
/-- a contest of threads of n and m steps: sections (begin before end) or accesses (one step twice) -/
def Ok (n m : Nat) (c : C) : Prop := c.2.1 < n ∧ c.2.2.2 < m ∧ ((c.1 < c.2.1 ∧ c.2.2.1 < c.2.2.2) ∨ (c.1 = c.2.1 ∧ c.2.2.1 = c.2.2.2))
/-- the state (i, j) is open -/
def Opn (cs : List C) (i j : Nat) : Prop := ∀ c ∈ cs, ¬ (c.1 < i ∧ i ≤ c.2.1 ∧ c.2.2.1 < j ∧ j ≤ c.2.2.2)
/-- how many steps of a, of b, are among the letters (true: a) -/
def ca (r : List Bool) : Nat := r.count true
def cb (r : List Bool) : Nat := r.count false
@[simp] theorem ca_nil : ca [] = 0 := rfl
@[simp] theorem cb_nil : cb [] = 0 := rfl
@[simp] theorem ca_t (r : List Bool) : ca (true :: r) = ca r + 1 := by simp [ca]
@[simp] theorem ca_f (r : List Bool) : ca (false :: r) = ca r := by simp [ca]
@[simp] theorem cb_t (r : List Bool) : cb (true :: r) = cb r := by simp [cb]
@[simp] theorem cb_f (r : List Bool) : cb (false :: r) = cb r + 1 := by simp [cb]
@[simp] theorem ca_app (r s : List Bool) : ca (r ++ s) = ca r + ca s := by simp [ca]
@[simp] theorem cb_app (r s : List Bool) : cb (r ++ s) = cb r + cb s := by simp [cb]
theorem cab_len : ∀ r : List Bool, ca r + cb r = r.length
  | [] => rfl
  | true :: r => by have := cab_len r; simp; omega
  | false :: r => by have := cab_len r; simp; omega

/-- all states on the way from (i, j) are good -/
def Path (P : Nat → Nat → Prop) : List Bool → Nat → Nat → Prop
  | [], i, j => P i j
  | true :: r, i, j => P i j ∧ Path P r (i + 1) j
  | false :: r, i, j => P i j ∧ Path P r i (j + 1)
theorem Path.head {P : Nat → Nat → Prop} : ∀ {r : List Bool} {i j : Nat}, Path P r i j → P i j
  | [], _, _, h => h
  | true :: _, _, _, h => h.1
  | false :: _, _, _, h => h.1
theorem Path.app {P : Nat → Nat → Prop} : ∀ {x y : List Bool} {i j : Nat}, Path P (x ++ y) i j ↔ Path P x i j ∧ Path P y (i + ca x) (j + cb x)
  | [], y, i, j => by
    simp only [List.nil_append, ca_nil, cb_nil, Nat.add_zero, Path]
    exact ⟨fun h => ⟨h.head, h⟩, fun h => h.2⟩
  | true :: x, y, i, j => by
    have e : i + (ca x + 1) = i + 1 + ca x := by omega
    simp only [List.cons_append, Path, ca_t, cb_t]
    rw [Path.app, e, and_assoc]
  | false :: x, y, i, j => by
    have e : j + (cb x + 1) = j + 1 + cb x := by omega
    simp only [List.cons_append, Path, ca_f, cb_f]
    rw [Path.app, e, and_assoc]
theorem Path.mono {P Q : Nat → Nat → Prop} (h : ∀ i j, P i j → Q i j) : ∀ {r : List Bool} {i j : Nat}, Path P r i j → Path Q r i j
  | [], _, _, p => h _ _ p
  | true :: _, _, _, p => ⟨h _ _ p.1, Path.mono h p.2⟩
  | false :: _, _, _, p => ⟨h _ _ p.1, Path.mono h p.2⟩
theorem Path.at_ {P : Nat → Nat → Prop} {x y : List Bool} {i j : Nat} (h : Path P (x ++ y) i j) : P (i + ca x) (j + cb x) := (Path.app.mp h).2.head

/-- a run of threads of n and m steps -/
structure Run (cs : List C) (n m : Nat) (r : List Bool) : Prop where
  a : ca r = n
  b : cb r = m
  opn : Path (Opn cs) r 0 0

/-- a's i-th step comes before b's j-th one -/
def bef : List Bool → Nat → Nat → Bool
  | [], _, _ => false
  | true :: _, 0, _ => true
  | true :: r, i + 1, j => bef r i j
  | false :: _, _, 0 => false
  | false :: r, i, j + 1 => bef r i j
@[simp] theorem bef_t0 (r : List Bool) (j : Nat) : bef (true :: r) 0 j = true := by unfold bef; rfl
@[simp] theorem bef_ts (r : List Bool) (i j : Nat) : bef (true :: r) (i + 1) j = bef r i j := by conv => lhs; unfold bef
@[simp] theorem bef_f0 (r : List Bool) (i : Nat) : bef (false :: r) i 0 = false := by unfold bef; rfl
@[simp] theorem bef_fs (r : List Bool) (i j : Nat) : bef (false :: r) i (j + 1) = bef r i j := by conv => lhs; unfold bef
theorem bef_mono : ∀ {r : List Bool} {i i' j j' : Nat}, bef r i j = true → i' ≤ i → j ≤ j' → bef r i' j' = true
  | [], _, _, _, _, h, _, _ => by simp [bef] at h
  | true :: r, i, 0, _, _, _, _, _ => by simp
  | true :: r, 0, i' + 1, _, _, _, hi, _ => by omega
  | true :: r, i + 1, i' + 1, j, j', h, hi, hj => by
    rw [bef_ts] at h ⊢
    exact bef_mono h (by omega) hj
  | false :: r, i, i', 0, _, h, _, _ => by simp at h
  | false :: r, i, i', j + 1, 0, _, _, hj => by omega
  | false :: r, i, i', j + 1, j' + 1, h, hi, hj => by
    rw [bef_fs] at h ⊢
    exact bef_mono h hi (by omega)
/-- not before: there is a time just behind b's j-th step at which a's i-th one is not done -/
theorem late : ∀ {r : List Bool} {i j : Nat}, bef r i j = false → j < cb r → ∃ x y, r = x ++ y ∧ cb x = j + 1 ∧ ca x ≤ i
  | [], _, _, _, h => by simp at h
  | true :: r, 0, _, h, _ => by simp at h
  | true :: r, i + 1, j, h, hj => by
    rw [bef_ts] at h
    obtain ⟨x, y, e, h1, h2⟩ := late h (by simpa using hj)
    exact ⟨true :: x, y, by rw [e]; rfl, by simpa using h1, by simpa using h2⟩
  | false :: r, i, 0, _, _ => ⟨[false], r, rfl, by simp, by simp⟩
  | false :: r, i, j + 1, h, hj => by
    rw [bef_fs] at h
    obtain ⟨x, y, e, h1, h2⟩ := late h (by simpa using hj)
    exact ⟨false :: x, y, by rw [e]; rfl, by simpa using h1, by simpa using h2⟩
/-- before: there is a time just behind a's i-th step at which b's j-th one is not done -/
theorem early : ∀ {r : List Bool} {i j : Nat}, bef r i j = true → ∃ x y, r = x ++ y ∧ ca x = i + 1 ∧ cb x ≤ j
  | [], _, _, h => by simp [bef] at h
  | true :: r, 0, _, _ => ⟨[true], r, rfl, by simp, by simp⟩
  | true :: r, i + 1, j, h => by
    rw [bef_ts] at h
    obtain ⟨x, y, e, h1, h2⟩ := early h
    exact ⟨true :: x, y, by rw [e]; rfl, by simpa using h1, by simpa using h2⟩
  | false :: r, i, 0, h => by simp at h
  | false :: r, i, j + 1, h => by
    rw [bef_fs] at h
    obtain ⟨x, y, e, h1, h2⟩ := early h
    exact ⟨false :: x, y, by rw [e]; rfl, by simpa using h1, by simpa using h2⟩
/-- two sections overlap in time -/
theorem overlap : ∀ {r : List Bool} {ab ae bb be : Nat}, bef r ab be = true → bef r ae bb = false → ab < ae → bb < be → bb < cb r →
    ∃ x y, r = x ++ y ∧ ab < ca x ∧ ca x ≤ ae ∧ bb < cb x ∧ cb x ≤ be
  | [], _, _, _, _, h, _, _, _, _ => by simp [bef] at h
  | true :: r, 0, ae, bb, be, _, h2, ha, hb, hc => by
    obtain ⟨ae', rfl⟩ : ∃ k, ae = k + 1 := ⟨ae - 1, by omega⟩
    rw [bef_ts] at h2
    obtain ⟨x, y, e, h3, h4⟩ := late h2 (by simpa using hc)
    exact ⟨true :: x, y, by rw [e]; rfl, by simp, by simp; omega, by simp; omega, by simp; omega⟩
  | true :: r, ab + 1, ae, bb, be, h1, h2, ha, hb, hc => by
    obtain ⟨ae', rfl⟩ : ∃ k, ae = k + 1 := ⟨ae - 1, by omega⟩
    rw [bef_ts] at h1 h2
    obtain ⟨x, y, e, h3, h4, h5, h6⟩ := overlap h1 h2 (by omega) hb (by simpa using hc)
    exact ⟨true :: x, y, by rw [e]; rfl, by simp; omega, by simp; omega, by simpa using h5, by simpa using h6⟩
  | false :: r, ab, ae, bb, 0, _, _, _, hb, _ => by omega
  | false :: r, ab, ae, 0, be + 1, h1, _, ha, _, _ => by
    rw [bef_fs] at h1
    obtain ⟨x, y, e, h3, h4⟩ := early h1
    exact ⟨false :: x, y, by rw [e]; rfl, by simp; omega, by simp; omega, by simp, by simp; omega⟩
  | false :: r, ab, ae, bb + 1, be + 1, h1, h2, ha, hb, hc => by
    rw [bef_fs] at h1 h2
    obtain ⟨x, y, e, h3, h4, h5, h6⟩ := overlap h1 h2 ha (by omega) (by simpa using hc)
    exact ⟨false :: x, y, by rw [e]; rfl, by simpa using h3, by simpa using h4, by simp; omega, by simp; omega⟩

section
variable {cs : List C} {n m : Nat}
/-- in a run a contest is won as a whole -/
theorem Run.sep {r : List Bool} (R : Run cs n m r) {c : C} (hc : c ∈ cs) (ok : Ok n m c) : bef r c.1 c.2.2.2 = bef r c.2.1 c.2.2.1 := by
  obtain ⟨ha, hb, h⟩ := ok
  rcases h with ⟨h1, h2⟩ | ⟨h1, h2⟩
  · cases e : bef r c.2.1 c.2.2.1 with
    | true => exact bef_mono e (by omega) (by omega)
    | false =>
      cases e' : bef r c.1 c.2.2.2 with
      | false => rfl
      | true =>
        obtain ⟨x, y, rfl, q1, q2, q3, q4⟩ := overlap e' e h1 h2 (by rw [R.b]; omega)
        have o := R.opn.at_ c hc
        rw [Nat.zero_add, Nat.zero_add] at o
        exact absurd ⟨q1, q2, q3, q4⟩ o
  · rw [h1, h2]

/-- who wins a contest: true for a -/
def win (r : List Bool) (c : C) : Bool := bef r c.2.1 c.2.2.1
/-- two steps that concern each other -/
def Near (cs : List C) (i j : Nat) : Prop := ∃ c ∈ cs, (i = c.1 ∨ i = c.2.1) ∧ (j = c.2.2.1 ∨ j = c.2.2.2)
/-- all four of a contest's pairs of ends stand alike -/
theorem Run.four {r : List Bool} (R : Run cs n m r) {c : C} (hc : c ∈ cs) (ok : Ok n m c) {i j : Nat} (hi : i = c.1 ∨ i = c.2.1) (hj : j = c.2.2.1 ∨ j = c.2.2.2) : bef r i j = win r c := by
  have s := R.sep hc ok
  obtain ⟨_, _, h⟩ := ok
  have l1 : c.1 ≤ c.2.1 := by omega
  have l2 : c.2.2.1 ≤ c.2.2.2 := by omega
  unfold win
  cases e : bef r c.2.1 c.2.2.1 with
  | true => exact bef_mono e (by omega) (by omega)
  | false =>
    cases e' : bef r i j with
    | false => rfl
    | true =>
      have q : bef r c.1 c.2.2.2 = true := bef_mono e' (by omega) (by omega)
      rw [s, e] at q
      cases q

/-! ### exchanges -/
theorem bef_pre : ∀ (x : List Bool) {u v : List Bool} {i j : Nat}, (¬ (ca x ≤ i ∧ cb x ≤ j) → True) → (∀ i' j', i = ca x + i' → j = cb x + j' → bef u i' j' = bef v i' j') → bef (x ++ u) i j = bef (x ++ v) i j
  | [], u, v, i, j, _, h => h i j (by simp) (by simp)
  | true :: x, u, v, 0, j, _, _ => by simp
  | true :: x, u, v, i + 1, j, _, h => by
    rw [List.cons_append, List.cons_append, bef_ts, bef_ts]
    exact bef_pre x (fun _ => trivial) fun i' j' e1 e2 => h i' j' (by simp; omega) (by simpa using e2)
  | false :: x, u, v, i, 0, _, _ => by simp
  | false :: x, u, v, i, j + 1, _, h => by
    rw [List.cons_append, List.cons_append, bef_fs, bef_fs]
    exact bef_pre x (fun _ => trivial) fun i' j' e1 e2 => h i' j' (by simpa using e1) (by simp; omega)
theorem bef_at : ∀ (x u : List Bool) (i j : Nat), bef (x ++ u) (ca x + i) (cb x + j) = bef u i j
  | [], u, i, j => by simp
  | true :: x, u, i, j => by
    rw [List.cons_append, ca_t, cb_t, show ca x + 1 + i = ca x + i + 1 by omega, bef_ts]
    exact bef_at x u i j
  | false :: x, u, i, j => by
    rw [List.cons_append, ca_f, cb_f, show cb x + 1 + j = cb x + j + 1 by omega, bef_fs]
    exact bef_at x u i j
/-- an exchange turns one cell alone -/
theorem bef_swap (x y : List Bool) (i j : Nat) (h : ¬ (i = ca x ∧ j = cb x)) : bef (x ++ true :: false :: y) i j = bef (x ++ false :: true :: y) i j := by
  refine bef_pre x (fun _ => trivial) fun i' j' e1 e2 => ?_
  match i', j' with
  | 0, 0 => exact absurd ⟨by omega, by omega⟩ h
  | 0, j' + 1 => simp
  | i' + 1, 0 => simp
  | i' + 1, j' + 1 => simp
theorem bef_tf (x y : List Bool) : bef (x ++ true :: false :: y) (ca x) (cb x) = true := by
  have := bef_at x (true :: false :: y) 0 0
  simpa using this
theorem bef_ft (x y : List Bool) : bef (x ++ false :: true :: y) (ca x) (cb x) = false := by
  have := bef_at x (false :: true :: y) 0 0
  simpa using this

/-- one exchange -/
inductive Ex1 (cs : List C) : List Bool → List Bool → Prop
  | tf (x y : List Bool) : ¬ Near cs (ca x) (cb x) → Ex1 cs (x ++ true :: false :: y) (x ++ false :: true :: y)
  | ft (x y : List Bool) : ¬ Near cs (ca x) (cb x) → Ex1 cs (x ++ false :: true :: y) (x ++ true :: false :: y)
theorem Ex1.symm {r s : List Bool} (h : Ex1 cs r s) : Ex1 cs s r := by
  cases h with
  | tf x y h => exact .ft x y h
  | ft x y h => exact .tf x y h
theorem Ex1.win {r s : List Bool} (h : Ex1 cs r s) {c : C} (hc : c ∈ cs) : win r c = win s c := by
  cases h with
  | tf x y h => exact bef_swap x y _ _ fun e => h ⟨c, hc, .inr e.1.symm, .inl e.2.symm⟩
  | ft x y h => exact (bef_swap x y _ _ fun e => h ⟨c, hc, .inr e.1.symm, .inl e.2.symm⟩).symm
theorem Ex1.run {r s : List Bool} (h : Ex1 cs r s) (R : Run cs n m r) : Run cs n m s := by
  obtain ⟨h1, h2, h3⟩ := R
  cases h with
  | tf x y h =>
    refine ⟨by simp at h1 ⊢; omega, by simp at h2 ⊢; omega, ?_⟩
    obtain ⟨p, q⟩ := Path.app.mp h3
    obtain ⟨q1, q2, q3⟩ := q
    refine Path.app.mpr ⟨p, q1, fun c hc z => ?_, q3⟩
    have o1 := q1 c hc
    have o3 := q3.head c hc
    exact h ⟨c, hc, .inr (by omega), .inl (by omega)⟩
  | ft x y h =>
    refine ⟨by simp at h1 ⊢; omega, by simp at h2 ⊢; omega, ?_⟩
    obtain ⟨p, q⟩ := Path.app.mp h3
    obtain ⟨q1, q2, q3⟩ := q
    refine Path.app.mpr ⟨p, q1, fun c hc z => ?_, q3⟩
    have o1 := q1 c hc
    have o3 := q3.head c hc
    exact h ⟨c, hc, .inl (by omega), .inr (by omega)⟩

/-! ### the same winners: exchanges lead from one to the other -/
/-- the cells that differ -/
def dif (n m : Nat) (r s : List Bool) : Nat := ((List.range n).map fun i => ((List.range m).filter fun j => bef r i j != bef s i j).length).sum
/-- a place at which r stands against s -/
theorem against : ∀ {r s : List Bool}, ca r = ca s → cb r = cb s → r ≠ s →
    (∃ x y, r = x ++ true :: false :: y ∧ bef s (ca x) (cb x) = false) ∨ (∃ x y, r = x ++ false :: true :: y ∧ bef s (ca x) (cb x) = true)
  | [], [], _, _, h => absurd rfl h
  | [], true :: s, h, _, _ => by simp at h
  | [], false :: s, _, h, _ => by simp at h
  | true :: r, [], h, _, _ => by simp at h
  | false :: r, [], _, h, _ => by simp at h
  | true :: r, true :: s, h1, h2, h => by
    rcases against (r := r) (s := s) (by simpa using h1) (by simpa using h2) (fun e => h (by rw [e])) with ⟨x, y, e, q⟩ | ⟨x, y, e, q⟩
    · exact .inl ⟨true :: x, y, by rw [e]; rfl, by simpa using q⟩
    · exact .inr ⟨true :: x, y, by rw [e]; rfl, by simpa using q⟩
  | false :: r, false :: s, h1, h2, h => by
    rcases against (r := r) (s := s) (by simpa using h1) (by simpa using h2) (fun e => h (by rw [e])) with ⟨x, y, e, q⟩ | ⟨x, y, e, q⟩
    · exact .inl ⟨false :: x, y, by rw [e]; rfl, by simpa using q⟩
    · exact .inr ⟨false :: x, y, by rw [e]; rfl, by simpa using q⟩
  | true :: r, false :: s, h1, h2, h => by
    have key : ∀ t : List Bool, 1 ≤ cb t → ∃ k y, true :: t = List.replicate k true ++ true :: false :: y := by
      intro t
      induction t with
      | nil => intro h; simp at h
      | cons b t ih =>
        intro h
        cases b with
        | false => exact ⟨0, t, rfl⟩
        | true =>
          obtain ⟨k, y, e⟩ := ih (by simpa using h)
          exact ⟨k + 1, y, by rw [e]; rfl⟩
    obtain ⟨k, y, e⟩ := key r (by simp at h2; omega)
    have e0 : cb (List.replicate k true) = 0 := by simp [cb, List.count_replicate]
    exact .inl ⟨_, y, e, by rw [e0]; simp⟩
  | false :: r, true :: s, h1, h2, h => by
    have key : ∀ t : List Bool, 1 ≤ ca t → ∃ k y, false :: t = List.replicate k false ++ false :: true :: y := by
      intro t
      induction t with
      | nil => intro h; simp at h
      | cons b t ih =>
        intro h
        cases b with
        | true => exact ⟨0, t, rfl⟩
        | false =>
          obtain ⟨k, y, e⟩ := ih (by simpa using h)
          exact ⟨k + 1, y, by rw [e]; rfl⟩
    obtain ⟨k, y, e⟩ := key r (by simp at h1; omega)
    have e0 : ca (List.replicate k false) = 0 := by simp [ca, List.count_replicate]
    exact .inr ⟨_, y, e, by rw [e0]; simp⟩

theorem sum_le {l : List Nat} {f g : Nat → Nat} (h : ∀ i ∈ l, f i ≤ g i) : (l.map f).sum ≤ (l.map g).sum := by
  induction l with
  | nil => exact Nat.le_refl _
  | cons x l ih =>
    have h1 := h x List.mem_cons_self
    have h2 := ih fun i hi => h i (List.mem_cons_of_mem _ hi)
    simp only [List.map_cons, List.sum_cons]
    omega
theorem sum_lt {l : List Nat} {f g : Nat → Nat} (h : ∀ i ∈ l, f i ≤ g i) {k : Nat} (hk : k ∈ l) (hlt : f k < g k) : (l.map f).sum < (l.map g).sum := by
  induction l with
  | nil => cases hk
  | cons x l ih =>
    simp only [List.map_cons, List.sum_cons]
    have h1 := h x List.mem_cons_self
    have h2 := sum_le fun i hi => h i (List.mem_cons_of_mem x hi)
    rcases List.mem_cons.mp hk with rfl | hk
    · omega
    · have := ih (fun i hi => h i (List.mem_cons_of_mem _ hi)) hk
      omega
theorem filter_le {l : List Nat} {p q : Nat → Bool} (h : ∀ j ∈ l, p j = true → q j = true) : (l.filter p).length ≤ (l.filter q).length := by
  rw [← List.countP_eq_length_filter, ← List.countP_eq_length_filter]
  exact List.countP_mono_left h
theorem filter_lt {l : List Nat} {p q : Nat → Bool} (h : ∀ j ∈ l, p j = true → q j = true) {k : Nat} (hk : k ∈ l) (h1 : p k = false) (h2 : q k = true) : (l.filter p).length < (l.filter q).length := by
  induction l with
  | nil => cases hk
  | cons x l ih =>
    have hx := h x List.mem_cons_self
    have hl : ∀ j ∈ l, p j = true → q j = true := fun j hj => h j (List.mem_cons_of_mem _ hj)
    have le := filter_le hl
    simp only [List.filter_cons]
    rcases List.mem_cons.mp hk with rfl | hk
    · rw [h1, h2]
      simp
      omega
    · have lt := ih hl hk
      cases e1 : p x with
      | true =>
        rw [hx e1]
        simp
        omega
      | false =>
        cases e2 : q x with
        | true => simp; omega
        | false => simpa using lt
theorem dif_lt {n m : Nat} {r r' s : List Bool} {i j : Nat} (hi : i < n) (hj : j < m) (h0 : ∀ i' j', ¬ (i' = i ∧ j' = j) → bef r' i' j' = bef r i' j') (h1 : bef r i j ≠ bef s i j) (h2 : bef r' i j = bef s i j) :
    dif n m r' s < dif n m r s := by
  have sub : ∀ i' j', (bef r' i' j' != bef s i' j') = true → (bef r i' j' != bef s i' j') = true := fun i' j' h => by
    by_cases e : i' = i ∧ j' = j
    · obtain ⟨rfl, rfl⟩ := e
      rw [h2] at h
      simp at h
    · rw [← h0 i' j' e]
      exact h
  refine sum_lt (fun i' _ => filter_le fun j' _ => sub i' j') (List.mem_range.mpr hi) ?_
  exact filter_lt (fun j' _ => sub i j') (List.mem_range.mpr hj) (by rw [h2]; simp) (by simpa using h1)

/-- exchanges, one after another -/
inductive Exs (cs : List C) : List Bool → List Bool → Prop
  | refl (r : List Bool) : Exs cs r r
  | step {r s t : List Bool} : Ex1 cs r s → Exs cs s t → Exs cs r t
theorem Exs.trans {r s t : List Bool} (h : Exs cs r s) (k : Exs cs s t) : Exs cs r t := by
  induction h with
  | refl _ => exact k
  | step e _ ih => exact .step e (ih k)
theorem Exs.tail {r s t : List Bool} (h : Exs cs r s) (k : Ex1 cs s t) : Exs cs r t := h.trans (.step k (.refl _))
theorem Exs.run {r s : List Bool} (h : Exs cs r s) (R : Run cs n m r) : Run cs n m s := by
  induction h with
  | refl _ => exact R
  | step e _ ih => exact ih (e.run R)
theorem Exs.win {r s : List Bool} (h : Exs cs r s) {c : C} (hc : c ∈ cs) : win r c = win s c := by
  induction h with
  | refl _ => rfl
  | step e _ ih => rw [e.win hc, ih]

/-- (a): two runs with the same winners -/
theorem same_exs (ok : ∀ c ∈ cs, Ok n m c) : ∀ (k : Nat) {r s : List Bool}, dif n m r s < k → Run cs n m r → Run cs n m s → (∀ c ∈ cs, win r c = win s c) → Exs cs r s
  | 0, _, _, h, _, _, _ => by omega
  | k + 1, r, s, hk, R, S, hw => by
    by_cases e : r = s
    · subst e
      exact .refl _
    · have near : ∀ i j, Near cs i j → bef r i j = bef s i j := fun i j ⟨c, hc, h1, h2⟩ => by
        rw [R.four hc (ok c hc) h1 h2, S.four hc (ok c hc) h1 h2, hw c hc]
      rcases against (R.a.trans S.a.symm) (R.b.trans S.b.symm) e with ⟨x, y, rfl, q⟩ | ⟨x, y, rfl, q⟩
      · have p := bef_tf x y
        have nn : ¬ Near cs (ca x) (cb x) := fun z => by
          have := near _ _ z
          rw [p, q] at this
          cases this
        have e1 : Ex1 cs (x ++ true :: false :: y) (x ++ false :: true :: y) := .tf x y nn
        refine .step e1 (same_exs ok k (Nat.lt_of_lt_of_le (dif_lt (i := ca x) (j := cb x) ?_ ?_ (fun i' j' h => (bef_swap x y i' j' h).symm) ?_ ?_) (Nat.le_of_lt_succ hk)) (e1.run R) S fun c hc => (e1.win hc).symm.trans (hw c hc))
        · have := R.a
          simp at this
          omega
        · have := R.b
          simp at this
          omega
        · rw [p, q]
          decide
        · rw [bef_ft, q]
      · have p := bef_ft x y
        have nn : ¬ Near cs (ca x) (cb x) := fun z => by
          have := near _ _ z
          rw [p, q] at this
          cases this
        have e1 : Ex1 cs (x ++ false :: true :: y) (x ++ true :: false :: y) := .ft x y nn
        refine .step e1 (same_exs ok k (Nat.lt_of_lt_of_le (dif_lt (i := ca x) (j := cb x) ?_ ?_ (fun i' j' h => bef_swap x y i' j' h) ?_ ?_) (Nat.le_of_lt_succ hk)) (e1.run R) S fun c hc => (e1.win hc).symm.trans (hw c hc))
        · have := R.a
          simp at this
          omega
        · have := R.b
          simp at this
          omega
        · rw [p, q]
          decide
        · rw [bef_tf, q]
theorem alike_iff (ok : ∀ c ∈ cs, Ok n m c) {r s : List Bool} (R : Run cs n m r) (S : Run cs n m s) : Exs cs r s ↔ ∀ c ∈ cs, win r c = win s c :=
  ⟨fun h _ hc => h.win hc, same_exs ok _ (Nat.lt_succ_self _) R S⟩

/-! ### which winners occur -/
def forces (c d : C) : Bool := decide (d.1 ≤ c.2.1) && decide (c.2.2.1 ≤ d.2.2.2)
/-- in a run, what a contest won by a forces is won by a -/
theorem Run.forced {r : List Bool} (R : Run cs n m r) {c d : C} (hd : d ∈ cs) (ok : Ok n m d) (f : forces c d = true) (h : win r c = true) : win r d = true := by
  unfold forces at f
  rw [Bool.and_eq_true, decide_eq_true_eq, decide_eq_true_eq] at f
  have q : bef r d.1 d.2.2.2 = true := bef_mono h f.1 f.2
  rw [R.sep hd ok] at q
  exact q
/-- what the state (i, j) may not go against -/
def Good (cs : List C) (w : C → Bool) (i j : Nat) : Prop := ∀ c ∈ cs, (w c = true → c.2.2.1 < j → c.2.1 < i) ∧ (w c = false → c.1 < i → c.2.2.2 < j)
theorem good_path {w : C → Bool} (ok : ∀ c ∈ cs, Ok n m c) (hw : ∀ c ∈ cs, ∀ d ∈ cs, forces c d = true → w c = true → w d = true) :
    ∀ (k i j : Nat), (n - i) + (m - j) = k → i ≤ n → j ≤ m → Good cs w i j → ∃ r, ca r = n - i ∧ cb r = m - j ∧ Path (Good cs w) r i j
  | 0, i, j, hk, hi, hj, g => ⟨[], by simp; omega, by simp; omega, g⟩
  | k + 1, i, j, hk, hi, hj, g => by
    by_cases da : i < n ∧ ∀ c ∈ cs, w c = false → c.1 = i → c.2.2.2 < j
    · have g' : Good cs w (i + 1) j := fun c hc => ⟨fun h1 h2 => Nat.lt_succ_of_lt ((g c hc).1 h1 h2), fun h1 h2 => by
        by_cases e : c.1 = i
        · exact da.2 c hc h1 e
        · exact (g c hc).2 h1 (by omega)⟩
      obtain ⟨r, h1, h2, h3⟩ := good_path ok hw k (i + 1) j (by omega) (by omega) hj g'
      exact ⟨true :: r, by simp; omega, by simp; omega, g, h3⟩
    · have hjm : j < m := by
        by_cases hin : i < n
        · have : ∃ c ∈ cs, w c = false ∧ c.1 = i ∧ ¬ c.2.2.2 < j := by
            refine Classical.byContradiction fun no => da ⟨hin, fun c hc h1 h2 => Classical.byContradiction fun h3 => no ⟨c, hc, h1, h2, h3⟩⟩
          obtain ⟨c, hc, _, _, h3⟩ := this
          have := (ok c hc).2.1
          omega
        · omega
      have db : ∀ c ∈ cs, w c = true → c.2.2.1 = j → c.2.1 < i := fun c hc h1 h2 => by
        refine Classical.byContradiction fun h3 => ?_
        have hin : i < n := by
          have := (ok c hc).1
          omega
        refine da ⟨hin, fun d hd h4 h5 => Classical.byContradiction fun h6 => ?_⟩
        have f : forces c d = true := by
          unfold forces
          rw [Bool.and_eq_true, decide_eq_true_eq, decide_eq_true_eq]
          omega
        have := hw c hc d hd f h1
        rw [h4] at this
        cases this
      have g' : Good cs w i (j + 1) := fun c hc => ⟨fun h1 h2 => by
        by_cases e : c.2.2.1 = j
        · exact db c hc h1 e
        · exact (g c hc).1 h1 (by omega), fun h1 h2 => Nat.lt_succ_of_lt ((g c hc).2 h1 h2)⟩
      obtain ⟨r, h1, h2, h3⟩ := good_path ok hw k i (j + 1) (by omega) hi (by omega) g'
      exact ⟨false :: r, by simp; omega, by simp; omega, g, h3⟩
/-- (b): closed winners belong to a run -/
theorem closed_run {w : C → Bool} (ok : ∀ c ∈ cs, Ok n m c) (hw : ∀ c ∈ cs, ∀ d ∈ cs, forces c d = true → w c = true → w d = true) : ∃ r, Run cs n m r ∧ ∀ c ∈ cs, win r c = w c := by
  obtain ⟨r, h1, h2, h3⟩ := good_path ok hw _ 0 0 rfl (Nat.zero_le _) (Nat.zero_le _) fun c hc => ⟨fun _ h => by omega, fun _ h => by omega⟩
  refine ⟨r, ⟨h1, h2, h3.mono fun i j g c hc z => ?_⟩, fun c hc => ?_⟩
  · cases e : w c with
    | true => have := (g c hc).1 e (by omega); omega
    | false => have := (g c hc).2 e (by omega); omega
  · cases e : w c with
    | true =>
      cases q : win r c with
      | true => rfl
      | false =>
        obtain ⟨x, y, rfl, q1, q2⟩ := late q (by rw [h2]; have := ok c hc; obtain ⟨_, _, _⟩ := this; omega)
        have := (h3.at_ c hc).1 e (by omega)
        omega
    | false =>
      cases q : win r c with
      | false => rfl
      | true =>
        have o := ok c hc
        obtain ⟨_, _, _⟩ := o
        obtain ⟨x, y, rfl, q1, q2⟩ := early (bef_mono q (show c.1 ≤ c.2.1 by omega) (show c.2.2.1 ≤ c.2.2.2 by omega))
        have := (h3.at_ c hc).2 e (by omega)
        omega
end
end TM
/-! Runs -/
/-! Runs as texts; what is held and what is contested. -/
namespace TT
open PySem PySem.Spec PyProof.Rows L2
/-! sections -/
theorem lastB_ok {t : Th} : ∀ {i : Nat} {n : Str} {b : Nat} {w : Str}, lastB t i n = some (b, w) → t[b]? = some (w, n) ∧ isL w = true ∧ b < i
  | 0, n, b, w, h => by simp [lastB] at h
  | i + 1, n, b, w, h => by
    unfold lastB at h
    cases e : t[i]? with
    | none =>
      rw [e] at h
      obtain ⟨h1, h2, h3⟩ := lastB_ok h
      exact ⟨h1, h2, by omega⟩
    | some p =>
      obtain ⟨v, m⟩ := p
      rw [e] at h
      simp only at h
      by_cases c : m = n ∧ isL v = true
      · rw [if_pos c] at h
        simp at h
        obtain ⟨rfl, rfl⟩ := h
        rw [← c.1]
        exact ⟨e, c.2, by omega⟩
      · rw [if_neg c] at h
        obtain ⟨h1, h2, h3⟩ := lastB_ok h
        exact ⟨h1, h2, by omega⟩
theorem lastB_stepN {t : Th} {i : Nat} (h : t[i]? = none) (n : Str) : lastB t (i + 1) n = lastB t i n := by
  conv => lhs; unfold lastB
  rw [h]
theorem lastB_stepS {t : Th} {i : Nat} {w m : Str} (h : t[i]? = some (w, m)) (n : Str) : lastB t (i + 1) n = if m = n ∧ isL w then some (i, w) else lastB t i n := by
  conv => lhs; unfold lastB
  rw [h]
theorem held_stepN {t : Th} {i : Nat} (h : t[i]? = none) (n : Str) : held t (i + 1) n = held t i n := by
  conv => lhs; unfold held
  rw [h]
theorem held_since {t : Th} : ∀ {i : Nat} {n w : Str}, held t i n = some w → ∃ b, lastB t i n = some (b, w) ∧ ∀ k, b < k → k ≤ i → held t k n = some w
  | 0, n, w, h => by simp [held] at h
  | i + 1, n, w, h => by
    have ext : ∀ {b : Nat}, (∀ k, b < k → k ≤ i → held t k n = some w) → ∀ k, b < k → k ≤ i + 1 → held t k n = some w := fun {b} q k h1 h2 => by
      by_cases e : k = i + 1
      · rw [e]; exact h
      · exact q k h1 (by omega)
    cases e : t[i]? with
    | none =>
      rw [held_stepN e] at h
      obtain ⟨b, h1, h2⟩ := held_since h
      rw [← held_stepN e] at h
      exact ⟨b, by rw [lastB_stepN e]; exact h1, ext h2⟩
    | some p =>
      obtain ⟨v, m⟩ := p
      have hs := h
      rw [held_step e] at h
      by_cases c : m = n
      · rw [if_pos c] at h
        by_cases l : isL v = true
        · rw [if_pos l] at h
          simp at h
          subst h
          refine ⟨i, by rw [lastB_stepS e, if_pos ⟨c, l⟩], fun k h1 h2 => ?_⟩
          have : k = i + 1 := by omega
          rw [this]; exact hs
        · rw [if_neg l] at h
          by_cases f : isF v = true
          · rw [if_pos f] at h; cases h
          · rw [if_neg f] at h
            obtain ⟨b, h1, h2⟩ := held_since h
            refine ⟨b, by rw [lastB_stepS e, if_neg (fun z => l z.2)]; exact h1, fun k q1 q2 => ?_⟩
            by_cases e2 : k = i + 1
            · rw [e2]; exact hs
            · exact h2 k q1 (by omega)
      · rw [if_neg c] at h
        obtain ⟨b, h1, h2⟩ := held_since h
        refine ⟨b, by rw [lastB_stepS e, if_neg (fun z => c z.1)]; exact h1, fun k q1 q2 => ?_⟩
        by_cases e2 : k = i + 1
        · rw [e2]; exact hs
        · exact h2 k q1 (by omega)
theorem held_until {t : Th} (vd : Vd t) {n w : Str} : ∀ (d i : Nat), t.length - i = d → i ≤ t.length → held t i n = some w → ∃ e v, i ≤ e ∧ t[e]? = some (v, n) ∧ isF v = true ∧ lastB t e n = lastB t i n
  | 0, i, hd, hi, h => by
    have : i = t.length := by omega
    rw [this, vd.fin n] at h
    cases h
  | d + 1, i, hd, hi, h => by
    have hl : i < t.length := by omega
    obtain ⟨⟨v, m⟩, e⟩ : ∃ p, t[i]? = some p := ⟨_, List.getElem?_eq_getElem hl⟩
    by_cases c : m = n
    · subst c
      have nl : ¬ isL v = true := fun l => by rw [vd.lk i v m e l] at h; cases h
      by_cases f : isF v = true
      · exact ⟨i, v, Nat.le_refl _, e, f, rfl⟩
      · have h' : held t (i + 1) m = some w := by rw [held_step e, if_pos rfl, if_neg nl, if_neg f]; exact h
        obtain ⟨x, v', h1, h2, h3, h4⟩ := held_until vd d (i + 1) (by omega) (by omega) h'
        exact ⟨x, v', by omega, h2, h3, by rw [h4, lastB_stepS e, if_neg (fun z => nl z.2)]⟩
    · have h' : held t (i + 1) n = some w := by rw [held_step e, if_neg c]; exact h
      obtain ⟨x, v', h1, h2, h3, h4⟩ := held_until vd d (i + 1) (by omega) (by omega) h'
      exact ⟨x, v', by omega, h2, h3, by rw [h4, lastB_stepS e, if_neg (fun z => c z.1)]⟩
theorem secs_mem {t : Th} {s : Sec} : s ∈ secs t ↔ ∃ v, t[s.e]? = some (v, s.name) ∧ isF v = true ∧ lastB t s.e s.name = some (s.b, s.how) := by
  unfold secs
  rw [List.mem_filterMap]
  constructor
  · rintro ⟨i, _, h⟩
    unfold secAt at h
    cases e : t[i]? with
    | none => rw [e] at h; cases h
    | some p =>
      obtain ⟨v, n⟩ := p
      rw [e] at h
      simp only at h
      split at h
      · rename_i f
        obtain ⟨⟨b, w⟩, h1, h2⟩ := Option.map_eq_some_iff.mp h
        subst h2
        exact ⟨v, e, f, h1⟩
      · cases h
  · rintro ⟨v, h1, h2, h3⟩
    refine ⟨s.e, List.mem_range.mpr (List.getElem?_eq_some_iff.mp h1).1, ?_⟩
    unfold secAt
    rw [h1]
    simp only
    rw [if_pos h2, h3]
    rfl
theorem held_sec {t : Th} (vd : Vd t) {i : Nat} (hi : i ≤ t.length) {n w : Str} : held t i n = some w ↔ ∃ s ∈ secs t, s.name = n ∧ s.how = w ∧ s.b < i ∧ i ≤ s.e := by
  constructor
  · intro h
    obtain ⟨b, h1, _⟩ := held_since h
    obtain ⟨e, v, e1, e2, e3, e4⟩ := held_until vd _ i rfl hi h
    exact ⟨⟨b, e, w, n⟩, secs_mem.mpr ⟨v, e2, e3, by rw [e4]; exact h1⟩, rfl, rfl, (lastB_ok h1).2.2, e1⟩
  · rintro ⟨s, hs, rfl, rfl, h1, h2⟩
    obtain ⟨v, e1, e2, e3⟩ := secs_mem.mp hs
    obtain ⟨w', hw⟩ := Option.isSome_iff_exists.mp (vd.fr _ _ _ e1 e2)
    obtain ⟨b, q1, q2⟩ := held_since hw
    rw [e3] at q1
    simp at q1
    obtain ⟨rfl, rfl⟩ := q1
    exact q2 i h1 h2
def tri (c : Ct) : TM.C := (c.ab, c.ae, c.bb, c.be)
def tris (a b : Th) : List TM.C := (cons a b).map tri
theorem pairs_mem {α β γ : Type} {p : α → β → Bool} {f : α → β → γ} {l : List α} {m : List β} {c : γ} : c ∈ pairsOf p f l m ↔ ∃ x ∈ l, ∃ y ∈ m, p x y = true ∧ f x y = c := by
  unfold pairsOf
  rw [List.mem_flatMap]
  constructor
  · rintro ⟨x, hx, h⟩
    obtain ⟨y, hy, rfl⟩ := List.mem_map.mp h
    obtain ⟨h1, h2⟩ := List.mem_filter.mp hy
    exact ⟨x, hx, y, h1, h2, rfl⟩
  · rintro ⟨x, hx, y, hy, h, rfl⟩
    exact ⟨x, hx, List.mem_map.mpr ⟨y, List.mem_filter.mpr ⟨hy, h⟩, rfl⟩⟩
theorem cons_mem {a b : Th} {c : Ct} : c ∈ cons a b ↔ (∃ s ∈ secs a, ∃ s' ∈ secs b, lockP1 s s' = true ∧ lockC s s' = c) ∨ ∃ x ∈ acc a, ∃ y ∈ acc b, dataP1 x y = true ∧ dataC x y = c := by
  unfold cons
  rw [sortBy_mem, List.mem_append]
  unfold lockS dataS
  rw [pairs_mem, pairs_mem]
  simp only [sortBy_mem]
theorem acc_mem {t : Th} {x : Acc} : x ∈ acc t ↔ t[x.2]? = some x.1 ∧ accP x = true := by
  unfold acc
  rw [List.mem_filter, List.mem_zipIdx_iff_getElem?]
theorem cons_ok {a b : Th} (va : Vd a) (vb : Vd b) : ∀ c ∈ tris a b, TM.Ok a.length b.length c := by
  intro c hc
  obtain ⟨c, hc', rfl⟩ := List.mem_map.mp hc
  rcases cons_mem.mp hc' with ⟨s, hs, s', hs', _, rfl⟩ | ⟨x, hx, y, hy, _, rfl⟩
  · obtain ⟨v, e1, e2, e3⟩ := secs_mem.mp hs
    obtain ⟨v', e1', e2', e3'⟩ := secs_mem.mp hs'
    exact ⟨(List.getElem?_eq_some_iff.mp e1).1, (List.getElem?_eq_some_iff.mp e1').1, .inl ⟨(lastB_ok e3).2.2, (lastB_ok e3').2.2⟩⟩
  · exact ⟨(List.getElem?_eq_some_iff.mp (acc_mem.mp hx).1).1, (List.getElem?_eq_some_iff.mp (acc_mem.mp hy).1).1, .inr ⟨rfl, rfl⟩⟩
theorem open_iff {a b : Th} (va : Vd a) (vb : Vd b) {i j : Nat} (hi : i ≤ a.length) (hj : j ≤ b.length) : openB (held a i) (held b j) = true ↔ TM.Opn (tris a b) i j := by
  rw [openB_iff]
  constructor
  · intro h c hc
    obtain ⟨c, hc', rfl⟩ := List.mem_map.mp hc
    rintro ⟨h1, h2, h3, h4⟩
    rcases cons_mem.mp hc' with ⟨s, hs, s', hs', hp, rfl⟩ | ⟨x, hx, y, hy, _, rfl⟩
    · have k1 : held a i s.name = some s.how := (held_sec va hi).mpr ⟨s, hs, rfl, rfl, h1, h2⟩
      have k2 : held b j s'.name = some s'.how := (held_sec vb hj).mpr ⟨s', hs', rfl, rfl, h3, h4⟩
      unfold lockP1 at hp
      rw [Bool.and_eq_true] at hp
      have en := of_decide_eq_true hp.1
      obtain ⟨e1, e2⟩ := h s.name s.how s'.how k1 (by rw [en]; exact k2)
      have := hp.2
      simp [e1, e2] at this
    · have h1' : x.2 < i := h1
      have h2' : i ≤ x.2 := h2
      omega
  · intro h n w w' h1 h2
    obtain ⟨s, hs, e1, e2, e3, e4⟩ := (held_sec va hi).mp h1
    obtain ⟨s', hs', f1, f2, f3, f4⟩ := (held_sec vb hj).mp h2
    by_cases c : w = "share" ∧ w' = "share"
    · exact c
    · refine absurd ⟨e3, e4, f3, f4⟩ (h (tri (lockC s s')) (List.mem_map.mpr ⟨_, cons_mem.mpr (.inl ⟨s, hs, s', hs', ?_, rfl⟩), rfl⟩))
      unfold lockP1
      rw [Bool.and_eq_true]
      refine ⟨decide_eq_true (e1.trans f1.symm), ?_⟩
      rw [Bool.not_eq_true', Bool.and_eq_false_iff]
      by_cases c2 : s'.how = "share"
      · left
        rw [decide_eq_false_iff_not]
        intro z
        exact c ⟨by rw [← e2, z]; exact c2, by rw [← f2]; exact c2⟩
      · right
        exact decide_eq_false c2
/-! runs -/
structure RunB (a b : Th) (r : List Bool) : Prop where
  ha : TM.ca r = a.length
  hb : TM.cb r = b.length
  o : ∀ x y, r = x ++ y → openB (held a (TM.ca x)) (held b (TM.cb x)) = true
theorem path_iff {P : Nat → Nat → Prop} : ∀ {r : List Bool} {i j : Nat}, TM.Path P r i j ↔ ∀ x y, r = x ++ y → P (i + TM.ca x) (j + TM.cb x)
  | [], i, j => by
    constructor
    · intro h x y e
      obtain ⟨rfl, rfl⟩ := List.append_eq_nil_iff.mp e.symm
      exact h
    · intro h
      exact h [] [] rfl
  | true :: r, i, j => by
    constructor
    · intro h x y e
      exact TM.Path.at_ (y := y) (e ▸ h)
    · intro h
      exact ⟨h [] _ rfl, path_iff.mpr fun x y e => by
        have := h (true :: x) y (by rw [e]; rfl)
        simpa [Nat.add_assoc, Nat.add_comm 1] using this⟩
  | false :: r, i, j => by
    constructor
    · intro h x y e
      exact TM.Path.at_ (y := y) (e ▸ h)
    · intro h
      exact ⟨h [] _ rfl, path_iff.mpr fun x y e => by
        have := h (false :: x) y (by rw [e]; rfl)
        simpa [Nat.add_assoc, Nat.add_comm 1] using this⟩
theorem run_iff {a b : Th} (va : Vd a) (vb : Vd b) {r : List Bool} : RunB a b r ↔ TM.Run (tris a b) a.length b.length r := by
  have le : TM.ca r = a.length → TM.cb r = b.length → ∀ x y, r = x ++ y → TM.ca x ≤ a.length ∧ TM.cb x ≤ b.length := fun h1 h2 x y e => by
    rw [e, TM.ca_app] at h1
    rw [e, TM.cb_app] at h2
    omega
  constructor
  · rintro ⟨h1, h2, h3⟩
    refine ⟨h1, h2, path_iff.mpr fun x y e => ?_⟩
    rw [Nat.zero_add, Nat.zero_add]
    obtain ⟨l1, l2⟩ := le h1 h2 x y e
    exact (open_iff va vb l1 l2).mp (h3 x y e)
  · rintro ⟨h1, h2, h3⟩
    refine ⟨h1, h2, fun x y e => ?_⟩
    obtain ⟨l1, l2⟩ := le h1 h2 x y e
    have := path_iff.mp h3 x y e
    rw [Nat.zero_add, Nat.zero_add] at this
    exact (open_iff va vb l1 l2).mpr this
theorem runB_len {a b : Th} {r : List Bool} (va : Vd a) (vb : Vd b) (R : RunB a b r) : r.length = a.length + b.length ∧ r.length ≤ 12 := by
  have h1 := R.ha
  have h2 := R.hb
  have h3 := TM.cab_len r
  have := va.len
  have := vb.len
  omega
/-! texts of letters -/
def cd (x : Bool) : Nat := if x then 97 else 98
def runS (r : List Bool) : Str := SX.S (r.map cd)
theorem runS_len (r : List Bool) : (runS r).length = r.length := by
  show (SX.S _).length = _
  rw [SX.S_len, List.length_map]
theorem cd_inj {x y : Bool} (h : cd x = cd y) : x = y := by
  cases x <;> cases y <;> simp [cd] at h <;> rfl
theorem runS_inj {r s : List Bool} (h : runS r = runS s) : r = s := by
  have := SX.S_inj h
  clear h
  induction r generalizing s with
  | nil => cases s with
    | nil => rfl
    | cons _ _ => simp at this
  | cons x r ih => cases s with
    | nil => simp at this
    | cons y s =>
      simp only [List.map_cons, List.cons.injEq] at this
      rw [cd_inj this.1, ih this.2]
theorem runS_signs (r : List Bool) : signs (runS r) = r.map fun x => .str (chr (cd x)) := by
  unfold signs runS SX.S
  simp
theorem runS_app (r s : List Bool) : runS r ++ runS s = runS (r ++ s) := by
  unfold runS
  rw [SX.S_cat, List.map_append]
theorem chr_eq (x y : Bool) : decide (chr (cd x) = chr (cd y)) = decide (x = y) := by
  cases x <;> cases y <;> decide +kernel
theorem strip_all {l m : List Nat} (h : ∀ c ∈ l, c ∈ m) : Txt.stripChars (SX.S l) (SX.S m) = SX.S [] := by
  have tw : ∀ (k : List Nat), (∀ c ∈ k, c ∈ m) → k.takeWhile (SX.S m).cps.contains = k := fun k hk => by
    induction k with
    | nil => rfl
    | cons c k ih =>
      have := hk c List.mem_cons_self
      rw [List.takeWhile_cons, if_pos (by simpa [SX.S] using this), ih fun x hx => hk x (List.mem_cons_of_mem _ hx)]
  have lo : stripLo (SX.S m).cps.contains true (SX.S l) = l.length := by
    unfold stripLo
    rw [if_pos rfl, show (SX.S l).cps.toList = l from rfl, tw l h]
  unfold Txt.stripChars Txt.stripBy
  by_cases hl : l = []
  · subst hl
    rw [if_pos]
    unfold stripSame
    rw [lo]
    rfl
  · have hp : 0 < l.length := List.length_pos_iff.mpr hl
    have : stripSame (SX.S m).cps.contains true true (SX.S l) = false := by
      unfold stripSame
      rw [lo]
      have : (l.length == 0) = false := by simp; exact hl
      rw [this]
      rfl
    rw [this, if_neg Bool.false_ne_true]
    unfold stripped
    rw [lo]
    have hi : stripHi (SX.S m).cps.contains true (SX.S l) l.length = l.length := by
      unfold stripHi
      rw [if_pos rfl, show (SX.S l).cps.toList = l from rfl, List.drop_length, SX.S_len]
      simp
    rw [hi]
    unfold PySem.Builtin.Str.strSub SX.S
    simp
theorem strip_run (r : List Bool) : Txt.stripChars (runS r) "ab" = "" := by
  have e1 : ("ab" : Str) = SX.S [97, 98] := by decide +kernel
  have e2 : ("" : Str) = SX.S [] := by decide +kernel
  rw [e1, e2]
  refine strip_all fun c hc => ?_
  obtain ⟨x, _, rfl⟩ := List.mem_map.mp hc
  cases x <;> simp [cd]
theorem cnt_count (c : Nat) : ∀ l : List Nat, cnt c l = (l.count c : Nat)
  | [] => rfl
  | n :: r => by
    rw [cnt_cons, cnt_count c r, List.count_cons]
    by_cases h : n = c
    · simp [h]; omega
    · simp [h]
theorem count_cd (x : Bool) : ∀ r : List Bool, (r.map cd).count (cd x) = r.count x
  | [] => rfl
  | y :: r => by
    rw [List.map_cons, List.count_cons, List.count_cons, count_cd x r]
    congr 1
    cases x <;> cases y <;> rfl
theorem count_run (x : Bool) (r : List Bool) : Txt.count (runS r) (chr (cd x)) = (r.count x : Nat) := by
  unfold chr
  rw [count_cnt, cnt_count]
  show (((r.map cd).count (cd x) : Nat) : Int) = _
  rw [count_cd]

section
variable {K : PySem.W.Frag} {σ : L2.St} {es es' : List SV} {F B F' B' F0 B0 H : Hp} {ta tb te tx tc : TE} {d d2 : D} {v : V} {i j n : Nat} {ms : List MO} {Dn : Ends} {R : Hp → V → Prop}
theorem st_parRD (S : Sta K F0 B0 es ms F H σ) (hm : ∀ F F' v, Ex F F' → R F v → R F' v) (h1 : EvR ta σ F H R) (h2 : EvD K tb σ F H d2) (k : ∀ F' H' σ', Sta K F0 B0 ((es.set i (.rel R)).set j (.dat d2)) ms F' H' σ' → Dn.nx σ' H') : tPar i j (tCons ta (tCons tb tNil)) Dn σ H :=
  h1 F H (Gr.refl S.ex) _ fun v F1 H1 g1 kv => h2 F1 H1 g1 _ fun w F2 H2 g2 kw => ⟨_, _, rfl, k F2 H2 _ (((S.grow (g1.trans g2)).setR i hm (hm _ _ _ g2.ff kv)).set j kw)⟩
theorem st_augI {f : Int → Int → Int} {m n : Int} (S : Sta K F0 B0 es ms F H σ) (hi : es[i]? = some (.dat (.int m))) (h : EvD K te σ F H (.int n)) (k : ∀ F' H' σ', Sta K F0 B0 (es.set i (.dat (.int (f m n)))) ms F' H' σ' → Dn.nx σ' H') : tAug i te (ipI f) Dn σ H := by
  obtain ⟨x, h1, h2⟩ := S.so.dat hi
  exact ⟨x, h1, h F H (Gr.refl S.ex) _ fun w F1 H1 g1 kw => ⟨m, n, dp_int h2, dp_int kw, k F1 H1 _ ((S.grow g1).set i (.int _))⟩⟩
end
theorem EvN.eqN {K : PySem.W.Frag} {te : TE} {σ : L2.St} {F B : Hp} {ds zs : List D} (h : EvN K te σ F B ds) (e : ds = zs) : EvN K te σ F B zs := e ▸ h
theorem signs_ab : signs "ab" = [true, false].map fun x => .str (chr (cd x)) := by
  have e : ("ab" : Str) = runS [true, false] := by decide +kernel
  rw [e, runS_signs]
/-! places -/
def plF (x : Bool) : Nat → List Bool → List Nat
  | _, [] => []
  | k, y :: r => if y = x then k :: plF x (k + 1) r else plF x (k + 1) r
theorem plF_zip (x : Bool) : ∀ (r : List Bool) (k : Nat), ((r.zipIdx k).filter fun p => decide (p.1 = x)).map (fun p => p.2) = plF x k r
  | [], _ => rfl
  | y :: r, k => by
    rw [List.zipIdx_cons, List.filter_cons]
    unfold plF
    by_cases h : y = x
    · simp only [h, decide_true, if_true, List.map_cons]
      rw [plF_zip x r (k + 1)]
    · simp only [h, decide_false, if_false]
      exact plF_zip x r (k + 1)
def pl (x : Bool) (r : List Bool) : List Nat := (r.zipIdx.filter fun p => decide (p.1 = x)).map fun p => p.2
theorem plF_len (x : Bool) : ∀ (r : List Bool) (k : Nat), (plF x k r).length = r.count x
  | [], _ => rfl
  | y :: r, k => by
    unfold plF
    rw [List.count_cons]
    by_cases h : y = x
    · simp [h, plF_len x r (k + 1)]
    · simp [h, plF_len x r (k + 1)]
theorem pl_len (x : Bool) (r : List Bool) : (pl x r).length = r.count x := by
  unfold pl
  rw [plF_zip, plF_len]
theorem plF_ge (x : Bool) : ∀ (r : List Bool) (k p : Nat), p ∈ plF x k r → k ≤ p
  | [], _, _, h => by simp [plF] at h
  | y :: r, k, p, h => by
    unfold plF at h
    split at h
    · rcases List.mem_cons.mp h with rfl | h
      · exact Nat.le_refl _
      · have := plF_ge x r (k + 1) p h; omega
    · have := plF_ge x r (k + 1) p h; omega
theorem plF_bef : ∀ (r : List Bool) (k i j p q : Nat), (plF true k r)[i]? = some p → (plF false k r)[j]? = some q → p ≠ q ∧ TM.bef r i j = decide (p < q)
  | [], _, _, _, _, _, h, _ => by simp [plF] at h
  | true :: r, k, 0, j, p, q, hp, hq => by
    simp [plF] at hp hq
    subst hp
    have := plF_ge false r (k + 1) q (List.mem_of_getElem? hq)
    exact ⟨by omega, by rw [TM.bef_t0, decide_eq_true (by omega)]⟩
  | true :: r, k, i + 1, j, p, q, hp, hq => by
    simp [plF] at hp hq
    rw [TM.bef_ts]
    exact plF_bef r (k + 1) i j p q hp hq
  | false :: r, k, i, 0, p, q, hp, hq => by
    simp [plF] at hp hq
    subst hq
    have := plF_ge true r (k + 1) p (List.mem_of_getElem? hp)
    exact ⟨by omega, by rw [TM.bef_f0, decide_eq_false (by omega)]⟩
  | false :: r, k, i, j + 1, p, q, hp, hq => by
    simp [plF] at hp hq
    rw [TM.bef_fs]
    exact plF_bef r (k + 1) i j p q hp hq
theorem pl_bef {r : List Bool} {i j p q : Nat} (hp : (pl true r)[i]? = some p) (hq : (pl false r)[j]? = some q) : p ≠ q ∧ TM.bef r i j = decide (p < q) := by
  unfold pl at hp hq
  rw [plF_zip] at hp hq
  exact plF_bef r 0 i j p q hp hq
/-- the winners' letters -/
def winL (cs : List Ct) (r : List Bool) : List Bool := cs.map fun c => TM.win r (tri c)
theorem join_S0 (ys : List (List Nat)) : Txt.join "" (ys.map SX.S) = SX.S ys.flatten := by
  have e : ("" : Str) = SX.S [] := by decide +kernel
  rw [e, SX.join_S]
  congr 1
  induction ys with
  | nil => rfl
  | cons y ys ih =>
    cases ys with
    | nil => simp [TL.joinL]
    | cons z ys =>
      simp only [TL.joinL] at ih ⊢
      rw [List.flatten_cons, ← ih]
      simp
theorem join_letters (l : List Bool) : Txt.join "" (l.map fun x => chr (cd x)) = runS l := by
  have e : (l.map fun x => chr (cd x)) = (l.map fun x => [cd x]).map SX.S := by rw [List.map_map]; rfl
  rw [e, join_S0]
  unfold runS
  congr 1
  clear e
  induction l with
  | nil => rfl
  | cons x l ih => simp at ih ⊢; exact ih
end TT
/-! LMir -/
/-! The law's own parts and contests. -/
namespace TT
open PySem PySem.Spec PyProof.Rows L2
def ends (t : Th) (i : Nat) (m : Str) : List Nat := ((List.range (t.length - i)).filter fun k => decide (t[i + k]? = some (("free" : Str), m))).map fun k => i + k
def prtAt (t : Th) (i : Nat) : Option Sec := match t[i]? with
  | some (w, n) => if isL w then (ends t i n).head?.map fun e => ⟨i, e, w, n⟩ else none
  | none => none
def parts (t : Th) : List Sec := (List.range t.length).filterMap (prtAt t)
theorem isF_eq {v : Str} (h : isF v = true) : v = "free" := of_decide_eq_true h
theorem ends_mem {t : Th} {i e : Nat} {m : Str} : e ∈ ends t i m ↔ i ≤ e ∧ t[e]? = some (("free" : Str), m) := by
  unfold ends
  rw [List.mem_map]
  constructor
  · rintro ⟨k, hk, rfl⟩
    exact ⟨by omega, of_decide_eq_true (List.mem_filter.mp hk).2⟩
  · rintro ⟨h1, h2⟩
    have hl : e < t.length := (List.getElem?_eq_some_iff.mp h2).1
    refine ⟨e - i, List.mem_filter.mpr ⟨List.mem_range.mpr (by omega), ?_⟩, by omega⟩
    rw [show i + (e - i) = e by omega]
    exact decide_eq_true h2
theorem ends_first {t : Th} {i e : Nat} {m : Str} (h : (ends t i m).head? = some e) : (i ≤ e ∧ t[e]? = some (("free" : Str), m)) ∧ ∀ x, i ≤ x → x < e → t[x]? ≠ some (("free" : Str), m) := by
  have hm : e ∈ ends t i m := List.mem_of_mem_head? h
  refine ⟨ends_mem.mp hm, fun x h1 h2 h3 => ?_⟩
  have hx : x ∈ ends t i m := ends_mem.mpr ⟨h1, h3⟩
  have so : (ends t i m).Pairwise (· < ·) := by
    unfold ends
    rw [List.pairwise_map]
    exact (List.pairwise_lt_range.filter _).imp fun h => by omega
  cases c : ends t i m with
  | nil => rw [c] at hx; simp at hx
  | cons y r =>
    rw [c] at h hx so
    simp at h
    subst h
    rcases List.mem_cons.mp hx with rfl | hx
    · omega
    · have := (List.pairwise_cons.mp so).1 x hx
      omega
theorem free_e {t : Th} (vd : Vd t) {i : Nat} {w m : Str} (h : t[i]? = some (w, m)) (l : isL w = true) : ∃ e, i < e ∧ t[e]? = some (("free" : Str), m) ∧ lastB t e m = some (i, w) := by
  have hl : i < t.length := (List.getElem?_eq_some_iff.mp h).1
  have h1 : held t (i + 1) m = some w := by rw [held_step h, if_pos rfl, if_pos l]
  obtain ⟨e, v, e1, e2, e3, e4⟩ := held_until vd _ (i + 1) rfl (by omega) h1
  rw [isF_eq e3] at e2
  exact ⟨e, by omega, e2, by rw [e4, lastB_stepS h, if_pos ⟨rfl, l⟩]⟩
theorem ends_some {t : Th} (vd : Vd t) {i : Nat} {w m : Str} (h : t[i]? = some (w, m)) (l : isL w = true) : ∃ e, (ends t i m).head? = some e := by
  obtain ⟨e, h1, h2, _⟩ := free_e vd h l
  have : e ∈ ends t i m := ends_mem.mpr ⟨by omega, h2⟩
  cases c : ends t i m with
  | nil => rw [c] at this; simp at this
  | cons y r => exact ⟨y, rfl⟩
/-- a free's lock is the last one ahead: no free of the name between -/
theorem between {t : Th} (vd : Vd t) {i e x : Nat} {w m : Str} (h : lastB t e m = some (i, w)) (he : t[e]? = some (("free" : Str), m)) (hx : t[x]? = some (("free" : Str), m)) (h1 : i < x) (h2 : x < e) : False := by
  obtain ⟨w', hw⟩ := Option.isSome_iff_exists.mp (vd.fr e _ _ he (by decide +kernel))
  obtain ⟨b, q1, q2⟩ := held_since hw
  rw [h] at q1
  simp at q1
  obtain ⟨rfl, rfl⟩ := q1
  have a1 := q2 (x + 1) (by omega) (by omega)
  rw [held_step hx, if_pos rfl, if_neg (by decide +kernel), if_pos (by decide +kernel)] at a1
  cases a1
theorem parts_mem {t : Th} (vd : Vd t) {s : Sec} : s ∈ parts t ↔ s ∈ secs t := by
  rw [secs_mem]
  unfold parts
  rw [List.mem_filterMap]
  constructor
  · rintro ⟨i, _, h⟩
    unfold prtAt at h
    cases c : t[i]? with
    | none => rw [c] at h; cases h
    | some p =>
      obtain ⟨w, n⟩ := p
      rw [c] at h
      simp only at h
      split at h
      · rename_i l
        obtain ⟨e, h1, h2⟩ := Option.map_eq_some_iff.mp h
        subst h2
        obtain ⟨⟨a1, a2⟩, a3⟩ := ends_first h1
        obtain ⟨e', b1, b2, b3⟩ := free_e vd c l
        have : e' = e := by
          rcases Nat.lt_trichotomy e' e with q | q | q
          · exact absurd b2 (a3 e' (by omega) q)
          · exact q
          · refine (between vd b3 b2 a2 ?_ q).elim
            rcases Nat.lt_or_ge i e with z | z
            · exact z
            · have : i = e := by omega
              subst this
              rw [c] at a2
              simp at a2
              rw [a2] at l
              exact absurd l (by decide +kernel)
        subst this
        exact ⟨("free" : Str), a2, by decide +kernel, b3⟩
      · cases h
  · rintro ⟨v, h1, h2, h3⟩
    rw [isF_eq h2] at h1
    obtain ⟨k1, k2, k3⟩ := lastB_ok h3
    refine ⟨s.b, List.mem_range.mpr (List.getElem?_eq_some_iff.mp k1).1, ?_⟩
    obtain ⟨e, he⟩ := ends_some vd k1 k2
    obtain ⟨⟨a1, a2⟩, a3⟩ := ends_first he
    have : e = s.e := by
      rcases Nat.lt_trichotomy e s.e with q | q | q
      · refine (between vd h3 h1 a2 ?_ q).elim
        rcases Nat.lt_or_ge s.b e with z | z
        · exact z
        · have : s.b = e := by omega
          rw [this, a2] at k1
          simp at k1
          rw [← k1] at k2
          exact absurd k2 (by decide +kernel)
      · exact q
      · exact absurd h1 (a3 s.e (by omega) q)
    unfold prtAt
    rw [k1]
    simp only
    rw [if_pos k2, he, this]
    rfl
theorem nodup_fm {α β : Type} {f : α → Option β} {k : β → α} (hk : ∀ a b, f a = some b → k b = a) : ∀ {l : List α}, l.Nodup → (l.filterMap f).Nodup
  | [], _ => List.nodup_nil
  | a :: l, h => by
    obtain ⟨h1, h2⟩ := List.nodup_cons.mp h
    cases c : f a with
    | none => rw [List.filterMap_cons_none c]; exact nodup_fm hk h2
    | some b =>
      rw [List.filterMap_cons_some c]
      refine List.nodup_cons.mpr ⟨fun m => ?_, nodup_fm hk h2⟩
      obtain ⟨a', ha', e⟩ := List.mem_filterMap.mp m
      have e1 := hk _ _ c
      have e2 := hk _ _ e
      rw [e1] at e2
      rw [e2] at h1
      exact h1 ha'
theorem parts_perm {t : Th} (vd : Vd t) : (parts t).Perm (secs t) := by
  refine (List.perm_ext_iff_of_nodup ?_ ?_).mpr fun s => parts_mem vd
  · refine nodup_fm (k := fun s : Sec => s.b) (fun i s h => ?_) List.nodup_range
    unfold prtAt at h
    cases c : t[i]? with
    | none => rw [c] at h; cases h
    | some p =>
      rw [c] at h
      simp only at h
      split at h
      · obtain ⟨e, _, h2⟩ := Option.map_eq_some_iff.mp h
        subst h2; rfl
      · cases h
  · refine nodup_fm (k := fun s : Sec => s.e) (fun i s h => ?_) List.nodup_range
    unfold secAt at h
    cases c : t[i]? with
    | none => rw [c] at h; cases h
    | some p =>
      rw [c] at h
      simp only at h
      split at h
      · obtain ⟨e, _, h2⟩ := Option.map_eq_some_iff.mp h
        subst h2; rfl
      · cases h
/-! the law's contests -/
def lockP2 (s s' : Sec) : Bool := decide (s.name = s'.name) && !(decide (s.how = "share") && decide (s'.how = "share"))
def dataP2 (x y : Acc) : Bool := decide (x.1.2 = y.1.2) && (decide (("write" : Str) ∈ [x.1.1, y.1.1]) && (accP x && accP y))
theorem lockP_eq (s s' : Sec) : lockP2 s s' = lockP1 s s' := by
  unfold lockP1 lockP2
  congr 1
  congr 1
  by_cases h : s'.how = "share"
  · rw [h]
  · rw [decide_eq_false h, Bool.and_false, Bool.and_false]
theorem dataP_eq {x y : Acc} : dataP2 x y = (accP x && (accP y && dataP1 x y)) := by
  unfold dataP2 dataP1
  by_cases hx : accP x = true
  · by_cases hy : accP y = true
    · rw [hx, hy]
      simp only [Bool.true_and, Bool.and_true]
      congr 1
      have hx' := of_decide_eq_true hx
      have hy' := of_decide_eq_true hy
      simp only [List.mem_cons, List.not_mem_nil, or_false] at hx' hy'
      have ne : ¬ ("write" : Str) = "read" := by decide +kernel
      have ne2 : ¬ ("read" : Str) = "write" := by decide +kernel
      rcases hx' with h1 | h1 <;> rcases hy' with h2 | h2 <;> rw [h1, h2] <;> simp [ne, ne2]
    · rw [Bool.eq_false_iff.mpr hy]; simp
  · rw [Bool.eq_false_iff.mpr hx]; simp
theorem pairs_filter {α β γ : Type} (q : α → Bool) (r : β → Bool) (p : α → β → Bool) (f : α → β → γ) (m : List β) : ∀ l : List α, pairsOf p f (l.filter q) (m.filter r) = pairsOf (fun x y => q x && (r y && p x y)) f l m
  | [] => rfl
  | a :: l => by
    have ih := pairs_filter q r p f m l
    unfold pairsOf at ih ⊢
    rw [List.filter_cons, List.flatMap_cons]
    by_cases h : q a = true
    · rw [if_pos h, List.flatMap_cons, ih]
      congr 1
      rw [List.filter_filter]
      simp only [h, Bool.true_and]
      congr 2
      funext y
      exact Bool.and_comm _ _
    · rw [if_neg h, ih]
      simp [Bool.eq_false_iff.mpr h]
def consL (a b : Th) : List Ct := pairsOf lockP2 lockC (parts a) (parts b) ++ pairsOf dataP2 dataC a.zipIdx b.zipIdx
theorem flatMap_perm {α β : Type} {f g : α → List β} : ∀ l : List α, (∀ a ∈ l, (f a).Perm (g a)) → (l.flatMap f).Perm (l.flatMap g)
  | [], _ => .refl _
  | a :: l, h => by
    rw [List.flatMap_cons, List.flatMap_cons]
    exact List.Perm.append (h a List.mem_cons_self) (flatMap_perm l fun x hx => h x (List.mem_cons_of_mem _ hx))
theorem pairs_perm {α β γ : Type} (p : α → β → Bool) (f : α → β → γ) {l l' : List α} {m m' : List β} (h1 : l.Perm l') (h2 : m.Perm m') : (pairsOf p f l m).Perm (pairsOf p f l' m') := by
  unfold pairsOf
  exact (h1.flatMap_right _).trans (flatMap_perm _ fun a _ => (h2.filter _).map _)
theorem consL_perm {a b : Th} (va : Vd a) (vb : Vd b) : (consL a b).Perm (lockS a b ++ dataS a b) := by
  unfold consL lockS dataS
  refine List.Perm.append ?_ ?_
  · have : pairsOf lockP2 lockC (parts a) (parts b) = pairsOf lockP1 lockC (parts a) (parts b) := by
      unfold pairsOf
      simp only [funext fun s => funext fun s' => lockP_eq s s']
    rw [this]
    exact pairs_perm _ _ ((parts_perm va).trans (sortBy_perm _ _).symm) ((parts_perm vb).trans (sortBy_perm _ _).symm)
  · unfold acc
    rw [pairs_filter]
    have : (fun x y => accP x && (accP y && dataP1 x y)) = dataP2 := by
      funext x y
      exact dataP_eq.symm
    rw [this]
theorem consL_sort {a b : Th} (va : Vd a) (vb : Vd b) : sortD ((consL a b).map ctD) = (cons a b).map ctD := by
  rw [sortD_map, sortBy_eq ct_inj (consL_perm va vb)]
  rfl
end TT
/-! ERun -/
/-! All runs, by their length. -/
namespace TT
open PySem PySem.Spec PyProof.Rows L2
noncomputable def step1 (a b : Th) (r : List Bool) : List (List Bool) :=
  (if TM.ca r < a.length ∧ openB (held a (TM.ca r + 1)) (held b (TM.cb r)) = true then [r ++ [true]] else []) ++
  (if TM.cb r < b.length ∧ openB (held a (TM.ca r)) (held b (TM.cb r + 1)) = true then [r ++ [false]] else [])
noncomputable def stepL (a b : Th) (rs : List (List Bool)) : List (List Bool) := rs.flatMap (step1 a b)
noncomputable def lvl (a b : Th) : Nat → List (List Bool)
  | 0 => [[]]
  | k + 1 => stepL a b (lvl a b k)
def itD (r : List Bool) : D := .tuple [.str (runS r), .int (TM.ca r : Nat), .int (TM.cb r : Nat)]
theorem step1_len (a b : Th) (r : List Bool) : (step1 a b r).length ≤ 2 := by
  unfold step1
  split <;> split <;> simp
theorem stepL_len (a b : Th) : ∀ rs : List (List Bool), (stepL a b rs).length ≤ 2 * rs.length
  | [] => by simp [stepL]
  | r :: rs => by
    have ih := stepL_len a b rs
    have := step1_len a b r
    unfold stepL at ih ⊢
    rw [List.flatMap_cons, List.length_append, List.length_cons]
    omega
theorem lvl_len (a b : Th) : ∀ k, (lvl a b k).length ≤ 2 ^ k
  | 0 => by simp [lvl]
  | k + 1 => by
    have ih := lvl_len a b k
    have := stepL_len a b (lvl a b k)
    show (stepL a b (lvl a b k)).length ≤ _
    rw [Nat.pow_succ]
    omega
theorem stepL_snoc {a b : Th} {rs : List (List Bool)} {t : Nat} {r : List Bool} (h : rs[t]? = some r) : stepL a b (rs.take (t + 1)) = stepL a b (rs.take t) ++ step1 a b r := by
  unfold stepL
  rw [List.take_add_one, h, List.flatMap_append]
  simp
theorem open0 (f g : Str → Option Str) (h : ∀ n, f n = none) : openB f g = true := openB_iff.mpr fun n w w' h1 _ => by rw [h n] at h1; cases h1
theorem app_snoc {x y r : List Bool} {z : Bool} (h : r ++ [z] = x ++ y) : (y = [] ∧ x = r ++ [z]) ∨ ∃ y', y = y' ++ [z] ∧ r = x ++ y' := by
  rcases List.eq_nil_or_concat y with rfl | ⟨y', c, rfl⟩
  · left
    exact ⟨rfl, by rw [h, List.append_nil]⟩
  · right
    rw [List.concat_eq_append, ← List.append_assoc] at h
    have h2 := List.append_inj' h rfl
    have : z = c := by simpa using h2.2
    subst this
    exact ⟨y', by rw [List.concat_eq_append], h2.1⟩
theorem lvl_mem {a b : Th} : ∀ {k : Nat} {r : List Bool}, r ∈ lvl a b k ↔ r.length = k ∧ TM.ca r ≤ a.length ∧ TM.cb r ≤ b.length ∧ ∀ x y, r = x ++ y → openB (held a (TM.ca x)) (held b (TM.cb x)) = true
  | 0, r => by
    show r ∈ [[]] ↔ _
    rw [List.mem_singleton]
    constructor
    · rintro rfl
      refine ⟨rfl, Nat.zero_le _, Nat.zero_le _, fun x y e => ?_⟩
      obtain ⟨rfl, _⟩ := List.append_eq_nil_iff.mp e.symm
      exact open0 _ _ fun n => rfl
    · rintro ⟨h, _⟩
      exact List.eq_nil_of_length_eq_zero h
  | k + 1, r => by
    show r ∈ stepL a b (lvl a b k) ↔ _
    unfold stepL
    rw [List.mem_flatMap]
    constructor
    · rintro ⟨s, hs, h⟩
      obtain ⟨l1, l2, l3, l4⟩ := lvl_mem.mp hs
      unfold step1 at h
      rcases List.mem_append.mp h with h | h
      · split at h
        · rename_i c
          rw [List.mem_singleton] at h
          subst h
          refine ⟨by simp [l1], by simp; omega, by simp; exact l3, fun x y e => ?_⟩
          rcases app_snoc e with ⟨rfl, rfl⟩ | ⟨y', rfl, e2⟩
          · simp; exact c.2
          · exact l4 x y' e2
        · cases h
      · split at h
        · rename_i c
          rw [List.mem_singleton] at h
          subst h
          refine ⟨by simp [l1], by simp; exact l2, by simp; omega, fun x y e => ?_⟩
          rcases app_snoc e with ⟨rfl, rfl⟩ | ⟨y', rfl, e2⟩
          · simp; exact c.2
          · exact l4 x y' e2
        · cases h
    · rintro ⟨h1, h2, h3, h4⟩
      rcases List.eq_nil_or_concat r with rfl | ⟨s, z, rfl⟩
      · cases h1
      · rw [List.concat_eq_append] at h1 h2 h3 h4 ⊢
        have op := h4 (s ++ [z]) [] (by rw [List.append_nil])
        have pre : ∀ x y, s = x ++ y → openB (held a (TM.ca x)) (held b (TM.cb x)) = true := fun x y e => h4 x (y ++ [z]) (by rw [e, List.append_assoc])
        have hs : s.length = k := by simpa using h1
        cases z
        · simp at h2 h3 op
          refine ⟨s, lvl_mem.mpr ⟨hs, h2, by omega, pre⟩, List.mem_append_right _ ?_⟩
          rw [if_pos ⟨by omega, op⟩]
          exact List.mem_singleton.mpr rfl
        · simp at h2 h3 op
          refine ⟨s, lvl_mem.mpr ⟨hs, by omega, h3, pre⟩, List.mem_append_left _ ?_⟩
          rw [if_pos ⟨by omega, op⟩]
          exact List.mem_singleton.mpr rfl
theorem nodup_flat {α β : Type} {f : α → List β} {k : β → α} (hk : ∀ a b, b ∈ f a → k b = a) (hn : ∀ a, (f a).Nodup) : ∀ {l : List α}, l.Nodup → (l.flatMap f).Nodup
  | [], _ => List.nodup_nil
  | a :: l, h => by
    obtain ⟨h1, h2⟩ := List.nodup_cons.mp h
    rw [List.flatMap_cons]
    refine List.nodup_append.mpr ⟨hn a, nodup_flat hk hn h2, fun x hx y hy e => ?_⟩
    obtain ⟨a', ha', hy'⟩ := List.mem_flatMap.mp hy
    subst e
    rw [← hk a x hx, hk a' x hy'] at h1
    exact h1 ha'
theorem lvl_nodup (a b : Th) : ∀ k, (lvl a b k).Nodup
  | 0 => by simp [lvl]
  | k + 1 => by
    refine nodup_flat (k := fun r : List Bool => r.dropLast) (fun s r h => ?_) (fun s => ?_) (lvl_nodup a b k)
    · unfold step1 at h
      rcases List.mem_append.mp h with h | h
      · split at h
        · rw [List.mem_singleton.mp h]; simp
        · cases h
      · split at h
        · rw [List.mem_singleton.mp h]; simp
        · cases h
    · unfold step1
      split <;> split <;> simp
/-- all runs, in the order of their texts -/
noncomputable def RL (a b : Th) : List (List Bool) := sortBy (fun r => .str (runS r)) (lvl a b (a.length + b.length))
theorem RL_mem {a b : Th} {r : List Bool} : r ∈ RL a b ↔ RunB a b r := by
  unfold RL
  rw [sortBy_mem, lvl_mem]
  have e := TM.cab_len r
  constructor
  · rintro ⟨h1, h2, h3, h4⟩
    exact ⟨by omega, by omega, h4⟩
  · rintro ⟨h1, h2, h3⟩
    exact ⟨by omega, by omega, by omega, h3⟩
theorem RL_nodup (a b : Th) : (RL a b).Nodup := (sortBy_perm _ _).nodup_iff.mpr (lvl_nodup a b _)
theorem RL_len {a b : Th} (va : Vd a) (vb : Vd b) : (RL a b).length ≤ 4096 := by
  unfold RL
  rw [sortBy_len]
  have := va.len
  have := vb.len
  exact Nat.le_trans (lvl_len a b _) (Nat.le_trans (Nat.pow_le_pow_right (by decide) (show a.length + b.length ≤ 12 by omega)) (by decide))
end TT
/-! Cls -/
/-! The classes by exchanges. -/
namespace TT
open PySem PySem.Spec PyProof.Rows L2
noncomputable def nearB (a b : Th) (i j : Nat) : Bool := @decide (TM.Near (tris a b) i j) (Classical.propDecidable _)
theorem nearB_iff {a b : Th} {i j : Nat} : nearB a b i j = true ↔ TM.Near (tris a b) i j := @decide_eq_true_iff _ (Classical.propDecidable _)
/-- a frozen dict whose keys are the pairs of steps that concern each other -/
def NearD (a b : Th) (F : Hp) (v : V) : Prop := ∃ q kvs, v = .ref q ∧ F q = some (.dT kvs) ∧ ∀ i j : Nat, (valV kvs [.inl (i : Int), .inl (j : Int)]).isSome = nearB a b i j
theorem NearD.ex {a b : Th} (F F' : Hp) (v : V) (e : Ex F F') (h : NearD a b F v) : NearD a b F' v := by
  obtain ⟨q, kvs, h1, h2, h3⟩ := h
  exact ⟨q, kvs, h1, e _ _ h2, h3⟩
def same (a b : Th) (r s : List Bool) : Prop := winL (cons a b) r = winL (cons a b) s
theorem same_iff {a b : Th} {r s : List Bool} : same a b r s ↔ ∀ c ∈ tris a b, TM.win r c = TM.win s c := by
  unfold same winL tris
  rw [List.map_inj_left]
  constructor
  · intro h c hc
    obtain ⟨c', hc', rfl⟩ := List.mem_map.mp hc
    exact h c' hc'
  · intro h c hc
    exact h _ (List.mem_map.mpr ⟨c, hc, rfl⟩)
def cls (a b : Th) (rs : List (List Bool)) (r : List Bool) : Option (List Bool) := rs.find? fun s => decide (winL (cons a b) s = winL (cons a b) r)
theorem find_at {α : Type} {p : α → Bool} : ∀ {l : List α} {k : Nat} {x : α}, l[k]? = some x → p x = true → (∀ y ∈ l.take k, p y = false) → l.find? p = some x
  | [], _, _, h, _, _ => by simp at h
  | y :: l, 0, x, h, hp, _ => by
    simp at h
    subst h
    rw [List.find?_cons, hp]
  | y :: l, k + 1, x, h, hp, hn => by
    rw [List.find?_cons, hn y (by simp)]
    exact find_at (k := k) (by simpa using h) hp fun z hz => hn z (by rw [List.take_succ_cons]; exact List.mem_cons_of_mem _ hz)
theorem sub_len {α : Type} : ∀ {l m : List α}, l.Nodup → (∀ x ∈ l, x ∈ m) → l.length ≤ m.length
  | [], _, _, _ => Nat.zero_le _
  | a :: l, m, hn, hs => by
    obtain ⟨n1, n2⟩ := List.nodup_cons.mp hn
    obtain ⟨m1, m2, rfl⟩ := List.append_of_mem (hs a List.mem_cons_self)
    have := sub_len (m := m1 ++ m2) n2 fun x hx => by
      have := hs x (List.mem_cons_of_mem _ hx)
      rcases List.mem_append.mp this with h | h
      · exact List.mem_append_left _ h
      · rcases List.mem_cons.mp h with rfl | h
        · exact absurd hx n1
        · exact List.mem_append_right _ h
    rw [List.length_append] at this
    rw [List.length_cons, List.length_append, List.length_cons]
    omega
abbrev rk (r : List Bool) : Key := .inr (runS r)
theorem rk_inj {r s : List Bool} (h : rk r = rk s) : r = s := runS_inj (Sum.inr.inj h)
structure OI (a b : Th) (k : Nat) (kds : List (Key × D)) : Prop where
  nd : (kds.map (·.1)).Nodup
  ks : ∀ x ∈ kds.map (·.1), ∃ r, RunB a b r ∧ x = rk r
  mem : ∀ r, RunB a b r → (rk r ∈ kds.map (·.1) ↔ ∃ s ∈ (RL a b).take k, same a b s r)
  vl : ∀ r, RunB a b r → ∀ d, valD kds (rk r) = some d → ∃ s, cls a b (RL a b) r = some s ∧ d = .str (runS s)
structure WI (a b : Th) (k : Nat) (p : List Bool) (kds : List (Key × D)) (ws : List (List Bool)) : Prop where
  nd : (kds.map (·.1)).Nodup
  ks : ∀ x ∈ kds.map (·.1), ∃ r, RunB a b r ∧ x = rk r
  wt : ∀ w ∈ ws, RunB a b w ∧ same a b p w
  m1 : ∀ r, RunB a b r → rk r ∈ kds.map (·.1) → (∃ s ∈ (RL a b).take k, same a b s r) ∨ same a b p r
  m2 : ∀ r, RunB a b r → (∃ s ∈ (RL a b).take k, same a b s r) → rk r ∈ kds.map (·.1)
  vl : ∀ r, RunB a b r → ∀ d, valD kds (rk r) = some d → ∃ s, cls a b (RL a b) r = some s ∧ d = .str (runS s)
  cl : ∀ r, RunB a b r → same a b p r → rk r ∈ kds.map (·.1) → ∀ u, TM.Ex1 (tris a b) r u → rk u ∈ kds.map (·.1) ∨ u ∈ ws
  st : rk p ∈ kds.map (·.1) ∨ p ∈ ws
theorem OI.start (a b : Th) : OI a b 0 [] := ⟨List.nodup_nil, by simp, fun r _ => by simp, fun r _ d h => by simp [valD] at h⟩
theorem keys_len {a b : Th} {kds : List (Key × D)} (nd : (kds.map (·.1)).Nodup) (ks : ∀ x ∈ kds.map (·.1), ∃ r, RunB a b r ∧ x = rk r) : kds.length ≤ (RL a b).length := by
  have := sub_len (m := (RL a b).map rk) nd fun x hx => by
    obtain ⟨r, R, rfl⟩ := ks x hx
    exact List.mem_map.mpr ⟨r, RL_mem.mpr R, rfl⟩
  simpa using this
/-- the run's class is there already -/
theorem OI.skip {a b : Th} {k : Nat} {kds : List (Key × D)} {p : List Bool} (h : OI a b k kds) (hp : (RL a b)[k]? = some p) (hk : rk p ∈ kds.map (·.1)) : OI a b (k + 1) kds := by
  have R := RL_mem.mp (List.mem_of_getElem? hp)
  refine ⟨h.nd, h.ks, fun r Rr => (h.mem r Rr).trans ?_, h.vl⟩
  rw [List.take_add_one, hp]
  constructor
  · rintro ⟨s, hs, e⟩
    exact ⟨s, List.mem_append_left _ hs, e⟩
  · rintro ⟨s, hs, e⟩
    rcases List.mem_append.mp hs with hs | hs
    · exact ⟨s, hs, e⟩
    · have : s = p := by simpa using hs
      subst this
      obtain ⟨s', hs', e'⟩ := (h.mem s R).mp hk
      exact ⟨s', hs', e'.trans e⟩
theorem OI.enter {a b : Th} {k : Nat} {kds : List (Key × D)} {p : List Bool} (h : OI a b k kds) (hp : (RL a b)[k]? = some p) (hk : rk p ∉ kds.map (·.1)) : WI a b k p kds [p] := by
  have R := RL_mem.mp (List.mem_of_getElem? hp)
  refine ⟨h.nd, h.ks, fun w hw => by rw [List.mem_singleton.mp hw]; exact ⟨R, rfl⟩, fun r Rr hr => .inl ((h.mem r Rr).mp hr), fun r Rr hr => (h.mem r Rr).mpr hr, h.vl, fun r Rr e hr => ?_, .inr (List.mem_singleton.mpr rfl)⟩
  obtain ⟨s, hs, e'⟩ := (h.mem r Rr).mp hr
  exact absurd ((h.mem p R).mpr ⟨s, hs, e'.trans e.symm⟩) hk
/-- a run is taken in -/
theorem WI.put {a b : Th} {k : Nat} {kds : List (Key × D)} {p w : List Bool} {ws ws' : List (List Bool)} (h : WI a b k p kds (ws ++ [w])) (va : Vd a) (vb : Vd b) (hp : (RL a b)[k]? = some p) (hn : ¬ ∃ s ∈ (RL a b).take k, same a b s p) (hk : valD kds (rk w) = none)
    (h1 : ∀ x ∈ ws, x ∈ ws') (h2 : ∀ x ∈ ws', x ∈ ws ∨ TM.Ex1 (tris a b) w x) (h3 : ∀ u, TM.Ex1 (tris a b) w u → u ∈ ws') : WI a b k p (putD kds (rk w) (.str (runS p))) ws' := by
  obtain ⟨Rw, ew⟩ := h.wt w (List.mem_append_right _ (List.mem_singleton.mpr rfl))
  have K := putD_keys kds (rk w) (.str (runS p))
  have nb : ∀ x, TM.Ex1 (tris a b) w x → RunB a b x ∧ same a b p x := fun x e => by
    have R' := e.run ((run_iff va vb).mp Rw)
    exact ⟨(run_iff va vb).mpr R', ew.trans (same_iff.mpr fun c hc => e.win hc)⟩
  refine ⟨putD_nodup _ h.nd hk, fun x hx => ?_, fun x hx => ?_, fun r Rr hr => ?_, fun r Rr hr => (K _).mpr (.inr (h.m2 r Rr hr)), fun r Rr d hd => ?_, fun r Rr e hr u eu => ?_, ?_⟩
  · rcases (K x).mp hx with rfl | hx
    · exact ⟨w, Rw, rfl⟩
    · exact h.ks x hx
  · rcases h2 x hx with hx | hx
    · exact h.wt x (List.mem_append_left _ hx)
    · exact nb x hx
  · rcases (K _).mp hr with e | hr
    · rw [rk_inj e]; exact .inr ew
    · exact h.m1 r Rr hr
  · rw [valD_putD] at hd
    by_cases e : rk r = rk w
    · rw [if_pos e] at hd
      cases hd
      have := rk_inj e
      subst this
      refine ⟨p, find_at hp (decide_eq_true ew) fun y hy => decide_eq_false fun z => hn ⟨y, hy, z.trans ew.symm⟩, rfl⟩
    · rw [if_neg e] at hd
      exact h.vl r Rr d hd
  · rcases (K _).mp hr with e2 | hr
    · have := rk_inj e2
      subst this
      exact .inr (h3 u eu)
    · rcases h.cl r Rr e hr u eu with q | q
      · exact .inl ((K _).mpr (.inr q))
      · rcases List.mem_append.mp q with q | q
        · exact .inr (h1 u q)
        · rw [List.mem_singleton.mp q]
          exact .inl ((K _).mpr (.inl rfl))
  · rcases h.st with q | q
    · exact .inl ((K _).mpr (.inr q))
    · rcases List.mem_append.mp q with q | q
      · exact .inr (h1 p q)
      · exact .inl ((K _).mpr (.inl (by rw [List.mem_singleton.mp q])))
theorem WI.pass {a b : Th} {k : Nat} {kds : List (Key × D)} {p w : List Bool} {ws : List (List Bool)} (h : WI a b k p kds (ws ++ [w])) (hk : rk w ∈ kds.map (·.1)) : WI a b k p kds ws := by
  refine ⟨h.nd, h.ks, fun x hx => h.wt x (List.mem_append_left _ hx), h.m1, h.m2, h.vl, fun r Rr e hr u eu => ?_, ?_⟩
  · rcases h.cl r Rr e hr u eu with q | q
    · exact .inl q
    · rcases List.mem_append.mp q with q | q
      · exact .inr q
      · rw [List.mem_singleton.mp q]; exact .inl hk
  · rcases h.st with q | q
    · exact .inl q
    · rcases List.mem_append.mp q with q | q
      · exact .inr q
      · rw [List.mem_singleton.mp q]; exact .inl hk
theorem WI.done {a b : Th} {k : Nat} {kds : List (Key × D)} {p : List Bool} (h : WI a b k p kds []) (va : Vd a) (vb : Vd b) (hp : (RL a b)[k]? = some p) : OI a b (k + 1) kds := by
  have R := RL_mem.mp (List.mem_of_getElem? hp)
  refine ⟨h.nd, h.ks, fun r Rr => ?_, h.vl⟩
  rw [List.take_add_one, hp]
  constructor
  · intro hr
    rcases h.m1 r Rr hr with ⟨s, hs, e⟩ | e
    · exact ⟨s, List.mem_append_left _ hs, e⟩
    · exact ⟨p, List.mem_append_right _ (by simp), e⟩
  · rintro ⟨s, hs, e⟩
    rcases List.mem_append.mp hs with hs | hs
    · exact h.m2 r Rr ⟨s, hs, e⟩
    · have : s = p := by simpa using hs
      subst this
      have ex := (TM.alike_iff (cons_ok va vb) ((run_iff va vb).mp R) ((run_iff va vb).mp Rr)).mpr (same_iff.mp e)
      have go : ∀ {x y : List Bool}, TM.Exs (tris a b) x y → RunB a b x → same a b s x → rk x ∈ kds.map (·.1) → rk y ∈ kds.map (·.1) := fun {x y} ex => by
        induction ex with
        | refl _ => exact fun _ _ h => h
        | step e1 _ ih =>
          intro Rx sx kx
          refine ih ((run_iff va vb).mpr (e1.run ((run_iff va vb).mp Rx))) (sx.trans (same_iff.mpr fun c hc => e1.win hc)) ?_
          rcases h.cl _ Rx sx kx _ e1 with q | q
          · exact q
          · cases q
      refine go ex R rfl ?_
      rcases h.st with q | q
      · exact q
      · cases q
/-- the exchanges of r at places below t are in ws -/
def Nbr (a b : Th) (r : List Bool) (t : Nat) (ws : List (List Bool)) : Prop := ∀ x y u v, r = x ++ u :: v :: y → x.length < t → u ≠ v → ¬ TM.Near (tris a b) (TM.ca x) (TM.cb x) → x ++ v :: u :: y ∈ ws
theorem ex1_of {cs : List TM.C} {x y : List Bool} {u v : Bool} (h : u ≠ v) (n : ¬ TM.Near cs (TM.ca x) (TM.cb x)) : TM.Ex1 cs (x ++ u :: v :: y) (x ++ v :: u :: y) := by
  cases u <;> cases v
  · exact absurd rfl h
  · exact .ft x y n
  · exact .tf x y n
  · exact absurd rfl h
theorem Nbr.all {a b : Th} {r : List Bool} {ws : List (List Bool)} (h : Nbr a b r (r.length - 1) ws) : ∀ u, TM.Ex1 (tris a b) r u → u ∈ ws := by
  intro u e
  cases e with
  | tf x y n => exact h x y true false rfl (by simp) (by decide) n
  | ft x y n => exact h x y false true rfl (by simp) (by decide) n
theorem split_at {r : List Bool} {t : Nat} (h : t + 1 < r.length) : ∃ x u v y, r = x ++ u :: v :: y ∧ x.length = t := by
  refine ⟨r.take t, r[t], r[t + 1], r.drop (t + 2), ?_, by rw [List.length_take]; omega⟩
  rw [← List.drop_eq_getElem_cons (by omega), ← List.drop_eq_getElem_cons (by omega), List.take_append_drop]
theorem Nbr.snoc {a b : Th} {r x y : List Bool} {u v : Bool} {ws ws' : List (List Bool)} (h : Nbr a b r x.length ws) (e : r = x ++ u :: v :: y) (hs : ∀ z ∈ ws, z ∈ ws') (hn : u ≠ v → ¬ TM.Near (tris a b) (TM.ca x) (TM.cb x) → x ++ v :: u :: y ∈ ws') : Nbr a b r (x.length + 1) ws' := by
  intro x' y' u' v' e' hl hu hne
  by_cases c : x'.length < x.length
  · exact hs _ (h x' y' u' v' e' c hu hne)
  · have el : x'.length = x.length := by omega
    rw [e] at e'
    obtain ⟨rfl, e2⟩ := List.append_inj e' el.symm
    simp at e2
    obtain ⟨rfl, rfl, rfl⟩ := e2
    exact hn hu hne
/-! readings -/
section
variable {K : PySem.W.Frag} {σ : L2.St} {es es' : List SV} {F B F' B' F0 B0 H : Hp} {ta tb te tx tc td : TE} {tt : TT} {d : D} {v : V} {i j n : Nat} {ms : List MO} {Dn : Ends} {R : Hp → V → Prop} {ds zs : List D} {mk : Addr → MO} {ti : TA}
theorem ev_dninT {a b : Th} {i j : Nat} (h1 : EvD K ta σ F B (.int (i : Nat))) (h2 : EvD K tb σ F B (.int (j : Nat))) (hd : EvR td σ F B (NearD a b)) : EvD K (tDNotIn (tTup (tCons ta (tCons tb tNil))) td) σ F B (.bool (!nearB a b i j)) := fun F1 H1 g Q q =>
  h1 F1 H1 g _ fun u F2 H2 g2 ku => h2 F2 H2 (g.trans g2) _ fun w F3 H3 g3 kw => ⟨by show 2 ≤ sizeLine; decide, fun p hp => by
    have g4 : Gr F3 H3 F3 (upd H3 p (.tup [u, w])) := Gr.mut g3.fh hp
    have g14 := ((g.trans g2).trans g3).trans g4
    refine hd F3 _ g14 _ fun x F5 H5 g5 kx => ?_
    obtain ⟨q', kvs, rfl, e1, e2⟩ := kx
    have ep : H5 p = some (.tup [u, w]) := g5.hh _ _ upd_same
    rw [dp_int ku, dp_int kw] at ep
    refine ⟨q', _, rfl, .inr ⟨kvs, [.inl (i : Int), .inl (j : Int)], p, .inl (g5.fh _ _ e1), rfl, ep, rfl⟩, q _ F5 H5 (((g2.trans g3).trans g4).trans g5) ?_⟩
    rw [e2]
    exact .bl _⟩
theorem en_if {b : Bool} (h : EvT tt σ F B b) (h1 : b = true → EvN K ta σ F B ds) (h2 : b = false → EvN K tb σ F B ds) : EvN K (tIf tt ta tb) σ F B ds := fun F1 H1 g Q q => h F1 H1 g _ fun F2 H2 g2 => by
  have q' : ∀ p vs F3 H3, Gr F2 H2 F3 H3 → H2 p = none → F3 p = none → H3 p = some (.lst vs) → DpAll K F3 vs ds → Q (.ref p) H3 := fun p vs F3 H3 g3 hp hf h3 k3 => q p vs F3 H3 (g2.trans g3) (g2.hh.free hp) hf h3 k3
  cases b with
  | true => exact (show ta σ H2 Q from h1 rfl F2 H2 (g.trans g2) Q q')
  | false => exact (show tb σ H2 Q from h2 rfl F2 H2 (g.trans g2) Q q')
theorem it_rngZ {z : Int} (h : EvA K ti σ F B [.int z]) (h0 : -1000 ≤ z) (h1 : z ≤ 100000) : ItrD K (iRng1 ti) σ F B (rngD 0 z.toNat) := fun F1 H1 g R k => h F1 H1 g _ fun vs F2 H2 g2 hv => by
  obtain ⟨v, us, rfl, h1', h2⟩ := dpa_cons hv
  rw [dpa_nil h2, dp_int h1']
  exact ⟨z, rfl, by omega, by omega, k _ F2 H2 g2 (yd_rng 0 z.toNat)⟩
theorem st_parRM (S : Sta K F0 B0 es ms F H σ) (hm : ∀ F F' v, Ex F F' → R F v → R F' v) (h1 : EvR ta σ F H R) (h2 : EvM K tb σ F H mk) (k : ∀ p F' H' σ', Sta K F0 B0 ((es.set i (.rel R)).set j (.val (.ref p))) (mk p :: ms) F' H' σ' → Dn.nx σ' H') (hmk : ∀ p, (mk p).ad = p := by intro _; rfl) : tPar i j (tCons ta (tCons tb tNil)) Dn σ H :=
  h1 F H (Gr.refl S.ex) _ fun v F1 H1 g1 kv => h2 F1 H1 g1 _ fun p F2 H2 g2 hp m2 => ⟨_, _, rfl, k p F2 H2 _ ((((S.grow g1).madeM hmk g2 hp m2).setR i hm (hm _ _ _ g2.ff kv)).setV j (.ref p))⟩
end
/-- a frozen dict of all runs, each with the first of its class -/
def ClsF (K : PySem.W.Frag) (a b : Th) (F : Hp) (v : V) : Prop := ∃ q kvs kds, v = .ref q ∧ F q = some (.dK kvs) ∧ KD K F kvs kds ∧ OI a b (RL a b).length kds
theorem ClsF.ex {K : PySem.W.Frag} {a b : Th} (F F' : Hp) (v : V) (e : Ex F F') (h : ClsF K a b F v) : ClsF K a b F' v := by
  obtain ⟨q, kvs, kds, h1, h2, h3, h4⟩ := h
  exact ⟨q, kvs, kds, h1, e _ _ h2, h3.ex e, h4⟩
end TT
/-! Clo -/
/-! The closed letters. -/
namespace TT
open PySem PySem.Spec PyProof.Rows L2
def allL : Nat → List (List Bool)
  | 0 => [[]]
  | n + 1 => (allL n).map (fun l => l ++ [true]) ++ (allL n).map (fun l => l ++ [false])
theorem allL_len : ∀ n, (allL n).length = 2 ^ n
  | 0 => rfl
  | n + 1 => by
    show ((allL n).map _ ++ (allL n).map _).length = _
    rw [List.length_append, List.length_map, List.length_map, allL_len n, Nat.pow_succ]
    omega
theorem allL_mem : ∀ {n : Nat} {l : List Bool}, l ∈ allL n ↔ l.length = n
  | 0, l => by
    show l ∈ [[]] ↔ _
    rw [List.mem_singleton, List.length_eq_zero_iff]
  | n + 1, l => by
    show l ∈ (allL n).map _ ++ (allL n).map _ ↔ _
    rw [List.mem_append, List.mem_map, List.mem_map]
    constructor
    · rintro (⟨k, hk, rfl⟩ | ⟨k, hk, rfl⟩) <;> simp [allL_mem.mp hk]
    · intro h
      rcases List.eq_nil_or_concat l with rfl | ⟨k, z, rfl⟩
      · cases h
      · rw [List.concat_eq_append] at h ⊢
        have hk : k ∈ allL n := allL_mem.mpr (by simpa using h)
        cases z
        · exact .inr ⟨k, hk, rfl⟩
        · exact .inl ⟨k, hk, rfl⟩
theorem allL_nodup : ∀ n, (allL n).Nodup
  | 0 => by simp [allL]
  | n + 1 => by
    have ih := allL_nodup n
    show ((allL n).map _ ++ (allL n).map _).Nodup
    refine List.nodup_append.mpr ⟨nodup_map_on (fun x _ y _ e => by simpa using e) ih, nodup_map_on (fun x _ y _ e => by simpa using e) ih, fun x hx y hy e => ?_⟩
    obtain ⟨k, _, rfl⟩ := List.mem_map.mp hx
    obtain ⟨m, _, rfl⟩ := List.mem_map.mp hy
    have := List.append_inj' e rfl
    simp at this
noncomputable def allLed (cs : List Ct) (l : List Bool) (i : Nat) : Bool := @decide (∀ j ∈ led cs i, l[j]? = some true) (Classical.propDecidable _)
theorem allLed_iff {cs : List Ct} {l : List Bool} {i : Nat} : allLed cs l i = true ↔ ∀ j ∈ led cs i, l[j]? = some true := @decide_eq_true_iff _ (Classical.propDecidable _)
noncomputable def goodL (cs : List Ct) : List (List Bool) := (allL cs.length).filter fun l => (pl true l).all (allLed cs l)
theorem plF_mem (x : Bool) : ∀ (r : List Bool) (k p : Nat), p ∈ plF x k r ↔ ∃ i, p = k + i ∧ r[i]? = some x
  | [], k, p => by simp [plF]
  | y :: r, k, p => by
    have ih := plF_mem x r (k + 1) p
    unfold plF
    by_cases h : y = x
    · rw [if_pos h, List.mem_cons, ih]
      constructor
      · rintro (rfl | ⟨i, rfl, hi⟩)
        · exact ⟨0, rfl, by simp [h]⟩
        · exact ⟨i + 1, by omega, by simpa using hi⟩
      · rintro ⟨i, rfl, hi⟩
        cases i with
        | zero => exact .inl rfl
        | succ i => exact .inr ⟨i, by omega, by simpa using hi⟩
    · rw [if_neg h, ih]
      constructor
      · rintro ⟨i, rfl, hi⟩
        exact ⟨i + 1, by omega, by simpa using hi⟩
      · rintro ⟨i, rfl, hi⟩
        cases i with
        | zero => simp at hi; exact absurd hi h
        | succ i => exact ⟨i, by omega, by simpa using hi⟩
theorem pl_mem {x : Bool} {r : List Bool} {p : Nat} : p ∈ pl x r ↔ r[p]? = some x := by
  unfold pl
  rw [plF_zip, plF_mem]
  simp
theorem good_mem {cs : List Ct} {l : List Bool} : l ∈ goodL cs ↔ l.length = cs.length ∧ ∀ i j, l[i]? = some true → j ∈ led cs i → l[j]? = some true := by
  unfold goodL
  rw [List.mem_filter, allL_mem, List.all_eq_true]
  constructor
  · rintro ⟨h1, h2⟩
    exact ⟨h1, fun i j hi hj => allLed_iff.mp (h2 i (pl_mem.mpr hi)) j hj⟩
  · rintro ⟨h1, h2⟩
    exact ⟨h1, fun i hi => allLed_iff.mpr fun j hj => h2 i j (pl_mem.mp hi) hj⟩
theorem good_nodup (cs : List Ct) : (goodL cs).Nodup := (allL_nodup _).filter _
/-- closed letters are the winners of runs -/
theorem good_win {a b : Th} (va : Vd a) (vb : Vd b) {l : List Bool} : l ∈ goodL (cons a b) ↔ ∃ r ∈ RL a b, winL (cons a b) r = l := by
  rw [good_mem]
  have fe : ∀ x y : Ct, forcesB x y = TM.forces (tri x) (tri y) := fun x y => rfl
  constructor
  · rintro ⟨hl, hc⟩
    let w : TM.C → Bool := fun t => @decide (∃ i : Nat, (tris a b)[i]? = some t ∧ l[i]? = some true) (Classical.propDecidable _)
    have hw : ∀ t, w t = true ↔ ∃ i : Nat, (tris a b)[i]? = some t ∧ l[i]? = some true := fun t => @decide_eq_true_iff _ (Classical.propDecidable _)
    have at_ : ∀ {i : Nat} {t : TM.C}, (tris a b)[i]? = some t → ∃ c, (cons a b)[i]? = some c ∧ tri c = t := fun {i t} h => by
      unfold tris at h
      rw [List.getElem?_map] at h
      exact Option.map_eq_some_iff.mp h
    have go : ∀ {i j : Nat} {c d : TM.C}, (tris a b)[i]? = some c → (tris a b)[j]? = some d → TM.forces c d = true → l[i]? = some true → l[j]? = some true := fun {i j c d} h1 h2 hf hi => by
      obtain ⟨c', h1', rfl⟩ := at_ h1
      obtain ⟨d', h2', rfl⟩ := at_ h2
      exact hc i j hi (led_mem.mpr ⟨(List.getElem?_eq_some_iff.mp h2').1, Rch.refl.step ⟨c', d', h1', h2', hf⟩⟩)
    have idx : ∀ {i : Nat} {t : TM.C}, (tris a b)[i]? = some t → (w t = true ↔ l[i]? = some true) := fun {i t} h => by
      rw [hw]
      constructor
      · rintro ⟨j, h1, h2⟩
        obtain ⟨c, _, rfl⟩ := at_ h
        have ok := cons_ok va vb (tri c) (List.mem_of_getElem? h)
        refine go h1 h ?_ h2
        obtain ⟨_, _, o⟩ := ok
        unfold TM.forces
        rw [Bool.and_eq_true, decide_eq_true_iff, decide_eq_true_iff]
        omega
      · intro h2
        exact ⟨i, h, h2⟩
    obtain ⟨r, R, hr⟩ := TM.closed_run (w := w) (cons_ok va vb) fun c hc' d hd' hf h => by
      obtain ⟨i, hi⟩ := List.getElem?_of_mem hc'
      obtain ⟨j, hj⟩ := List.getElem?_of_mem hd'
      exact (idx hj).mpr (go hi hj hf ((idx hi).mp h))
    refine ⟨r, RL_mem.mpr ((run_iff va vb).mpr R), ?_⟩
    apply List.ext_getElem?
    intro i
    unfold winL
    rw [List.getElem?_map]
    cases h : (cons a b)[i]? with
    | none =>
      have : l[i]? = none := List.getElem?_eq_none (by have := List.getElem?_eq_none_iff.mp h; omega)
      rw [this]; rfl
    | some c =>
      have ht : (tris a b)[i]? = some (tri c) := by unfold tris; rw [List.getElem?_map, h]; rfl
      have e := hr (tri c) (List.mem_of_getElem? ht)
      show some (TM.win r (tri c)) = _
      rw [e]
      have hil : i < l.length := by have := (List.getElem?_eq_some_iff.mp h).1; omega
      rw [List.getElem?_eq_getElem hil]
      congr 1
      have q := idx ht
      rw [List.getElem?_eq_getElem hil] at q
      cases c1 : l[i] with
      | true => exact q.mpr (by rw [c1])
      | false =>
        cases c2 : w (tri c) with
        | false => rfl
        | true =>
          have := q.mp c2
          rw [c1] at this
          cases this
  · rintro ⟨r, hr, rfl⟩
    have R := (run_iff va vb).mp (RL_mem.mp hr)
    refine ⟨by unfold winL; rw [List.length_map], fun i j hi hj => ?_⟩
    have wa : ∀ {k : Nat} {c : Ct}, (cons a b)[k]? = some c → (winL (cons a b) r)[k]? = some (TM.win r (tri c)) := fun {k c} h => by unfold winL; rw [List.getElem?_map, h]; rfl
    have r2 := (led_mem.mp hj).2
    clear hj
    induction r2 with
    | refl => exact hi
    | @step x y _ e ih =>
      obtain ⟨c, d, h1, h2, hf⟩ := e
      have t1 := ih
      rw [wa h1] at t1
      rw [wa h2]
      congr 1
      exact R.forced (c := tri c) (List.mem_map.mpr ⟨d, List.mem_of_getElem? h2, rfl⟩) (cons_ok va vb _ (List.mem_map.mpr ⟨d, List.mem_of_getElem? h2, rfl⟩)) hf (by simpa using t1)
/-! readings -/
section
variable {K : PySem.W.Frag} {σ : L2.St} {es : List SV} {F B F0 B0 H : Hp} {ms0 : List MO} {es0 : List SV} {tb : TS} {Dn : Ends} {te : TE} {n : Nat} {l : Addr} {us : List V}
/-- for x in xs, by the list's own values -/
theorem for_L (S : Sta K F0 B0 es0 ms0 F H σ) (hv : EvV te σ F H (.ref l)) (hl : F l = some (.lst us)) (I : Nat → List SV → List MO → Prop) (h0 : I 0 es0 ms0)
    (hs : ∀ Fb Bb, Gr F0 B0 Fb Bb → ∀ i v es ms F1 H1 σ1, us[i]? = some v → I i es ms → Ex F F1 → Sta K Fb Bb es ms F1 H1 σ1 → ∀ σ2, Sta K Fb Bb (es.set n (.val v)) ms F1 H1 σ2 → tb { Dn with nx := NX K Fb Bb (I (i + 1)), ct := NX K Fb Bb (I (i + 1)), bk := Dn.nx } σ2 H1)
    (hd : ∀ es ms F1 H1 σ1, I us.length es ms → Sta K F0 B0 es ms F1 H1 σ1 → Dn.nx σ1 H1) : tFor (iList K te) (gName n) tb Dn σ H :=
  hv F H (Gr.refl S.ex) _ fun F2 H2 g2 => by
    refine ⟨l, rfl, ⟨us, SqL.of (g2.fh _ _ (g2.ff _ _ hl))⟩, ?_⟩
    obtain ⟨gb, Sb⟩ := (S.grow g2).down
    refine ⟨fun i m σ' H' => m = us.length - i ∧ i ≤ us.length ∧ NX K F2 (dels H2 ms0) (I i) σ' H', ⟨us.length, by simp, Nat.zero_le _, es0, ms0, F2, h0, Sb⟩, ?_⟩
    rintro i m σ' H' ⟨rfl, hi, es, ms, F', hI, S'⟩
    have e : Ex F F' := g2.ff.trans S'.gr.ff
    have hl' : H' l = some (.lst us) := S'.ex _ _ (e _ _ hl)
    by_cases hlt : i < us.length
    · refine .inr ⟨⟨us, us[i], SqL.of hl', by simp [hlt]⟩, NX K F2 (dels H2 ms0) (I (i + 1)), fun σ3 H3 q => ⟨us.length - (i + 1), by omega, rfl, hlt, q⟩, fun x H3 hy => ?_⟩
      obtain ⟨rfl, hy⟩ := hy
      have hx := hy us (SqL.of hl')
      exact hs F2 _ gb i x es ms F' _ σ' hx hI e S' _ (S'.setV n x)
    · have e' : i = us.length := by omega
      subst e'
      exact .inl ⟨⟨us, SqL.of hl', Nat.le_refl _⟩, hd es ms F' H' σ' hI (S'.up gb)⟩
/-- all([letters[x] == 'a' for x in led[at]]) -/
theorem rd_led {cs : List Ct} {L : List Bool} {i : Nat} (so : SO K F σ es) (h9 : es.length = 9) {R : Hp → V → Prop} (hR : ∀ F v, R F v → LedL cs F v) (h0 : es[0]? = some (.rel R)) (h6 : es[6]? = some (.dat (.int (i : Nat)))) (h4 : es[4]? = some (.dat (.str (runS L)))) (hi : i < cs.length) (hL : L.length = cs.length) (hz : cs.length ≤ 1000) :
    EvD K (tCB (rAll K) (tCons (tLockE (tLc (iKeys (tOp (rIxL K) (tVar 0) (tVar 6))) (gName 8) tYes (tOp rEq (tOp rIxS (tVar 4) (tVar 8)) (tC (.str "a"))) [8])) tNil)) σ F B (.bool (allLed cs L i)) := fun F1 H1 g1 Q q => by
  obtain ⟨v0, e0, kR, _⟩ := so.rel h0
  obtain ⟨l, us, rfl, fl, pr⟩ := hR _ _ kR
  obtain ⟨v6, e6, k6⟩ := so.dat h6
  obtain ⟨v4, e4, k4⟩ := so.dat h4
  rw [dp_int k6] at e6
  rw [dp_str k4] at e4
  obtain ⟨v, hv, q2, kvs, rfl, f2, nd, hk⟩ := pr_get pr (i := i) (b := i) (by rw [List.getElem?_range hi])
  have e1 : Ex F H1 := g1.ff.trans g1.fh
  have hl : σ.length = 9 := by rw [so.len, h9]
  have nl : l ≠ q2 := fun z => by rw [z, f2] at fl; cases fl
  refine ⟨q2, .dK kvs, e1 _ _ f2, trivial, fun od => ?_⟩
  have hl2 : upd H1 q2 (.frz od (.dK kvs)) q2 = some (.frz od (.dK kvs)) := upd_same
  have hln : ∀ a, a ≠ q2 → upd H1 q2 (.frz od (.dK kvs)) a = H1 a := fun a h => upd_ne h
  generalize upd H1 q2 (.frz od (.dK kvs)) = Hl at hl2 hln ⊢
  refine ⟨.ref l, e0, .int (i : Nat), e6, l, us, (i : Int), .ref q2, rfl, rfl, SqL.of (by rw [hln _ nl]; exact e1 _ _ fl), atI_nat hv, q2, od, rfl, .inl ⟨kvs, hl2, fun Dl hD => ?_⟩⟩
  have nD : Dl ≠ q2 := fun z => by rw [z, hl2] at hD; cases hD
  have hD1 : H1 Dl = none := by rw [hln _ nD] at hD; exact hD
  let fx : Key × V → Bool := fun x => match x.1 with
    | .inl j => decide (L[j.toNat]? = some true)
    | .inr _ => false
  let bs : Nat → List Bool := fun i => (kvs.take i).map fx
  have hlen : kvs.length ≤ cs.length := by
    have := sub_len (m := (led cs i).map fun j : Nat => (Sum.inl (j : Int) : Key)) nd fun x hx => by
      obtain ⟨j, rfl, hj⟩ := (hk x).mp hx
      exact List.mem_map.mpr ⟨j, hj, rfl⟩
    rw [List.length_map, List.length_map] at this
    have h2 : (led cs i).length ≤ cs.length := by unfold led; exact Nat.le_trans (List.length_filter_le _ _) (by rw [List.length_range]; exact Nat.le_refl _)
    omega
  have eA : ("a" : Str) = chr (cd true) := by decide +kernel
  refine lc_it (n := kvs.length) walk_keys (fun i H => H = upd Hl Dl (.lst ((bs i).map V.bl))) rfl (fun i H _ e => by rw [e, upd_ne nD.symm, hl2]) ?_ ?_
  · rintro t x H H' ht rfl ⟨rfl, k, v, hkt, rfl⟩
    refine ⟨(wipe_setx _ (by simp)).trans (wipe_wipe [8]), ?_⟩
    have s8 : ((wipe σ [8]).set 8 (some (kV k)))[8]? = some (some (kV k)) := List.getElem?_set_self (by rw [wipe_length]; omega)
    have s4 : ((wipe σ [8]).set 8 (some (kV k)))[4]? = some (some (.str (runS L))) := by rw [List.getElem?_set_ne (by decide), wipe_out (by decide)]; exact e4
    obtain ⟨j, ej, hj⟩ := (hk k).mp (List.mem_map.mpr ⟨(k, v), List.mem_of_getElem? hkt, rfl⟩)
    subst ej
    have hjl : j < L.length := by rw [hL]; exact (led_mem.mp hj).1
    have tk : kvs.take (t + 1) = kvs.take t ++ [(.inl (j : Int), v)] := by rw [List.take_add_one, hkt]; rfl
    have tyes : ∀ (s : L2.St) (h : Hp) (Q : Bool → Hp → Prop), Q true h → tYes s h Q := fun _ _ _ q => q
    refine tyes _ _ _ ?_
    refine iteT ?_
    have ac : atI (runS L).cps.toList ((j : Nat) : Int) = some (cd L[j]) := atI_nat (by show (L.map cd)[j]? = _; rw [List.getElem?_map, List.getElem?_eq_getElem hjl]; rfl)
    refine ⟨_, s4, _, s8, runS L, (j : Int), cd L[j], rfl, rfl, by rw [runS_len]; exact Nat.le_trans (by omega) (show 1000 ≤ sizeLine by decide), ac, rfl, ?_⟩
    refine ⟨_, upd_same, ?_, ?_⟩
    · rw [List.length_map]
      refine Nat.lt_of_le_of_lt ?_ (show 1000 < sizeLine by decide)
      show ((kvs.take t).map fx).length ≤ _
      rw [List.length_map, List.length_take]
      omega
    · have hb : bs (t + 1) = bs t ++ [decide (L[j]? = some true)] := by
        show (kvs.take (t + 1)).map fx = _
        rw [tk, List.map_append]
        have : fx (Sum.inl (j : Int), v) = decide (L[j]? = some true) := by show decide (L[((j : Nat) : Int).toNat]? = some true) = _; rw [Int.toNat_natCast]
        simp only [List.map_cons, List.map_nil, this]
        rfl
      have hd : decide (V.str (⟨#[cd L[j]]⟩ : Str) = V.str "a") = decide (L[j]? = some true) := by
        rw [dec_vstr, eA, List.getElem?_eq_getElem hjl]
        have := chr_eq L[j] true
        rw [show (⟨#[cd L[j]]⟩ : Str) = chr (cd L[j]) from rfl, this]
        simp
      rw [hb, hd]
      funext a
      by_cases z : a = Dl
      · rw [z, upd_same, upd_same]; simp
      · rw [upd_ne z, upd_ne z, upd_ne z]
  · rintro H rfl
    refine ⟨by rw [upd_ne nD.symm, hl2], Dl, bs kvs.length, rfl, SqL.of (by rw [upd_ne nD, upd_same]), ?_⟩
    have gf : Gr F1 H1 F1 (upd (upd Hl Dl (.lst ((bs kvs.length).map V.bl))) q2 (.dK kvs)) := by
      have hx : Ex H1 (upd (upd Hl Dl (.lst ((bs kvs.length).map V.bl))) q2 (.dK kvs)) := fun a o e => by
        by_cases z : a = q2
        · subst z
          rw [upd_same]
          rw [e1 _ _ f2] at e
          exact e
        · rw [upd_ne z, upd_ne (ne_of_none e hD1), hln _ z]
          exact e
      exact ⟨Ex.refl _, g1.fh.trans hx, hx, fun _ _ => rfl⟩
    refine q _ F1 _ gf ?_
    have fin : (bs kvs.length).all id = allLed cs L i := by
      show ((kvs.take kvs.length).map fx).all id = _
      rw [List.take_length, Bool.eq_iff_iff, allLed_iff, List.all_eq_true]
      constructor
      · intro h j hj
        obtain ⟨x, hx, ex⟩ := List.mem_map.mp ((hk (.inl (j : Int))).mpr ⟨j, rfl, hj⟩)
        have := h (fx x) (List.mem_map.mpr ⟨x, hx, rfl⟩)
        have e2 : fx x = decide (L[j]? = some true) := by
          show (match x.1 with | .inl j => decide (L[j.toNat]? = some true) | .inr _ => false) = _
          rw [ex]
          rfl
        rw [e2] at this
        exact of_decide_eq_true this
      · intro h b hb
        obtain ⟨x, hx, rfl⟩ := List.mem_map.mp hb
        obtain ⟨j, ej, hj⟩ := (hk x.1).mp (List.mem_map.mpr ⟨x, hx, rfl⟩)
        have e2 : fx x = decide (L[j]? = some true) := by
          show (match x.1 with | .inl j => decide (L[j.toNat]? = some true) | .inr _ => false) = _
          rw [ej]
          rfl
        show fx x = true
        rw [e2]
        exact decide_eq_true (h j hj)
    show Dp K F1 (.bl ((bs kvs.length).all id)) _
    rw [fin]
    exact .bl _
end
end TT
/-! D__law_turned -/
namespace TT
open PySem PySem.Spec PyProof.Rows L2 C8
def sp__law_turned (K : PySem.W.Frag) : Sp := SpF K fun ds d => ∃ (x y : List Bool) (u v : Bool), x.length + y.length ≤ 1000 ∧ ds = [.str (runS (x ++ u :: v :: y)), .int (x.length : Nat)] ∧ d = .str (runS (x ++ v :: u :: y))
theorem len__law_turned {K : PySem.W.Frag} : ∀ vs H Q E, sp__law_turned K vs H Q E → vs.length = 2 := spF_len (by rintro _ _ ⟨x, y, u, v, _, rfl, _⟩; rfl)
theorem runS_take (r : List Bool) (k : Nat) : Txt.slice (runS r) none (some (k : Int)) = runS (r.take k) := by
  unfold runS
  rw [SX.slice_to (by omega), Int.toNat_natCast, List.map_take]
theorem runS_drop (r : List Bool) (k : Int) (h : 0 ≤ k) : Txt.slice (runS r) (some k) none = runS (r.drop k.toNat) := by
  unfold runS
  rw [SX.slice_from h, List.map_drop]
theorem runS_at (r : List Bool) (k : Nat) (u : Bool) (h : r[k]? = some u) : atI (runS r).cps.toList (k : Int) = some (cd u) := by
  refine atI_nat ?_
  show (r.map cd)[k]? = _
  rw [List.getElem?_map, h]
  rfl
abbrev N__law_turned : List Str := ["_law_run", "_law_place"]
theorem sc__law_turned : FnScope N__law_turned ["_law_run", "_law_place"] (C8.fnScope st__law_turned) := C8.fnScope_by (by decide +kernel)
theorem c__law_turned {P : Program} {w : World} {K : PySem.W.Frag} {mg : Str → Option Value} {base : Heap} (T : Txt K mg) : C8.Cal P w K mg base 1 "_law_turned" (sp__law_turned K) [] := by
  obtain ⟨f, fd, Fd, df⟩ := T.d__law_turned
  refine C8.cal0 Fd (Fd.fn.binds df (ps := ["_law_run", "_law_place"]) (fun _ _ _ _ _ _ us hl => match us, hl with | [_, _], _ => rfl)) .nil sc__law_turned len__law_turned fun cdv A outer s H vs Q E hr hsp => ?_
  have hu := hu_of hr
  have nd := (sc__law_turned).nd
  refine ⟨_, (pss_one (ps_ret (pe_op op_add_str (pe_op op_add_str (pe_op op_add_str (pe_slice C8.sl_txt (pv 0) po_none (po_some (pv 1))) (pe_ix ix_str (pv 0) (pe_op op_add (pv 1) pe_int) (fun _ _ => rfl))) (pe_ix ix_str (pv 0) (pv 1) (fun _ _ => rfl))) (pe_slice C8.sl_txt (pv 0) (po_some (pe_op op_add (pv 1) pe_int)) po_none)))), ?_⟩
  obtain ⟨F, ds, d, e0, hd, ⟨x, y, u, w, hz, rfl, rfl⟩, q⟩ := hsp
  have S : Sta K F H [.dat (.str (runS (x ++ u :: w :: y))), .dat (.int (x.length : Nat))] [] F H (L2.start N__law_turned vs) := Sta.begin 0 e0 hd
  have so := S.so
  have hl : (runS (x ++ u :: w :: y)).length ≤ 100000 := by rw [runS_len]; simp; omega
  have h1 : atI (runS (x ++ u :: w :: y)).cps.toList ((x.length : Int) + 1) = some (cd w) := by
    rw [show (x.length : Int) + 1 = ((x.length + 1 : Nat) : Int) by omega]
    exact runS_at _ _ _ (by simp)
  have h0 : atI (runS (x ++ u :: w :: y)).cps.toList (x.length : Int) = some (cd u) := runS_at _ _ _ (by simp)
  have s1 : Txt.slice (runS (x ++ u :: w :: y)) none (some (x.length : Int)) = runS x := by rw [runS_take]; simp
  have s2 : Txt.slice (runS (x ++ u :: w :: y)) (some ((x.length : Int) + 2)) none = runS y := by
    rw [runS_drop _ _ (by omega), show ((x.length : Int) + 2).toNat = x.length + 2 by omega]
    rw [List.drop_append, List.drop_eq_nil_of_le (by omega)]
    simp [show x.length + 2 - x.length = 2 by omega]
  have c1 : ∀ z : Bool, (⟨#[cd z]⟩ : Str) = runS [z] := fun z => rfl
  have b1 : (runS x).length = x.length := runS_len x
  have b2 : (runS y).length = y.length := runS_len y
  refine st_ret S (EvD.eq (ev_op (EvD.eq (ev_op (EvD.eq (ev_op (EvD.eq (ev_slS (ev_var so rfl) eo_none (eo_some (ev_var so rfl)) hl) (congrArg PyData.str s1)) (EvD.eq (ev_op (ev_var so rfl) (ev_op (ev_var so rfl) (ev_int _) r2_I0) (r2_ixS hl h1)) (congrArg PyData.str (c1 w))) (r2_addS ?_)) (congrArg PyData.str (runS_app _ _))) (EvD.eq (ev_op (ev_var so rfl) (ev_var so rfl) (r2_ixS hl h0)) (congrArg PyData.str (c1 u))) (r2_addS ?_)) (congrArg PyData.str (runS_app _ _))) (EvD.eq (ev_slS (ev_var so rfl) (eo_some (ev_op (ev_var so rfl) (ev_int _) r2_I0)) eo_none hl) (congrArg PyData.str s2)) (r2_addS ?_)) ?_) q
  · rw [runS_len, runS_len]; simp; omega
  · rw [runS_len, runS_len]; simp; omega
  · rw [runS_len, runS_len]; simp; omega
  · rw [runS_app]; simp
end TT
/-! D__law_parts -/
namespace TT
open PySem PySem.Spec PyProof.Rows L2 C8
def sp__law_parts (K : PySem.W.Frag) : Sp := SpN K fun ds zs => ∃ t : Th, Vd t ∧ ds = [thD t] ∧ zs = (parts t).map seD
theorem len__law_parts {K : PySem.W.Frag} : ∀ vs H Q E, sp__law_parts K vs H Q E → vs.length = 1 := spN_len (by rintro _ _ ⟨a, _, rfl, _⟩; rfl)
abbrev N__law_parts : List Str := ["_law_thread_here", "_law_found", "_law_begin", "_law_word", "_law_name", "_law_ends", "_law_end"]
theorem sc__law_parts : FnScope N__law_parts ["_law_thread_here"] (C8.fnScope st__law_parts) := C8.fnScope_by (by decide +kernel)
theorem c__law_parts {P : Program} {w : World} {K : PySem.W.Frag} {mg : Str → Option Value} {base : Heap} (T : Txt K mg) : C8.Cal P w K mg base 1 "_law_parts" (sp__law_parts K) [] := by
  obtain ⟨f, fd, Fd, df⟩ := T.d__law_parts
  refine C8.cal0 Fd (Fd.fn.binds df (ps := ["_law_thread_here"]) (fun _ _ _ _ _ _ us hl => match us, hl with | [_], _ => rfl)) .nil sc__law_parts len__law_parts fun cdv A outer s H vs Q E hr hsp => ?_
  have hu := hu_of hr
  have nd := (sc__law_parts).nd
  refine ⟨_, (pss_cons (ps_set (i := 1) nd (by rfl) (by first | exact Or.inl rfl | exact Or.inr rfl) (pe_lst pa_nil))
  (pss_cons (ps_for PassesOwn.never rfl (kpi_enumT (K := K) (by rfl) (by rfl) (by rfl) T.b_enumerate (pa_cons (pv 0) pa_nil)) (kpg_tup (K := K) (n := 2) (by rfl) (by rfl) (pgs_cons (pg_name (i := 2) nd (by rfl) (by first | exact Or.inl rfl | exact Or.inr rfl)) (pgs_cons (kpg_tup (K := K) (n := 2) (by rfl) (by rfl) (pgs_cons (pg_name (i := 3) nd (by rfl) (by first | exact Or.inl rfl | exact Or.inr rfl)) (pgs_cons (pg_name (i := 4) nd (by rfl) (by first | exact Or.inl rfl | exact Or.inr rfl)) pgs_nil))) pgs_nil)))
   (pss_one (ps_if (pt_cmpR (kin (K := K) (by rfl)) (pv 3) (pe_tup (pa_cons pe_str (pa_cons pe_str pa_nil))) (by rfl))
   (pss_cons (ps_setLc (i := 5) (own := [("_law_end", 6)]) (by rfl) nd (by rfl) (by rfl) (sw_true rfl rfl rfl (by decide +kernel)) (pi_range2 (by rfl) T.b_range (pa_cons (pv 2) (pa_cons (pe_callB (kc_len (K := K) (by rfl)) (by rfl) T.b_len (by decide +kernel) (pa_cons (pv 0) pa_nil)) pa_nil))) (blkOk_by (by kernel_rfl)) (fun _ _ _ _ _ => (pg_name (i := 6) nd (by rfl) (by first | exact Or.inl rfl | exact Or.inr rfl))) (fun _ _ _ _ _ => (pts_one (pt_cmpR (keqD (K := K) (by rfl) hr.units) (pe_ix (kix_tup (K := K) (by rfl)) (pv 0) (pv 6) (fun _ _ => rfl)) (pe_tup (pa_cons pe_str (pa_cons (pv 4) pa_nil))) (nomark _)))) (fun _ _ _ _ _ => (pv 6)))
  (pss_one (ps_expr (kbm (K := K) (by rfl) PySem.F.plainAttrs_list PySem.F.slot_list_append PySem.F.type_list_append mt_append (pv 1) (pa_cons (pe_tup (pa_cons (pv 2) (pa_cons (pe_ix (kix_list (K := K) (by rfl)) (pv 5) pe_int (fun _ _ => rfl)) (pa_cons (pv 3) (pa_cons (pv 4) pa_nil))))) pa_nil)))))
   pss_nil)))
  (pss_one (ps_ret (pv 1))))), ?_⟩
  obtain ⟨F, ds, zs, e0, hd, ⟨t, vd, rfl, rfl⟩, q⟩ := hsp
  have S : Sta K F H [.dat (thD t), .un, .un, .un, .un, .un, .un] [] F H (L2.start N__law_parts vs) := Sta.begin 6 e0 hd
  have hz := vd.len
  refine st_setN S (en_lst ea_nil) fun pf F1 H1 σ1 S1 => ?_
  have so := S1.so
  refine for_A t.zipIdx (fun p => .tuple [.int (p.2 : Nat), stD p.1]) S1 (it_enumT (ea_cons (ev_var so rfl) ea_nil)) (enumD_map t stD)
    (fun i es ms => es = [.dat (thD t), .val (.ref pf), .un, .un, .un, .un, .un] ∧ ms = [.lst pf (((List.range i).filterMap (prtAt t)).map seD)]) ⟨rfl, rfl⟩ ?_ ?_
  · rintro Fb Bb gb i s es ms F2 H2 σ2 hi ⟨rfl, rfl⟩ S2
    rw [List.getElem?_zipIdx] at hi
    obtain ⟨⟨w, m⟩, ht, rfl⟩ := Option.map_eq_some_iff.mp hi
    have hil : i < t.length := (List.getElem?_eq_some_iff.mp ht).1
    refine ⟨_, _, (tg_tup (tgs_cons tg_name (tgs_cons (tg_tup (tgs_cons tg_name (tgs_cons tg_name tgs_nil))) tgs_nil))), fun σ3 S3 => ?_⟩
    have so := S3.so
    refine st_if S3 (et_test (ev_op (ev_var so rfl) (ev_tup (ea_cons (ev_str _) (ea_cons (ev_str _) ea_nil))) (r2_inT (ns := ["lock", "share"])))) (fun hb F4 H4 S4 => ?_) (fun hb F4 H4 S4 => ?_)
    · have so := S4.so
      have hl : isL w = true := hb
      have e0i : ((0 + i : Nat) : Int) = (i : Nat) := by omega
      refine st_set S4 (EvN.toD (en_lcA (List.range (t.length - i)) (fun k => .int ((i + k : Nat) : Int)) so (it_rng2 (lo := i) (n := t.length - i) (ea_cons (EvD.eq (ev_var so rfl) (congrArg PyData.int e0i)) (ea_cons (ev_cb (ea_cons (ev_var so rfl) ea_nil) rc_lenT) ea_nil)) (by rw [List.length_map]; omega) (by omega)) rfl (fun k => decide (t[i + k]? = some (("free" : Str), m))) (fun k => .int ((i + k : Nat) : Int)) _ (by rw [List.length_range]; omega) (fun _ _ => tg_name) (by decide) (fun k hk F5 H5 σ5 g5 so5 => ?tst) (fun k hk _ F5 H5 σ5 g5 so5 => (ev_var so5 rfl)))) fun F5 H5 σ5 S5 => ?_
      case tst =>
        have hk' : i + k < t.length := by have := List.mem_range.mp hk; omega
        have hg : t[i + k]? = some t[i + k] := List.getElem?_eq_getElem hk'
        have ha : atI (t.map stD) ((i + k : Nat) : Int) = some (stD t[i + k]) := atI_nat (by rw [List.getElem?_map, hg]; rfl)
        have o1 := vd.ok _ (List.mem_of_getElem? hg)
        have o2 := vd.ok _ (List.mem_of_getElem? ht)
        have sh : ∀ x y : Str, PyData.strOk x = true → PyData.strOk y = true → SeqAt.shaped (.tuple [.str x, .str y]) = true := fun x y h1 h2 => (shaped_strs (ns := [x, y]) (by simp [h1, h2])).2
        refine EvT.eq (et_test (ev_op (ev_op (ev_var so5 rfl) (ev_var so5 rfl) (r2_ixT ha)) (ev_tup (ea_cons (ev_str _) (ea_cons (ev_var so5 rfl) ea_nil))) (r2_eqD (sh _ _ o1.1 o1.2) (sh _ _ (by decide +kernel) o2.2)))) ?_
        rw [hg]
        obtain ⟨x, y⟩ := t[i + k]
        simp [PyData.eqv, PyData.eqvAll]
        rw [Bool.beq_eq_decide_eq, Bool.beq_eq_decide_eq]
      have so := S5.so
      obtain ⟨e, he⟩ := ends_some vd ht hl
      have he2 : (((List.range (t.length - i)).filter fun k => decide (t[i + k]? = some (("free" : Str), m))).map fun k => PyData.int ((i + k : Nat) : Int))[0]? = some (.int (e : Nat)) := by
        have : (ends t i m)[0]? = some e := by rw [← List.head?_eq_getElem?]; exact he
        unfold ends at this
        rw [List.getElem?_map] at this ⊢
        obtain ⟨k, hk, hk2⟩ := Option.map_eq_some_iff.mp this
        rw [hk, ← hk2]
        rfl
      refine st_app (j := 0) S5 rfl rfl (ev_tup (ea_cons (ev_var so rfl) (ea_cons (ev_op (ev_var so rfl) (ev_int _) (r2_ixL (atI_nat (j := 0) he2))) (ea_cons (ev_var so rfl) (ea_cons (ev_var so rfl) ea_nil))))) ?_ fun F6 H6 S6 => ?_
      · rw [List.length_map]
        have := List.length_filterMap_le (prtAt t) (List.range i)
        rw [List.length_range] at this
        omega
      · refine NX.of (S6.weak (es' := [.dat (thD t), .val (.ref pf), .un, .un, .un, .un, .un]) (by repeat (first | exact .nil | refine .cons (by first | exact trivial | rfl) ?_))) ⟨rfl, ?_⟩
        rw [List.range_succ, List.filterMap_append]
        have : prtAt t i = some ⟨i, e, w, m⟩ := by
          unfold prtAt
          rw [ht]
          simp only
          rw [if_pos hl, he]
          rfl
        simp [this, seD]
    · refine NX.of (S4.weak (es' := [.dat (thD t), .val (.ref pf), .un, .un, .un, .un, .un]) (by repeat (first | exact .nil | refine .cons (by first | exact trivial | rfl) ?_))) ⟨rfl, ?_⟩
      have hl : isL w = false := hb
      rw [List.range_succ, List.filterMap_append]
      have : prtAt t i = none := by
        unfold prtAt
        rw [ht]
        simp only
        rw [hl]
        rfl
      simp [this]
  · rintro es ms F2 H2 σ2 ⟨rfl, rfl⟩ S2
    refine st_retM (j := 0) S2 rfl rfl fun us F' H' g hp hf h1 h2 => q pf us F' H' g hp hf h1 ?_
    rw [List.length_zipIdx] at h2
    exact h2
end TT
/-! D__law_contests -/
namespace TT
open PySem PySem.Spec PyProof.Rows L2 C8
def sp__law_contests (K : PySem.W.Frag) : Sp := SpN K fun ds zs => ∃ a b : Th, Vd a ∧ Vd b ∧ ds = [prD a b] ∧ zs = (cons a b).map ctD
theorem len__law_contests {K : PySem.W.Frag} : ∀ vs H Q E, sp__law_contests K vs H Q E → vs.length = 1 := spN_len (by rintro _ _ ⟨a, b, _, _, rfl, _⟩; rfl)
abbrev N__law_contests : List Str := ["_law_pair_here", "_law_found", "_law_begin", "_law_end", "_law_word", "_law_name", "_law_first", "_law_last", "_law_other", "_law_same", "_law_at", "_law_there"]
theorem sc__law_contests : FnScope N__law_contests ["_law_pair_here"] (C8.fnScope st__law_contests) := C8.fnScope_by (by decide +kernel)
theorem c__law_contests {P : Program} {w : World} {K : PySem.W.Frag} {mg : Str → Option Value} {base : Heap} (T : Txt K mg) (c__law_parts : C8.Cal P w K mg base 1 "_law_parts" (sp__law_parts K) []) : C8.Cal P w K mg base 2 "_law_contests" (sp__law_contests K) [] := by
  obtain ⟨f, fd, Fd, df⟩ := T.d__law_contests
  refine C8.cal0 Fd (Fd.fn.binds df (ps := ["_law_pair_here"]) (fun _ _ _ _ _ _ us hl => match us, hl with | [_], _ => rfl)) .nil sc__law_contests len__law_contests fun cdv A outer s H vs Q E hr hsp => ?_
  have hu := hu_of hr
  have nd := (sc__law_contests).nd
  refine ⟨_, (pss_cons (ps_set (i := 1) nd (by rfl) (by first | exact Or.inl rfl | exact Or.inr rfl) (pe_lst pa_nil))
  (pss_cons (ps_for PassesOwn.never rfl (kpi_list (K := K) (by rfl) (pe_c c__law_parts hr (by decide) (by rfl) (pa_cons (pe_ix (kix_tup (K := K) (by rfl)) (pv 0) pe_int (fun _ _ => rfl)) pa_nil))) (kpg_tup (K := K) (n := 4) (by rfl) (by rfl) (pgs_cons (pg_name (i := 2) nd (by rfl) (by first | exact Or.inl rfl | exact Or.inr rfl)) (pgs_cons (pg_name (i := 3) nd (by rfl) (by first | exact Or.inl rfl | exact Or.inr rfl)) (pgs_cons (pg_name (i := 4) nd (by rfl) (by first | exact Or.inl rfl | exact Or.inr rfl)) (pgs_cons (pg_name (i := 5) nd (by rfl) (by first | exact Or.inl rfl | exact Or.inr rfl)) pgs_nil)))))
   (pss_one (ps_for PassesOwn.never rfl (kpi_list (K := K) (by rfl) (pe_c c__law_parts hr (by decide) (by rfl) (pa_cons (pe_ix (kix_tup (K := K) (by rfl)) (pv 0) pe_int (fun _ _ => rfl)) pa_nil))) (kpg_tup (K := K) (n := 4) (by rfl) (by rfl) (pgs_cons (pg_name (i := 6) nd (by rfl) (by first | exact Or.inl rfl | exact Or.inr rfl)) (pgs_cons (pg_name (i := 7) nd (by rfl) (by first | exact Or.inl rfl | exact Or.inr rfl)) (pgs_cons (pg_name (i := 8) nd (by rfl) (by first | exact Or.inl rfl | exact Or.inr rfl)) (pgs_cons (pg_name (i := 9) nd (by rfl) (by first | exact Or.inl rfl | exact Or.inr rfl)) pgs_nil)))))
   (pss_one (ps_if (PW.pt (pw_and (pt_cmpR op_eq (pv 5) (pv 9) (nomark _)) (pw_and1 (pt_cmpR (kneD (K := K) (by rfl) hr.units) (pe_tup (pa_cons (pv 4) (pa_cons (pv 8) pa_nil))) (pe_tup (pa_cons pe_str (pa_cons pe_str pa_nil))) (nomark _)))))
   (pss_one (ps_expr (kbm (K := K) (by rfl) PySem.F.plainAttrs_list PySem.F.slot_list_append PySem.F.type_list_append mt_append (pv 1) (pa_cons (pe_tup (pa_cons (pv 2) (pa_cons (pv 3) (pa_cons (pv 6) (pa_cons (pv 7) (pa_cons pe_str (pa_cons (pv 5) pa_nil))))))) pa_nil))))
   pss_nil)))))
  (pss_cons (ps_for PassesOwn.never rfl (kpi_enumT (K := K) (by rfl) (by rfl) (by rfl) T.b_enumerate (pa_cons (pe_ix (kix_tup (K := K) (by rfl)) (pv 0) pe_int (fun _ _ => rfl)) pa_nil)) (kpg_tup (K := K) (n := 2) (by rfl) (by rfl) (pgs_cons (pg_name (i := 10) nd (by rfl) (by first | exact Or.inl rfl | exact Or.inr rfl)) (pgs_cons (kpg_tup (K := K) (n := 2) (by rfl) (by rfl) (pgs_cons (pg_name (i := 4) nd (by rfl) (by first | exact Or.inl rfl | exact Or.inr rfl)) (pgs_cons (pg_name (i := 5) nd (by rfl) (by first | exact Or.inl rfl | exact Or.inr rfl)) pgs_nil))) pgs_nil)))
   (pss_one (ps_for PassesOwn.never rfl (kpi_enumT (K := K) (by rfl) (by rfl) (by rfl) T.b_enumerate (pa_cons (pe_ix (kix_tup (K := K) (by rfl)) (pv 0) pe_int (fun _ _ => rfl)) pa_nil)) (kpg_tup (K := K) (n := 2) (by rfl) (by rfl) (pgs_cons (pg_name (i := 11) nd (by rfl) (by first | exact Or.inl rfl | exact Or.inr rfl)) (pgs_cons (kpg_tup (K := K) (n := 2) (by rfl) (by rfl) (pgs_cons (pg_name (i := 8) nd (by rfl) (by first | exact Or.inl rfl | exact Or.inr rfl)) (pgs_cons (pg_name (i := 9) nd (by rfl) (by first | exact Or.inl rfl | exact Or.inr rfl)) pgs_nil))) pgs_nil)))
   (pss_one (ps_if (PW.pt (pw_and (pt_cmpR op_eq (pv 5) (pv 9) (nomark _)) (pw_and (pt_cmpR (kin (K := K) (by rfl)) pe_str (pe_tup (pa_cons (pv 4) (pa_cons (pv 8) pa_nil))) (by rfl)) (pw_and (pt_cmpR (kin (K := K) (by rfl)) (pv 4) (pe_tup (pa_cons pe_str (pa_cons pe_str pa_nil))) (by rfl)) (pw_and1 (pt_cmpR (kin (K := K) (by rfl)) (pv 8) (pe_tup (pa_cons pe_str (pa_cons pe_str pa_nil))) (by rfl)))))))
   (pss_one (ps_expr (kbm (K := K) (by rfl) PySem.F.plainAttrs_list PySem.F.slot_list_append PySem.F.type_list_append mt_append (pv 1) (pa_cons (pe_tup (pa_cons (pv 10) (pa_cons (pv 10) (pa_cons (pv 11) (pa_cons (pv 11) (pa_cons pe_str (pa_cons (pv 5) pa_nil))))))) pa_nil))))
   pss_nil)))))
  (pss_one (ps_ret (pe_callB (kc_sortedL (K := K) (by rfl) hr.units) (by rfl) T.b_sorted (by decide +kernel) (pa_cons (pv 1) pa_nil))))))), ?_⟩
  obtain ⟨F, ds, zs, e0, hd, ⟨a, b, va, vb, rfl, rfl⟩, q⟩ := hsp
  have S : Sta K F H [.dat (prD a b), .un, .un, .un, .un, .un, .un, .un, .un, .un, .un, .un] [] F H (L2.start N__law_contests vs) := Sta.begin 11 e0 hd
  have ha := va.len
  have hb := vb.len
  refine st_setN S (en_lst ea_nil) fun p F1 H1 σ1 S1 => ?_
  have so := S1.so
  let la := parts a
  let lb := parts b
  have hla : la.length ≤ 6 := by have := (parts_perm va).length_eq; have := secs_len a; show (parts a).length ≤ 6; omega
  have hlb : lb.length ≤ 6 := by have := (parts_perm vb).length_eq; have := secs_len b; show (parts b).length ≤ 6; omega
  have bd : ∀ {α β : Type} (pp : α → β → Bool) (ff : α → β → Ct) (l : List α) (m : List β) (i : Nat) (g : β → Bool) (x : α) (j : Nat), l.length ≤ 6 → m.length ≤ 6 → ((pairsOf pp ff (l.take i) m).map ctD).length + ((((m.take j).filter g).map (ff x)).map ctD).length ≤ 42 := fun pp ff l m i g x j hl hm => by
    rw [List.length_map, List.length_map, List.length_map]
    have h1 := pairs_len pp ff m (l.take i)
    have h2 : (l.take i).length ≤ 6 := by rw [List.length_take]; omega
    have h3 := Nat.mul_le_mul h2 hm
    have h4 : ((m.take j).filter g).length ≤ 6 := Nat.le_trans (List.length_filter_le _ _) (by rw [List.length_take]; omega)
    omega
  have U : ∀ {x : D}, le1 (.dat x) .un := trivial
  refine for_A la seD S1 (it_list (EvN.toD (en_call (ea_cons (ev_op (ev_var so rfl) (ev_int _) (r2_ixT rfl)) ea_nil) ⟨a, va, rfl, rfl⟩))) rfl
    (fun i es ms => es = [.dat (prD a b), .val (.ref p), .un, .un, .un, .un, .un, .un, .un, .un, .un, .un] ∧ ms = [.lst p ((pairsOf lockP2 lockC (la.take i) lb).map ctD)]) ⟨rfl, rfl⟩ ?_ ?_
  · rintro Fb Bb gb i s es ms F2 H2 σ2 hi ⟨rfl, rfl⟩ S2
    refine ⟨_, _, (tg_tup (tgs_cons tg_name (tgs_cons tg_name (tgs_cons tg_name (tgs_cons tg_name tgs_nil))))), fun σ3 S3 => ?_⟩
    have so := S3.so
    refine for_A lb seD S3 (it_list (EvN.toD (en_call (ea_cons (ev_op (ev_var so rfl) (ev_int _) (r2_ixT rfl)) ea_nil) ⟨b, vb, rfl, rfl⟩))) rfl
      (fun j es ms => es = [.dat (prD a b), .val (.ref p), .dat (.int s.b), .dat (.int s.e), .dat (.str s.how), .dat (.str s.name), .un, .un, .un, .un, .un, .un] ∧ ms = [.lst p ((pairsOf lockP2 lockC (la.take i) lb).map ctD ++ (((lb.take j).filter (lockP2 s)).map (lockC s)).map ctD)]) ⟨rfl, by simp⟩ ?_ ?_
    · rintro Fc Bc gc j s' es ms F4 H4 σ4 hj ⟨rfl, rfl⟩ S4
      refine ⟨_, _, (tg_tup (tgs_cons tg_name (tgs_cons tg_name (tgs_cons tg_name (tgs_cons tg_name tgs_nil))))), fun σ5 S5 => ?_⟩
      have so := S5.so
      have ea : ((la[i]?).map fun s => s) = some s := by rw [show la[i]? = some s from hi]; rfl
      have oks : ∀ t, Vd t → ∀ s ∈ parts t, PyData.strOk s.how = true := fun t vt s hs => by
        obtain ⟨v, e1, e2, e3⟩ := secs_mem.mp ((parts_mem vt).mp hs)
        exact (vt.ok _ (List.mem_of_getElem? (lastB_ok e3).1)).1
      have sh : ∀ x y : Str, PyData.strOk x = true → PyData.strOk y = true → SeqAt.shaped (.tuple [.str x, .str y]) = true := fun x y h1 h2 => (shaped_strs (ns := [x, y]) (by simp [h1, h2])).2
      refine st_if S5 (EvT.eq (c := lockP2 s s') (et_and (et_test (ev_op (ev_var so rfl) (ev_var so rfl) r2_eqS)) (fun _ => (et_test (ev_op (ev_tup (ea_cons (ev_var so rfl) (ea_cons (ev_var so rfl) ea_nil))) (ev_tup (ea_cons (ev_str _) (ea_cons (ev_str _) ea_nil))) (r2_neD (sh _ _ (oks a va s (List.mem_of_getElem? hi)) (oks b vb s' (List.mem_of_getElem? hj))) (sh _ _ (by decide +kernel) (by decide +kernel))))))) ?_) (fun hb F6 H6 S6 => ?_) (fun hb F6 H6 S6 => ?_)
      · unfold lockP2
        simp [PyData.eqv, PyData.eqvAll, seD]
        rw [Bool.beq_eq_decide_eq, Bool.beq_eq_decide_eq]
      · have so := S6.so
        refine st_app (j := 0) S6 rfl rfl (ev_tup (ea_cons (ev_var so rfl) (ea_cons (ev_var so rfl) (ea_cons (ev_var so rfl) (ea_cons (ev_var so rfl) (ea_cons (ev_str _) (ea_cons (ev_var so rfl) ea_nil))))))) ?_ fun F7 H7 S7 => ?_
        · rw [List.length_append]
          have := bd lockP2 lockC la lb i (lockP2 s) s j hla hlb
          omega
        · refine NX.of (S7.weak (es' := [.dat (prD a b), .val (.ref p), .dat (.int s.b), .dat (.int s.e), .dat (.str s.how), .dat (.str s.name), .un, .un, .un, .un, .un, .un]) (by repeat (first | exact .nil | refine .cons (by first | exact trivial | rfl) ?_))) ⟨rfl, ?_⟩
          rw [inner_snoc _ _ _ hj, if_pos hb]
          simp [lockC, ctD]
      · refine NX.of (S6.weak (es' := [.dat (prD a b), .val (.ref p), .dat (.int s.b), .dat (.int s.e), .dat (.str s.how), .dat (.str s.name), .un, .un, .un, .un, .un, .un]) (by repeat (first | exact .nil | refine .cons (by first | exact trivial | rfl) ?_))) ⟨rfl, ?_⟩
        rw [inner_snoc _ _ _ hj, if_neg (by rw [hb]; exact Bool.false_ne_true)]
        simp
    · rintro es ms F4 H4 σ4 ⟨rfl, rfl⟩ S4
      refine NX.of (S4.weak (es' := [.dat (prD a b), .val (.ref p), .un, .un, .un, .un, .un, .un, .un, .un, .un, .un]) (by repeat (first | exact .nil | refine .cons (by first | exact trivial | rfl) ?_))) ⟨rfl, ?_⟩
      rw [pairs_snoc _ _ _ _ hi, List.take_length, List.map_append]
  · rintro es ms F2 H2 σ2 ⟨rfl, rfl⟩ S2
    have so := S2.so
    rw [List.take_length] at S2
    refine for_A a.zipIdx (fun p => .tuple [.int (p.2 : Nat), stD p.1]) S2 (it_enumT (ea_cons (ev_op (ev_var so rfl) (ev_int _) (r2_ixT rfl)) ea_nil)) (enumD_map a stD)
      (fun i es ms => es = [.dat (prD a b), .val (.ref p), .un, .un, .un, .un, .un, .un, .un, .un, .un, .un] ∧ ms = [.lst p ((pairsOf lockP2 lockC la lb).map ctD ++ (pairsOf dataP2 dataC (a.zipIdx.take i) b.zipIdx).map ctD)]) ⟨rfl, by simp [pairsOf]⟩ ?_ ?_
    · rintro Fb Bb gb i s es ms F3 H3 σ3 hi ⟨rfl, rfl⟩ S3
      refine ⟨_, _, (tg_tup (tgs_cons tg_name (tgs_cons (tg_tup (tgs_cons tg_name (tgs_cons tg_name tgs_nil))) tgs_nil))), fun σ4 S4 => ?_⟩
      have so := S4.so
      refine for_A b.zipIdx (fun p => .tuple [.int (p.2 : Nat), stD p.1]) S4 (it_enumT (ea_cons (ev_op (ev_var so rfl) (ev_int _) (r2_ixT rfl)) ea_nil)) (enumD_map b stD)
        (fun j es ms => es = [.dat (prD a b), .val (.ref p), .un, .un, .dat (.str s.1.1), .dat (.str s.1.2), .un, .un, .un, .un, .dat (.int (s.2 : Nat)), .un] ∧ ms = [.lst p ((pairsOf lockP2 lockC la lb).map ctD ++ ((pairsOf dataP2 dataC (a.zipIdx.take i) b.zipIdx).map ctD ++ (((b.zipIdx.take j).filter (dataP2 s)).map (dataC s)).map ctD))]) ⟨rfl, by simp⟩ ?_ ?_
      · rintro Fc Bc gc j s' es ms F5 H5 σ5 hj ⟨rfl, rfl⟩ S5
        refine ⟨_, _, (tg_tup (tgs_cons tg_name (tgs_cons (tg_tup (tgs_cons tg_name (tgs_cons tg_name tgs_nil))) tgs_nil))), fun σ6 S6 => ?_⟩
        have so := S6.so
        refine st_if S6 (EvT.eq (c := dataP2 s s') (et_and (et_test (ev_op (ev_var so rfl) (ev_var so rfl) r2_eqS)) (fun _ => (et_and (et_test (ev_op (ev_str _) (ev_tup (ea_cons (ev_var so rfl) (ea_cons (ev_var so rfl) ea_nil))) (r2_inT (ns := [s.1.1, s'.1.1])))) (fun _ => (et_and (et_test (ev_op (ev_var so rfl) (ev_tup (ea_cons (ev_str _) (ea_cons (ev_str _) ea_nil))) (r2_inT (ns := ["read", "write"])))) (fun _ => (et_test (ev_op (ev_var so rfl) (ev_tup (ea_cons (ev_str _) (ea_cons (ev_str _) ea_nil))) (r2_inT (ns := ["read", "write"])))))))))) rfl) (fun hb F7 H7 S7 => ?_) (fun hb F7 H7 S7 => ?_)
        · have so := S7.so
          refine st_app (j := 0) S7 rfl rfl (ev_tup (ea_cons (ev_var so rfl) (ea_cons (ev_var so rfl) (ea_cons (ev_var so rfl) (ea_cons (ev_var so rfl) (ea_cons (ev_str _) (ea_cons (ev_var so rfl) ea_nil))))))) ?_ fun F8 H8 S8 => ?_
          · rw [List.length_append, List.length_append]
            have h1 := bd dataP2 dataC a.zipIdx b.zipIdx i (dataP2 s) s j (by rw [List.length_zipIdx]; exact ha) (by rw [List.length_zipIdx]; exact vb.len)
            have h2 := pairs_len lockP2 lockC lb la
            have h3 := Nat.mul_le_mul hla hlb
            rw [List.length_map]
            omega
          · refine NX.of (S8.weak (es' := [.dat (prD a b), .val (.ref p), .un, .un, .dat (.str s.1.1), .dat (.str s.1.2), .un, .un, .un, .un, .dat (.int (s.2 : Nat)), .un]) (by repeat (first | exact .nil | refine .cons (by first | exact trivial | rfl) ?_))) ⟨rfl, ?_⟩
            rw [inner_snoc _ _ _ hj, if_pos hb]
            simp [dataC, ctD]
        · refine NX.of (S7.weak (es' := [.dat (prD a b), .val (.ref p), .un, .un, .dat (.str s.1.1), .dat (.str s.1.2), .un, .un, .un, .un, .dat (.int (s.2 : Nat)), .un]) (by repeat (first | exact .nil | refine .cons (by first | exact trivial | rfl) ?_))) ⟨rfl, ?_⟩
          rw [inner_snoc _ _ _ hj, if_neg (by rw [hb]; exact Bool.false_ne_true)]
          simp
      · rintro es ms F5 H5 σ5 ⟨rfl, rfl⟩ S5
        refine NX.of (S5.weak (es' := [.dat (prD a b), .val (.ref p), .un, .un, .un, .un, .un, .un, .un, .un, .un, .un]) (by repeat (first | exact .nil | refine .cons (by first | exact trivial | rfl) ?_))) ⟨rfl, ?_⟩
        rw [pairs_snoc _ _ _ _ hi, List.take_length, List.map_append]
    · rintro es ms F3 H3 σ3 ⟨rfl, rfl⟩ S3
      rw [List.take_length] at S3
      have ec : (pairsOf lockP2 lockC la lb).map ctD ++ (pairsOf dataP2 dataC a.zipIdx b.zipIdx).map ctD = (consL a b).map ctD := by unfold consL; rw [List.map_append]
      rw [ec] at S3
      have so := S3.so
      obtain ⟨vs3, S4, d4⟩ := S3.freeze
      have so := S4.so.put (i := 1) (S4.so.val rfl) d4
      refine st_retN S4 (EvN.eqN (en_cb (ea_cons (ev_var so rfl) ea_nil) (rcn_sort (all_of alike_ct _) (.inl fun d hd => ?_) (dep_of depth_ct _))) (consL_sort va vb)) q
      obtain ⟨x, _, rfl⟩ := List.mem_map.mp hd
      exact ⟨_, _, rfl⟩
end TT
/-! Src -/
/-! The law's source of draws. -/
namespace TT
open PySem PySem.Spec PyProof.Rows L2
section
variable {K : PySem.W.Frag} {σ : L2.St} {es es' : List SV} {F B F' B' F0 B0 H H' F1 H1 F2 H2 : Hp} {ta tb te tx tc td : TE} {tl tr : TA} {tt : TT} {d : D} {v : V} {i j n m c c' : Nat} {ms ms' : List MO} {Dn : Ends} {R : Hp → V → Prop} {ds zs : List D} {a p : Addr} {A A2 : D → Prop} {L L2' : List D → Prop}
theorem ex_del (h : F a = none) (e : Ex F H) : Ex F (del H a) := fun x o q => by
  rw [del_ne fun z => by rw [z, h] at q; cases q]
  exact e x o q
theorem ex_undel : Ex (del H a) H := fun x o q => by
  by_cases z : x = a
  · rw [z, del_self] at q; cases q
  · rw [del_ne z] at q; exact q
theorem Gr.undel (g : Gr F B F1 (del H1 a)) : Gr F B F1 H1 := ⟨g.ff, g.fh.trans ex_undel, g.hh.trans ex_undel, g.nw⟩
theorem gr_del (hf : F a = none) (hh : H a ≠ none) (g : Gr F H F' H') : Gr F (del H a) F' (del H' a) := by
  have hf' : F' a = none := by rw [g.nw a hh]; exact hf
  refine ⟨g.ff, ex_del hf' g.fh, fun x o q => ?_, fun x q => ?_⟩
  · by_cases z : x = a
    · rw [z, del_self] at q; cases q
    · rw [del_ne z] at q ⊢; exact g.hh x o q
  · by_cases z : x = a
    · rw [z, del_self] at q; exact absurd rfl q
    · rw [del_ne z] at q; exact g.nw x q
theorem gr_del2 (hf' : F' a = none) (g : Gr F (del H a) F' H') : Gr F (del H a) F' (del H' a) := ⟨g.ff, ex_del hf' g.fh, fun x o q => by
  by_cases z : x = a
  · rw [z, del_self] at q; cases q
  · have := g.hh x o q
    rw [del_ne z]; exact this, g.nw⟩
theorem src_ex {K : PySem.W.Frag} {F F' H : Hp} {a : Addr} {c : Nat} (m : MOk K F H (.src a c)) (h : F' a = none) : MOk K F' H (.src a c) := ⟨h, m.2⟩
/-- with at most n draws, to data that A says -/
def EvS (K : PySem.W.Frag) (a : Addr) (te : TE) (σ : L2.St) (F Bd : Hp) (n : Nat) (A : D → Prop) : Prop :=
  ∀ F1 H1 c, Gr F Bd F1 (del H1 a) → MOk K F1 H1 (.src a c) → c + n ≤ 100000 → ∀ Q : VK, (∀ v d F2 H2 c', Gr F1 (del H1 a) F2 (del H2 a) → MOk K F2 H2 (.src a c') → c' ≤ c + n → A d → Dp K F2 v d → Q v H2) → te σ H1 Q
def EvSA (K : PySem.W.Frag) (a : Addr) (ta : TA) (σ : L2.St) (F Bd : Hp) (n : Nat) (A : List D → Prop) : Prop :=
  ∀ F1 H1 c, Gr F Bd F1 (del H1 a) → MOk K F1 H1 (.src a c) → c + n ≤ 100000 → ∀ Q : List V → Hp → Prop, (∀ vs ds F2 H2 c', Gr F1 (del H1 a) F2 (del H2 a) → MOk K F2 H2 (.src a c') → c' ≤ c + n → A ds → DpAll K F2 vs ds → Q vs H2) → ta σ H1 Q
theorem es_D (h : EvD K te σ F B d) : EvS K a te σ F B 0 (fun x => x = d) := fun F1 H1 c g m hc Q q => h F1 H1 g.undel Q fun v F2 H2 g2 k => q v d F2 H2 c (gr_del m.free m.there g2) (m.gr g2) (Nat.le_refl _) rfl k
theorem esa_A (h : EvA K tl σ F B ds) : EvSA K a tl σ F B 0 (fun x => x = ds) := fun F1 H1 c g m hc Q q => h F1 H1 g.undel Q fun v F2 H2 g2 k => q v ds F2 H2 c (gr_del m.free m.there g2) (m.gr g2) (Nat.le_refl _) rfl k
theorem EvS.weak (h : EvS K a te σ F B n A) (hn : n ≤ m) (hA : ∀ d, A d → A2 d) : EvS K a te σ F B m A2 := fun F1 H1 c g mm hc Q q => h F1 H1 c g mm (by omega) Q fun v d F2 H2 c' g2 m2 h2 hd k => q v d F2 H2 c' g2 m2 (by omega) (hA d hd) k
theorem esa_nil : EvSA K a tNil σ F B 0 (fun x => x = []) := esa_A ea_nil
theorem esa_cons (h : EvS K a te σ F B n A) (hr : EvSA K a tr σ F B m L) : EvSA K a (tCons te tr) σ F B (n + m) (fun x => ∃ d r, x = d :: r ∧ A d ∧ L r) := fun F1 H1 c g mm hc Q q =>
  h F1 H1 c g mm (by omega) _ fun v d F2 H2 c2 g2 m2 hc2 hd k => hr F2 H2 c2 (g.trans g2) m2 (by omega) _ fun vs ds F3 H3 c3 g3 m3 hc3 hds ks => q _ (d :: ds) F3 H3 c3 (g2.trans g3) m3 (by omega) ⟨d, ds, rfl, hd, hds⟩ (.cons (k.ex g3.ff) ks)
theorem es_tup (h : EvSA K a tl σ F B n L) (hz : ∀ ds, L ds → ds.length ≤ 100) : EvS K a (tTup tl) σ F B n (fun d => ∃ ds, L ds ∧ d = .tuple ds) := fun F1 H1 c g mm hc Q q =>
  h F1 H1 c g mm hc _ fun vs ds F2 H2 c2 g2 m2 hc2 hds ks => ⟨by rw [ks.len]; exact Nat.le_trans (hz ds hds) (by decide), fun p hp => by
    have ga : Gr F2 H2 (upd F2 p (.tup vs)) (upd H2 p (.tup vs)) := Gr.new (g2.fh.trans ex_undel) hp
    exact q (.ref p) (.tuple ds) _ _ c2 (g2.trans (gr_del m2.free m2.there ga)) (m2.gr ga) hc2 ⟨ds, hds, rfl⟩ (.tup (SqT.of upd_same) (ks.ex ga.ff))⟩
theorem es_lst (h : EvSA K a tl σ F B n L) (hz : ∀ ds, L ds → ds.length ≤ 100) : EvS K a (tLst tl) σ F B n (fun d => ∃ ds, L ds ∧ d = .list ds) := fun F1 H1 c g mm hc Q q =>
  h F1 H1 c g mm hc _ fun vs ds F2 H2 c2 g2 m2 hc2 hds ks => ⟨by rw [ks.len]; exact Nat.le_trans (hz ds hds) (by decide), fun p hp => by
    have ga : Gr F2 H2 (upd F2 p (.lst vs)) (upd H2 p (.lst vs)) := Gr.new (g2.fh.trans ex_undel) hp
    exact q (.ref p) (.list ds) _ _ c2 (g2.trans (gr_del m2.free m2.there ga)) (m2.gr ga) hc2 ⟨ds, hds, rfl⟩ (.lst (SqL.of upd_same) (ks.ex ga.ff))⟩
theorem es_op {r : R2} (h1 : EvS K a ta σ F B n A) (h2 : EvS K a tb σ F B m A2) {A3 : D → Prop} (hr : ∀ x y F1 H1, A x → A2 y → ∃ z, A3 z ∧ R2D K r x y F1 H1 z) : EvS K a (tOp r ta tb) σ F B (n + m) A3 := fun F1 H1 c g mm hc Q q =>
  h1 F1 H1 c g mm (by omega) _ fun u x F2 H2 c2 g2 m2 hc2 hx ku => h2 F2 H2 c2 (g.trans g2) m2 (by omega) _ fun w y F3 H3 c3 g3 m3 hc3 hy kw => by
    obtain ⟨z, hz, r3⟩ := hr x y F3 H3 hx hy
    exact r3 F3 H3 (Gr.refl (g3.fh.trans ex_undel)) u w (ku.ex g3.ff) kw Q fun v F4 H4 g4 k4 => q v z F4 H4 c3 ((g2.trans g3).trans (gr_del m3.free m3.there g4)) (m3.gr g4) (by omega) hz k4
/-- called with the source first: at most n draws -/
def SpS (K : PySem.W.Frag) (n : Nat) (RR : List D → (D → Prop) → Prop) : Sp := fun vs H Q _ => ∃ F a c us ds A, vs = .ref a :: us ∧ Ex F H ∧ MOk K F H (.src a c) ∧ c + n ≤ 100000 ∧ DpAll K F us ds ∧ RR ds A ∧
  ∀ v d F' H' c', Gr F (del H a) F' H' → MOk K F' H' (.src a c') → c' ≤ c + n → A d → Dp K F' v d → Q v H'
theorem spS_len {n k : Nat} {RR : List D → (D → Prop) → Prop} (hn : ∀ ds P, RR ds P → ds.length = k) : ∀ vs H Q E, SpS K n RR vs H Q E → vs.length = k + 1 := fun vs H Q E ⟨F, a, c, us, ds, A, e, _, _, _, ks, hR, _⟩ => by rw [e, List.length_cons, ks.len, hn ds A hR]
theorem es_call {RR : List D → (D → Prop) → Prop} {E : XK} (hv : EvV te σ F B (.ref a)) (h : EvSA K a tl σ F B m L) (hR : ∀ ds, L ds → ∃ A', RR ds A' ∧ ∀ d, A' d → A d) : EvS K a (tCall (SpS K n RR) [] E (tCons te tl)) σ F B (m + n) A := fun F1 H1 c g mm hc Q q =>
  hv F1 H1 g.undel _ fun F2 H2 g2 => h F2 H2 c (g.trans (gr_del mm.free mm.there g2)) (mm.gr g2) (by omega) _ fun vs ds F3 H3 c3 g3 m3 hc3 hds ks => by
    obtain ⟨A', hR', hA⟩ := hR ds hds
    refine ⟨F3, a, c3, vs, ds, A', ?_, g3.fh.trans ex_undel, m3, by omega, ks, hR', fun v d F4 H4 c4 g4 m4 hc4 hd k4 => q v d F4 H4 c4 (((gr_del mm.free mm.there g2).trans g3).trans (gr_del2 m4.free g4)) m4 (by omega) (hA d hd) k4⟩
    simp
/-- a list that changes is taken for data, for a look -/
theorem es_peek {vs : List V} (hp : F p = none) (hb : B p = some (.lst vs)) (hne : p ≠ a) (h : EvS K a te σ (upd F p (.lst vs)) B n A) (hA : ∀ d, A d → flatD d = true) : EvS K a te σ F B n A := fun F1 H1 c g mm hc Q q => by
  have hp1 : F1 p = none := by rw [g.nw p (by rw [hb]; exact fun z => nomatch z)]; exact hp
  have hd1 : del H1 a p = some (.lst vs) := g.hh p _ hb
  have g' : Gr (upd F p (.lst vs)) B (upd F1 p (.lst vs)) (del H1 a) := ⟨fun x o e => by
    by_cases z : x = p
    · rw [z, upd_same] at e ⊢; exact e
    · rw [upd_ne z] at e ⊢; exact g.ff x o e, g.fh.fix hd1, g.hh, fun x hx => by
    by_cases z : x = p
    · rw [z, upd_same, upd_same]
    · rw [upd_ne z, upd_ne z]; exact g.nw x hx⟩
  have mm' : MOk K (upd F1 p (.lst vs)) H1 (.src a c) := mm.ex (Ex.new hp1) (by show upd F1 p _ a = none; rw [upd_ne hne.symm]; exact mm.free) fun _ e => e
  refine h _ H1 c g' mm' hc Q fun v d F2 H2 c2 g2 m2 hc2 hd k2 => ?_
  have hp2 : F2 p = some (.lst vs) := g2.ff _ _ upd_same
  refine q v d (del F2 p) H2 c2 ⟨fun x o e => ?_, ex_undel.trans g2.fh, g2.hh, fun x hx => ?_⟩ (src_ex m2 ?_) hc2 hd (flat_any (hA d hd) k2)
  · have : x ≠ p := fun z => by rw [z, hp1] at e; cases e
    rw [del_ne this]
    exact g2.ff x o (by rw [upd_ne this]; exact e)
  · by_cases z : x = p
    · rw [z, del_self, hp1]
    · rw [del_ne z, g2.nw x hx, upd_ne z]
  · rw [del_ne hne.symm]; exact m2.free
end
section
variable {K : PySem.W.Frag} {σ : L2.St} {es es' : List SV} {F F0 B0 H : Hp} {te : TE} {i j n c : Nat} {ms : List MO} {Dn : Ends} {a p : Addr} {A : D → Prop} {Q : VK}
/-- from the state, and back to it -/
theorem stS (S : Sta K F0 B0 es ms F H σ) (hj : ms[j]? = some (.src a c)) (hc : c + n ≤ 100000) (h : EvS K a te σ F (del H a) n A)
    (k : ∀ v d F' H' c', c' ≤ c + n → A d → Ex F F' → Dp K F' v d → Sta K F0 B0 es (ms.set j (.src a c')) F' H' σ → Q v H') : te σ H Q :=
  h F H c (Gr.refl (ex_del (S.m hj).free S.ex)) (S.m hj) hc Q fun v d F' H' c' g m hc' hd kv => k v d F' H' c' hc' hd g.ff kv (S.call (m := .src a c) (m' := .src a c') hj rfl g.undel m)
theorem stS_set (S : Sta K F0 B0 es ms F H σ) (hj : ms[j]? = some (.src a c)) (hc : c + n ≤ 100000) (h : EvS K a te σ F (del H a) n A)
    (k : ∀ d F' H' σ' c', c' ≤ c + n → A d → Sta K F0 B0 (es.set i (.dat d)) (ms.set j (.src a c')) F' H' σ' → Dn.nx σ' H') : tAsg te (gName i) Dn σ H :=
  stS S hj hc h fun v d F' H' c' hc' hd e kv S' => k d F' H' _ c' hc' hd (S'.set i kv)
theorem stS_ret (S : Sta K F0 B0 es ms F H σ) (hj : ms[j]? = some (.src a c)) (hc : c + n ≤ 100000) (h : EvS K a te σ F (del H a) n A)
    (k : ∀ v d F' H' c', c' ≤ c + n → A d → Dp K F' v d → Sta K F0 B0 es (ms.set j (.src a c')) F' H' σ → Dn.rt v H') : tRet te Dn σ H :=
  stS S hj hc h fun v d F' H' c' hc' hd e kv S' => k v d F' H' c' hc' hd kv S'
/-- xs.append(e), e with draws -/
theorem stS_app {j2 : Nat} {ds : List D} (S : Sta K F0 B0 es ms F H σ) (hj : ms[j]? = some (.src a c)) (hc : c + n ≤ 100000) (hi : es[i]? = some (.val (.ref p))) (hj2 : ms[j2]? = some (.lst p ds)) (hjj : j ≠ j2) (h : EvS K a te σ F (del H a) n A) (hz : ds.length < 100000)
    (k : ∀ d F' H' c', c' ≤ c + n → A d → Sta K F0 B0 es ((ms.set j (.src a c')).set j2 (.lst p (ds ++ [d]))) F' H' σ → Dn.nx σ H') : tDrop (tBM K "list" rAppend (tVar i) (tCons te tNil)) Dn σ H := by
  obtain ⟨hf, vs, h1, h2⟩ := S.m hj2
  refine ⟨.ref p, S.so.val hi, .inl ⟨rfl, vs, SqL.of h1⟩, ?_⟩
  refine stS (Q := fun v H1 => tNil σ H1 fun vs H2 => rAppend (.ref p) (v :: vs) H2 fun _ H3 => Dn.nx σ H3) S hj hc h fun v d F' H' c' hc' hd e kv S' => ?_
  have hj2' : (ms.set j (.src a c'))[j2]? = some (.lst p ds) := by rw [List.getElem?_set_ne hjj]; exact hj2
  obtain ⟨hf', vs', h1', h2'⟩ := S'.m hj2'
  exact ⟨p, vs', v, rfl, rfl, h1', Nat.lt_of_lt_of_le (by rw [h2'.len]; exact hz) (by decide), k d F' _ c' hc' hd (S'.turn (m := .lst p ds) (m' := .lst p (ds ++ [d])) hj2' rfl ⟨hf', _, upd_same, h2'.snoc kv⟩)⟩
end

section
variable {K : PySem.W.Frag} {σ : L2.St} {es es' : List SV} {F F0 B0 H : Hp} {te : TE} {i j n c : Nat} {ms : List MO} {Dn : Ends} {a p : Addr} {ds : List D} {d : D}
theorem dpa_set : ∀ {vs : List V} {ds : List D} (k : Nat) {v : V} {d : D}, DpAll K F vs ds → Dp K F v d → DpAll K F (vs.set k v) (ds.set k d)
  | _, _, _, _, _, .nil, _ => .nil
  | _, _, 0, _, _, .cons _ t, h => .cons h t
  | _, _, k + 1, _, _, .cons h t, q => .cons h (dpa_set k t q)
/-- xs[k] = e -/
theorem st_setIx {k : Nat} (S : Sta K F0 B0 es ms F H σ) (h : EvD K te σ F H d) (hi : es[i]? = some (.val (.ref p))) (hj : ms[j]? = some (.lst p ds)) (hk : k < ds.length)
    (q : ∀ F' H', Sta K F0 B0 es (ms.set j (.lst p (ds.set k d))) F' H' σ → Dn.nx σ H') : tAsg te (gSub (tVar i) (tC (.int (k : Nat))) rSetL) Dn σ H :=
  h F H (Gr.refl S.ex) _ fun v F' H' g kv => by
    have S' := S.grow g
    obtain ⟨hf, vs, h1, h2⟩ := S'.m hj
    refine ⟨.ref p, S'.so.val hi, p, vs, (k : Int), k, rfl, rfl, h1, ?_, q F' _ (S'.turn (m := .lst p ds) (m' := .lst p (ds.set k d)) hj rfl ⟨hf, _, upd_same, dpa_set k h2 kv⟩)⟩
    unfold ixN
    rw [h2.len]
    simp
    omega
theorem Sta.srcLst (S : Sta K F0 B0 es (.src a c :: ms) F H σ) : ∃ l g n : Int, 0 ≤ l ∧ 0 ≤ g ∧ g < 2305843009213693907 ∧ 0 ≤ n ∧ n ≤ c ∧ Sta K F0 B0 es (.lst a [.int l, .int g, .int n] :: ms) F H σ := by
  obtain ⟨hf, vs, h1, l, g, n, rfl, h2, h3, h4, h5, h6⟩ := (S.mo _ List.mem_cons_self).1
  refine ⟨l, g, n, h2, h3, h4, h5, h6, S.gr, S.so, fun m hm => ?_, S.nd⟩
  rcases List.mem_cons.mp hm with rfl | hm
  · exact ⟨⟨hf, _, h1, .cons (.int _) (.cons (.int _) (.cons (.int _) .nil))⟩, (S.mo (.src a c) List.mem_cons_self).2⟩
  · exact S.mo m (List.mem_cons_of_mem _ hm)
theorem src_of {l g n : Int} (m : MOk K F H (.lst a [.int l, .int g, .int n])) (h1 : 0 ≤ l) (h2 : 0 ≤ g) (h3 : g < 2305843009213693907) (h4 : 0 ≤ n) (h5 : n ≤ c) : MOk K F H (.src a c) := by
  obtain ⟨hf, vs, e, k⟩ := m
  have : vs = [.int l, .int g, .int n] := dpa_ints (ns := [l, g, n]) k
  subst this
  exact ⟨hf, _, e, l, g, n, rfl, h1, h2, h3, h4, h5⟩
/-- where a def with the source begins -/
theorem Sta.beginS {N : List Str} {us : List V} {ds : List D} (k : Nat) (e : Ex F H) (m : MOk K F H (.src a c)) (h : DpAll K F us ds) (hn : N.length - (ds.length + 1) = k := by rfl) :
    Sta K F (del H a) (.val (.ref a) :: (ds.map SV.dat ++ List.replicate k .un)) [.src a c] F H (L2.start N (.ref a :: us)) := by
  have e2 : L2.start N (.ref a :: us) = some (.ref a) :: (us.map some ++ List.replicate k none) := by
    unfold L2.start
    rw [List.length_cons, h.len, hn]
    rfl
  rw [e2]
  exact ⟨Gr.delStart e m.free, .cons rfl (so_start k h), fun m' hm => by rw [List.mem_singleton.mp hm]; exact ⟨m, del_self⟩, by simp⟩
end
/-- x, y = e1, e2 with draws, one a captured name -/
theorem stS_pairC {K : PySem.W.Frag} {σ : L2.St} {es : List SV} {F F0 B0 H : Hp} {ta tb : TE} {i i2 j n m c : Nat} {ms : List MO} {Dn : Ends} {a : Addr} {A A2 : D → Prop} (S : Sta K F0 B0 es ms F H σ) (hj : ms[j]? = some (.src a c)) (hc : c + (n + m) ≤ 100000) (h1 : EvS K a ta σ F (del H a) n A) (h2 : EvS K a tb σ F (del H a) m A2)
    (k : ∀ d d2 F' H' σ' c', c' ≤ c + (n + m) → A d → A2 d2 → Sta K F0 B0 ((es.set i (.dat d)).set i2 (.dat d2)) (ms.set j (.src a c')) F' H' σ' → Dn.nx σ' H') : tAsg (tTup (tCons ta (tCons tb tNil))) (gTup K 2 (gCons (gName i) (gCons (gName i2) gNil))) Dn σ H := by
  refine h1 F H c (Gr.refl (ex_del (S.m hj).free S.ex)) (S.m hj) (by omega) _ fun v d F1 H1 c1 g1 m1 hc1 hd kv => ?_
  refine h2 F1 H1 c1 g1 m1 (by omega) _ fun w d2 F2 H2 c2 g2 m2 hc2 hd2 kw => ⟨by show 2 ≤ sizeLine; decide, fun l hl => ?_⟩
  have S2 := S.call (m := .src a c) (m' := .src a c2) hj rfl (g1.trans g2).undel m2
  exact ⟨l, _, rfl, SqT.of upd_same, rfl, _, _, rfl, _, _, rfl, rfl, k d d2 F2 _ _ c2 (by omega) hd hd2 (((S2.grow (Gr.mut S2.ex hl)).set i (kv.ex g2.ff)).set i2 kw)⟩
/-- .. both plain names -/
theorem stS_pair {K : PySem.W.Frag} {σ : L2.St} {es : List SV} {F F0 B0 H : Hp} {ta tb : TE} {i i2 j n m c : Nat} {ms : List MO} {Dn : Ends} {a : Addr} {A A2 : D → Prop} (S : Sta K F0 B0 es ms F H σ) (hj : ms[j]? = some (.src a c)) (hc : c + (n + m) ≤ 100000) (h1 : EvS K a ta σ F (del H a) n A) (h2 : EvS K a tb σ F (del H a) m A2)
    (k : ∀ d d2 F' H' σ' c', c' ≤ c + (n + m) → A d → A2 d2 → Sta K F0 B0 ((es.set i (.dat d)).set i2 (.dat d2)) (ms.set j (.src a c')) F' H' σ' → Dn.nx σ' H') : tPar i i2 (tCons ta (tCons tb tNil)) Dn σ H := by
  refine h1 F H c (Gr.refl (ex_del (S.m hj).free S.ex)) (S.m hj) (by omega) _ fun v d F1 H1 c1 g1 m1 hc1 hd kv => ?_
  refine h2 F1 H1 c1 g1 m1 (by omega) _ fun w d2 F2 H2 c2 g2 m2 hc2 hd2 kw => ⟨_, _, rfl, ?_⟩
  have S2 := S.call (m := .src a c) (m' := .src a c2) hj rfl (g1.trans g2).undel m2
  exact k d d2 F2 H2 _ c2 (by omega) hd hd2 ((S2.set i (kv.ex g2.ff)).set i2 kw)
theorem st_ret2 {K : PySem.W.Frag} {σ : L2.St} {es : List SV} {F F0 B0 H : Hp} {te : TE} {ms : List MO} {Dn : Ends} {d : D} (S : Sta K F0 B0 es ms F H σ) (h : EvD K te σ F H d) (k : ∀ v F' H', Dp K F' v d → Sta K F0 B0 es ms F' H' σ → Dn.rt v H') : tRet te Dn σ H :=
  h F H (Gr.refl S.ex) _ fun v F' H' g kv => k v F' H' kv (S.grow g)
def CPowW (i j : Int) : Prop := 0 ≤ j ∧ (Builtin.Int.intBits i : Int) * j ≤ 2 ^ 27
theorem kpowW {X : Cx} : OpR X (binaryOp .Pow) (rI CPowW fun i j => .int (i ^ j.toNat)) := opI fun _ _ _ _ _ _ _ hc q => pow_int hc.1 hc.2 q
end TT
/-! Rem -/
namespace TT
open PySem PySem.Spec PyProof.Rows L2
theorem erase_mapS : ∀ (l : List Str) (j : Nat), (l.map V.str).eraseIdx j = (l.eraseIdx j).map V.str
  | [], j => by simp
  | a :: r, 0 => by simp
  | a :: r, j + 1 => by
    have ih := erase_mapS r j
    simp [ih]
section
variable {X : Cx}
def rRemS : V → List V → Hp → VK → Prop := fun x xs H Q => ∃ (l : Addr) (ns : List Str) (k : Str) (j : Nat), x = .ref l ∧ xs = [.str k] ∧ H l = some (.lst (ns.map V.str)) ∧ ns[j]? = some k ∧ (∀ m : Nat, m < j → ns[m]? ≠ some k) ∧ Q .non (upd H l (.lst ((ns.eraseIdx j).map V.str)))
theorem mt_removeS : MtM X "list.remove" rRemS := by
  intro pins s σ H x xs v us Q I rx rxs h
  obtain ⟨l, ns, k, j, rfl, rfl, hH, hj, hno, q⟩ := h
  cases rx
  obtain ⟨u, rfl, ru⟩ := rxs.one
  obtain ⟨t, rfl⟩ := ru
  obtain ⟨z, its, n, r, hl, e⟩ := I.lstM hH
  have hi := strs_of_vals r
  rw [List.length_map] at hl z
  have hjn : j < ns.length := (List.getElem?_eq_some_iff.mp hj).1
  have hjl : j < its.toArray.size := by rw [List.size_toArray]; omega
  refine call_meets PySem.F.slot_list_remove ⟨_, e, rfl⟩ PySem.F.entry_list_remove (PySem.F.args_list_remove_2 _ _)
    (MeetsSeq.list_remove l its.toArray n (.str k t) (PyProof.Rows.isStrOf k) (fun y hy => eq_isStrOf k t hi y (by simpa using hy)) j hjl ?_ ?_ (by rw [List.size_toArray]; omega)) ⟨e, ?_⟩
  · obtain ⟨tj, hjt⟩ := hi.get j k hj
    obtain ⟨h1, h2⟩ := List.getElem?_eq_some_iff.mp hjt
    have e1 : its.toArray[j] = .str k tj := by simpa using h2
    rw [e1]
    exact beq_self_eq_true k
  · intro m hm hmj
    have hmn : m < ns.length := by omega
    obtain ⟨tm, hmt⟩ := hi.get m _ (List.getElem?_eq_getElem hmn)
    obtain ⟨h1, h2⟩ := List.getElem?_eq_some_iff.mp hmt
    have e1 : its.toArray[m] = .str ns[m] tm := by simpa using h2
    rw [e1]
    refine beq_eq_false_iff_ne.mpr fun e2 => hno m hmj ?_
    rw [List.getElem?_eq_getElem hmn, e2]
  · have rr := r.eraseIdx j
    rw [erase_mapS] at rr
    refine ⟨.non, _, I.lset (its' := its.eraseIdx j) (t' := s.toks) hH e ?_ rr ?_, rfl, q⟩
    · show its.toArray.eraseIdxIfInBounds j = (its.eraseIdx j).toArray
      rw [List.eraseIdxIfInBounds_toArray]
    · have z2 := len_erase ns j
      rw [List.length_map]
      omega
end
end TT
/-! Thr -/
/-! Building a thread step by step. -/
namespace TT
open PySem PySem.Spec PyProof.Rows L2
/-- n names that differ -/
def NamesOk (n : Nat) (xs : List Str) : Prop := xs.length = n ∧ xs.Nodup ∧ ∀ x ∈ xs, PyData.strOk x = true
theorem held_pre {t u : Th} (n : Str) : ∀ {i : Nat}, i ≤ t.length → held (t ++ u) i n = held t i n
  | 0, _ => rfl
  | i + 1, h => by
    have h' : i ≤ t.length := Nat.le_of_succ_le h
    have ih := held_pre (t := t) (u := u) n (i := i) h'
    have hl : i < t.length := h
    unfold held
    rw [List.getElem?_append_left hl, ih]
/-- a thread under way: hs is what is held -/
structure VI (t : Th) (hs : List Str) : Prop where
  lk : ∀ i w n, t[i]? = some (w, n) → isL w = true → held t i n = none
  fr : ∀ i w n, t[i]? = some (w, n) → isF w = true → (held t i n).isSome
  at_ : ∀ n, (held t t.length n).isSome = true ↔ n ∈ hs
  nd : hs.Nodup
  ok : ∀ s ∈ t, PyData.strOk s.1 = true ∧ PyData.strOk s.2 = true
theorem VI.start : VI [] [] := ⟨fun i w n h => by simp at h, fun i w n h => by simp at h, fun n => by simp [held], List.nodup_nil, fun s h => by cases h⟩
theorem VI.fin {t : Th} (h : VI t []) (hl : t.length ≤ 6) : Vd t := by
  refine ⟨hl, h.lk, h.fr, fun n => ?_, h.ok⟩
  cases c : held t t.length n with
  | none => rfl
  | some w =>
    have := (h.at_ n).mp (by rw [c]; rfl)
    cases this
theorem VI.snoc {t : Th} {hs hs' : List Str} {w m : Str} (h : VI t hs) (hl : isL w = true → m ∉ hs) (hf : isF w = true → m ∈ hs) (nd : hs'.Nodup) (ow : PyData.strOk w = true) (om : PyData.strOk m = true)
    (hm : ∀ n, n ∈ hs' ↔ if m = n then (isL w = true ∨ (isF w = false ∧ n ∈ hs)) else n ∈ hs) : VI (t ++ [(w, m)]) hs' := by
  have at_l : (t ++ [(w, m)])[t.length]? = some (w, m) := by simp
  have cases_ : ∀ i v n, (t ++ [(w, m)])[i]? = some (v, n) → (i < t.length ∧ t[i]? = some (v, n)) ∨ (i = t.length ∧ v = w ∧ n = m) := fun i v n e => by
    rcases Nat.lt_trichotomy i t.length with q | q | q
    · rw [List.getElem?_append_left q] at e
      exact .inl ⟨q, e⟩
    · rw [q, at_l] at e
      simp at e
      exact .inr ⟨q, e.1.symm, e.2.symm⟩
    · rw [List.getElem?_eq_none (by simp; omega)] at e
      cases e
  refine ⟨fun i v n e l => ?_, fun i v n e l => ?_, fun n => ?_, nd, fun s hs => ?_⟩
  · rcases cases_ i v n e with ⟨q, e'⟩ | ⟨rfl, rfl, rfl⟩
    · rw [held_pre n (by omega)]; exact h.lk i v n e' l
    · rw [held_pre n (Nat.le_refl _)]
      cases c : held t t.length n with
      | none => rfl
      | some x => exact absurd ((h.at_ n).mp (by rw [c]; rfl)) (hl l)
  · rcases cases_ i v n e with ⟨q, e'⟩ | ⟨rfl, rfl, rfl⟩
    · rw [held_pre n (by omega)]; exact h.fr i v n e' l
    · rw [held_pre n (Nat.le_refl _)]
      exact (h.at_ n).mpr (hf l)
  · rw [List.length_append, List.length_singleton, held_step at_l, held_pre n (Nat.le_refl _), hm n]
    by_cases e : m = n
    · rw [if_pos e, if_pos e]
      by_cases l : isL w = true
      · rw [if_pos l]; simp [l]
      · rw [if_neg l]
        by_cases f : isF w = true
        · rw [if_pos f]; simp [l, f]
        · rw [if_neg f, h.at_ n]; simp [l, f]
    · rw [if_neg e, if_neg e]
      exact h.at_ n
  · rcases List.mem_append.mp hs with hs | hs
    · exact h.ok s hs
    · rw [List.mem_singleton.mp hs]; exact ⟨ow, om⟩
theorem VI.lock {t : Th} {hs : List Str} {w m : Str} (h : VI t hs) (l : isL w = true) (hm : m ∉ hs) (ow : PyData.strOk w = true) (om : PyData.strOk m = true) : VI (t ++ [(w, m)]) (hs ++ [m]) := by
  refine h.snoc (fun _ => hm) (fun f => by rw [lf_not f] at l; cases l) ?_ ow om fun n => ?_
  · exact List.nodup_append.mpr ⟨h.nd, by simp, fun a ha b hb e => hm (by simp at hb; rw [← hb, ← e]; exact ha)⟩
  · rw [List.mem_append, List.mem_singleton]
    by_cases e : m = n
    · rw [if_pos e]; simp [l, e]
    · rw [if_neg e]
      constructor
      · rintro (q | q)
        · exact q
        · exact absurd q.symm e
      · exact .inl
theorem VI.free {t : Th} {hs hs' : List Str} {m : Str} (h : VI t hs) (hm : m ∈ hs) (nd : hs'.Nodup) (hh : ∀ n, n ∈ hs' ↔ n ∈ hs ∧ n ≠ m) (om : PyData.strOk m = true) : VI (t ++ [(("free" : Str), m)]) hs' := by
  have nl : isL "free" = false := by decide +kernel
  have f : isF "free" = true := by decide +kernel
  refine h.snoc (fun l => by rw [nl] at l; cases l) (fun _ => hm) nd (by decide +kernel) om fun n => ?_
  rw [hh n]
  by_cases e : m = n
  · rw [if_pos e]; simp [nl, f, e]
  · rw [if_neg e]
    have e' : ¬ n = m := fun z => e z.symm
    simp [e']
theorem VI.other {t : Th} {hs : List Str} {w m : Str} (h : VI t hs) (nl : isL w = false) (nf : isF w = false) (ow : PyData.strOk w = true) (om : PyData.strOk m = true) : VI (t ++ [(w, m)]) hs := by
  refine h.snoc (fun l => by rw [nl] at l; cases l) (fun f => by rw [nf] at f; cases f) h.nd ow om fun n => ?_
  by_cases e : m = n
  · rw [if_pos e]; simp [nl, nf]
  · rw [if_neg e]
theorem VI.frees {t : Th} : ∀ {hs : List Str}, VI t hs → (∀ m ∈ hs, PyData.strOk m = true) → VI (t ++ hs.map fun m => (("free" : Str), m)) []
  | [], h, _ => by rw [List.map_nil, List.append_nil]; exact h
  | m :: hs, h, o => by
    obtain ⟨n1, n2⟩ := List.nodup_cons.mp h.nd
    have h1 := h.free (hs' := hs) List.mem_cons_self n2 (fun n => ?_) (o m List.mem_cons_self)
    · have := VI.frees h1 fun x hx => o x (List.mem_cons_of_mem _ hx)
      rw [List.append_assoc] at this
      exact this
    · rw [List.mem_cons]
      constructor
      · intro hn
        exact ⟨.inr hn, fun e => n1 (e ▸ hn)⟩
      · rintro ⟨q | q, e⟩
        · exact absurd q e
        · exact q
theorem mem_eraseIdx {l : List Str} (nd : l.Nodup) {j : Nat} {m : Str} (h : l[j]? = some m) : (l.eraseIdx j).Nodup ∧ ∀ n, n ∈ l.eraseIdx j ↔ n ∈ l ∧ n ≠ m := by
  induction l generalizing j with
  | nil => simp at h
  | cons a l ih =>
    obtain ⟨n1, n2⟩ := List.nodup_cons.mp nd
    cases j with
    | zero =>
      simp at h
      subst h
      refine ⟨n2, fun n => ?_⟩
      simp only [List.eraseIdx_cons_zero, List.mem_cons]
      constructor
      · intro hn
        exact ⟨.inr hn, fun e => n1 (e ▸ hn)⟩
      · rintro ⟨q | q, e⟩
        · exact absurd q e
        · exact q
    | succ j =>
      have h' : l[j]? = some m := by simpa using h
      obtain ⟨i1, i2⟩ := ih n2 h'
      have hm : m ∈ l := List.mem_of_getElem? h'
      rw [List.eraseIdx_cons_succ]
      refine ⟨List.nodup_cons.mpr ⟨fun q => n1 ((i2 a).mp q).1, i1⟩, fun n => ?_⟩
      rw [List.mem_cons, List.mem_cons, i2 n]
      constructor
      · rintro (rfl | ⟨q, e⟩)
        · exact ⟨.inl rfl, fun e => n1 (e ▸ hm)⟩
        · exact ⟨.inr q, e⟩
      · rintro ⟨q | q, e⟩
        · exact .inl q
        · exact .inr ⟨q, e⟩
theorem first_at {l : List Str} {m : Str} (h : m ∈ l) : ∃ j, l[j]? = some m ∧ ∀ i : Nat, i < j → l[i]? ≠ some m := by
  induction l with
  | nil => cases h
  | cons a l ih =>
    by_cases e : a = m
    · exact ⟨0, by simp [e], fun i hi => by omega⟩
    · obtain ⟨j, h1, h2⟩ := ih ((List.mem_cons.mp h).resolve_left fun z => e z.symm)
      refine ⟨j + 1, by simpa using h1, fun i hi => ?_⟩
      cases i with
      | zero => simpa using e
      | succ i => simpa using h2 i (by omega)
section
variable {K : PySem.W.Frag} {σ : L2.St} {es es' : List SV} {F F0 B0 H : Hp} {te : TE} {i j n c : Nat} {ms : List MO} {Dn : Ends} {a p : Addr} {ds : List D} {d : D}
/-- xs.remove(text), at its first place -/
theorem st_remS {ns : List Str} {m : Str} {k : Nat} (S : Sta K F0 B0 es ms F H σ) (hi : es[i]? = some (.val (.ref p))) (hj : ms[j]? = some (.lst p (ns.map .str))) (h : EvD K te σ F H (.str m)) (hk : ns[k]? = some m) (hn : ∀ i : Nat, i < k → ns[i]? ≠ some m)
    (q : ∀ F' H', Sta K F0 B0 es (ms.set j (.lst p ((ns.eraseIdx k).map .str))) F' H' σ → Dn.nx σ H') : tDrop (tBM K "list" rRemS (tVar i) (tCons te tNil)) Dn σ H := by
  obtain ⟨hf, vs, h1, h2⟩ := S.m hj
  refine ⟨.ref p, S.so.val hi, .inl ⟨rfl, vs, SqL.of h1⟩, h F H (Gr.refl S.ex) _ fun v F' H' g kv => ?_⟩
  have S' := S.grow g
  obtain ⟨hf', vs', h1', h2'⟩ := S'.m hj
  have e := dpa_strs h2'
  subst e
  refine ⟨p, ns, m, k, rfl, by rw [dp_str kv], h1', hk, hn, q F' _ (S'.turn (m := .lst p (ns.map .str)) (m' := .lst p ((ns.eraseIdx k).map .str)) hj rfl ⟨hf', _, upd_same, dpa_map (fun s => .str s) _⟩)⟩
end

section
variable {K : PySem.W.Frag} {σ : L2.St} {es es' : List SV} {F F0 B0 H B : Hp} {te ta tb : TE} {i i2 j n c : Nat} {ms : List MO} {Dn : Ends} {a p : Addr} {ds zs : List D} {d d2 : D} {A : D → Prop} {g : TG} {tbd : TS}
theorem flat_dpa {K2 : PySem.W.Frag} {F' : Hp} : ∀ {vs : List V} {ds : List D}, (∀ d ∈ ds, flatD d = true) → DpAll K F vs ds → DpAll K2 F' vs ds
  | _, _, _, .nil => .nil
  | _, _, h, .cons a t => .cons (flat_any (h _ List.mem_cons_self) a) (flat_dpa (fun d hd => h d (List.mem_cons_of_mem _ hd)) t)
theorem en_peek (h : EvN K te σ B B zs) (hf : ∀ d ∈ zs, flatD d = true) : EvN K te σ F B zs := fun F1 H1 g Q q => h H1 H1 (gr_peek g) Q fun p vs F2 H2 g2 hp hF h2 k => q p vs F1 H2 (gr_back g.fh g2) hp (g.fh.free hp) h2 (flat_dpa hf k)
theorem for_rngS (S : Sta K F0 B0 es ms F H σ) (hj : ms[j]? = some (.src a c)) (hc : c + n ≤ 100000) (h : EvS K a te σ F (del H a) n A) (hA : ∀ d, A d → ∃ r : Nat, d = .int (r : Nat))
    (k : ∀ (r : Nat) c' F' H', c' ≤ c + n → A (.int (r : Nat)) → Sta K F0 B0 es (ms.set j (.src a c')) F' H' σ → tFor (iRng1 (tCons (tC (.int (r : Nat))) tNil)) g tbd Dn σ H') : tFor (iRng1 (tCons te tNil)) g tbd Dn σ H :=
  stS S hj hc h fun v d F' H' c' hc' hd e kv S' => by
    obtain ⟨r, rfl⟩ := hA d hd
    have := k r c' F' H' hc' hd S'
    rw [dp_int kv]
    exact this
/-- x, y = (e with draws), (e without) -/
theorem st_parSD (S : Sta K F0 B0 es ms F H σ) (hj : ms[j]? = some (.src a c)) (hc : c + n ≤ 100000) (h : EvS K a ta σ F (del H a) n A) (h2 : ∀ F' H' c', Sta K F0 B0 es (ms.set j (.src a c')) F' H' σ → EvD K tb σ F' H' d2)
    (k : ∀ d F' H' σ' c', c' ≤ c + n → A d → Sta K F0 B0 ((es.set i (.dat d)).set i2 (.dat d2)) (ms.set j (.src a c')) F' H' σ' → Dn.nx σ' H') : tPar i i2 (tCons ta (tCons tb tNil)) Dn σ H :=
  stS (Q := fun v H1 => tb σ H1 fun w H2 => tNil σ H2 fun vs H3 => ∃ x y, v :: w :: vs = [x, y] ∧ Dn.nx ((σ.set i (some x)).set i2 (some y)) H3) S hj hc h fun v d F' H' c' hc' hd e kv S' =>
    h2 F' H' c' S' F' H' (Gr.refl S'.ex) _ fun w F2 H2 g2 kw => ⟨v, w, rfl, k d F2 H2 _ c' hc' hd (((S'.grow g2).set i (kv.ex g2.ff)).set i2 kw)⟩
/-- a list that changes is looked at, the source apart -/
theorem Sta.pkd (S : Sta K F0 B0 es ms F H σ) (hj : ms[j]? = some (.src a c)) (hi : es[i]? = some (.val (.ref p))) (hj2 : ms[i2]? = some (.lst p ds)) (hjj : j ≠ i2) : SO K (del H a) σ (es.set i (.dat (.list ds))) := by
  obtain ⟨hf, vs, h1, h2⟩ := S.m hj2
  have ne : p ≠ a := fun z => S.ne hj hj2 hjj z.symm
  have e : Ex F (del H a) := ex_del (S.m hj).free S.ex
  exact (S.so.ex e).put (S.so.val hi) (.lst (SqL.of (by rw [del_ne ne]; exact h1)) (h2.ex e))
/-- a list that changes, frozen for one expression with draws -/
theorem es_look (S : Sta K F0 B0 es ms F H σ) (hj : ms[j]? = some (.src a c)) (hi : es[i]? = some (.val (.ref p))) (hj2 : ms[i2]? = some (.lst p ds)) (hjj : j ≠ i2) (hA : ∀ d, A d → flatD d = true)
    (h : ∀ F', SO K F' σ (es.set i (.dat (.list ds))) → EvS K a te σ F' (del H a) n A) : EvS K a te σ F (del H a) n A := by
  obtain ⟨hf, vs, h1, h2⟩ := S.m hj2
  have ne : p ≠ a := fun z => S.ne hj hj2 hjj z.symm
  exact es_peek hf (by rw [del_ne ne]; exact h1) ne (h _ ((S.so.ex (Ex.new hf)).put (S.so.val hi) (.lst (SqL.of upd_same) (h2.ex (Ex.new hf))))) hA
end
end TT
/-! Crs -/
namespace TT
open PySem PySem.Spec PyProof.Rows L2
section
variable {K : PySem.W.Frag} {σ : L2.St} {es es' : List SV} {F F0 B0 H B : Hp} {te ta tb : TE} {i i3 j j2 j3 n m c : Nat} {ms : List MO} {Dn : Ends} {a p p3 : Addr} {ds zs : List D} {d d2 : D} {A : D → Prop} {Q : VK}
/-- xs.pop(e), e a draw of a place -/
theorem stS_pop (S : Sta K F0 B0 es ms F H σ) (hj : ms[j]? = some (.src a c)) (hc : c + n ≤ 100000) (hi : es[i]? = some (.val (.ref p))) (hj2 : ms[j2]? = some (.lst p ds)) (hjj : j ≠ j2) (hz : ds.length ≤ 1000)
    (h : EvS K a te σ F (del H a) n (fun d => ∃ r : Nat, r < ds.length ∧ d = .int (r : Nat)))
    (k : ∀ v d (r : Nat) F' H' c', c' ≤ c + n → ds[r]? = some d → Ex F F' → Dp K F' v d → Sta K F0 B0 es ((ms.set j (.src a c')).set j2 (.lst p (ds.eraseIdx r))) F' H' σ → Q v H') : tBM K "list" rPopAt (tVar i) (tCons te tNil) σ H Q := by
  obtain ⟨hf, vs, h1, h2⟩ := S.m hj2
  refine ⟨.ref p, S.so.val hi, .inl ⟨rfl, vs, SqL.of h1⟩, ?_⟩
  refine stS (Q := fun v H1 => tNil σ H1 fun vs H2 => rPopAt (.ref p) (v :: vs) H2 Q) S hj hc h fun v d F' H' c' hc' hd e kv S' => ?_
  obtain ⟨r, hr, rfl⟩ := hd
  have hj2' : (ms.set j (.src a c'))[j2]? = some (.lst p ds) := by rw [List.getElem?_set_ne hjj]; exact hj2
  obtain ⟨hf', vs', h1', h2'⟩ := S'.m hj2'
  obtain ⟨w, hw, kw⟩ := h2'.get (List.getElem?_eq_getElem hr)
  have hl : r < vs'.length := (List.getElem?_eq_some_iff.mp hw).1
  refine ⟨p, vs', (r : Int), r, w, rfl, by rw [dp_int kv], h1', by omega, by omega, ?_, hw, k w ds[r] r F' _ c' hc' (List.getElem?_eq_getElem hr) e kw (S'.turn (m := .lst p ds) (m' := .lst p (ds.eraseIdx r)) hj2' rfl ⟨hf', _, upd_same, h2'.erase r⟩)⟩
  unfold seqIndex?
  simp
  omega
/-- ys.append(xs.pop(e)) -/
theorem stS_app0 (S : Sta K F0 B0 es ms F H σ) (hj : ms[j]? = some (.src a c)) (hc : c + n ≤ 100000) (hi : es[i]? = some (.val (.ref p))) (hj2 : ms[j2]? = some (.lst p ds)) (hjj : j ≠ j2) (hz : ds.length ≤ 1000)
    (hi3 : es[i3]? = some (.val (.ref p3))) (hj3 : ms[j3]? = some (.lst p3 zs)) (h13 : j ≠ j3) (h23 : j2 ≠ j3) (hz3 : zs.length < 100000) (h : EvS K a te σ F (del H a) n (fun d => ∃ r : Nat, r < ds.length ∧ d = .int (r : Nat)))
    (k : ∀ d (r : Nat) F' H' c', c' ≤ c + n → ds[r]? = some d → Sta K F0 B0 es (((ms.set j (.src a c')).set j2 (.lst p (ds.eraseIdx r))).set j3 (.lst p3 (zs ++ [d]))) F' H' σ → Dn.nx σ H') :
    tDrop (tBM K "list" rAppend (tVar i3) (tCons (tBM K "list" rPopAt (tVar i) (tCons te tNil)) tNil)) Dn σ H := by
  obtain ⟨hf, vs, h1, h2⟩ := S.m hj3
  refine ⟨.ref p3, S.so.val hi3, .inl ⟨rfl, vs, SqL.of h1⟩, ?_⟩
  refine stS_pop (Q := fun v H1 => tNil σ H1 fun vs H2 => rAppend (.ref p3) (v :: vs) H2 fun _ H3 => Dn.nx σ H3) S hj hc hi hj2 hjj hz h fun v d r F' H' c' hc' hd e kv S' => ?_
  have hj3' : ((ms.set j (.src a c')).set j2 (.lst p (ds.eraseIdx r)))[j3]? = some (.lst p3 zs) := by rw [List.getElem?_set_ne h23, List.getElem?_set_ne h13]; exact hj3
  obtain ⟨hf', vs', h1', h2'⟩ := S'.m hj3'
  exact ⟨p3, vs', v, rfl, rfl, h1', Nat.lt_of_lt_of_le (by rw [h2'.len]; exact hz3) (by decide), k d r F' _ c' hc' hd (S'.turn (m := .lst p3 zs) (m' := .lst p3 (zs ++ [d])) hj3' rfl ⟨hf', _, upd_same, h2'.snoc kv⟩)⟩
/-- ys.append((x, xs.pop(e))) -/
theorem stS_app2 {n2 : Nat} (S : Sta K F0 B0 es ms F H σ) (hj : ms[j]? = some (.src a c)) (hc : c + (n2 + n) ≤ 100000) (hi : es[i]? = some (.val (.ref p))) (hj2 : ms[j2]? = some (.lst p ds)) (hjj : j ≠ j2) (hz : ds.length ≤ 1000)
    (hi3 : es[i3]? = some (.val (.ref p3))) (hj3 : ms[j3]? = some (.lst p3 zs)) (h13 : j ≠ j3) (h23 : j2 ≠ j3) (hz3 : zs.length < 100000) (h0 : EvS K a ta σ F (del H a) n2 A)
    (h : ∀ F' H' c', c' ≤ c + n2 → Sta K F0 B0 es (ms.set j (.src a c')) F' H' σ → EvS K a te σ F' (del H' a) n (fun d => ∃ r : Nat, r < ds.length ∧ d = .int (r : Nat)))
    (k : ∀ x d (r : Nat) F' H' c', c' ≤ c + (n2 + n) → A x → ds[r]? = some d → Sta K F0 B0 es (((ms.set j (.src a c')).set j2 (.lst p (ds.eraseIdx r))).set j3 (.lst p3 (zs ++ [.tuple [x, d]]))) F' H' σ → Dn.nx σ H') :
    tDrop (tBM K "list" rAppend (tVar i3) (tCons (tTup (tCons ta (tCons (tBM K "list" rPopAt (tVar i) (tCons te tNil)) tNil))) tNil)) Dn σ H := by
  obtain ⟨hf, vs, h1, h2⟩ := S.m hj3
  refine ⟨.ref p3, S.so.val hi3, .inl ⟨rfl, vs, SqL.of h1⟩, ?_⟩
  let Qe : V → V → Hp → Prop := fun x v H1 => [x, v].length ≤ sizeLine ∧ ∀ l, H1 l = none → rAppend (.ref p3) [.ref l] (upd H1 l (.tup [x, v])) fun _ H3 => Dn.nx σ H3
  refine stS (Q := fun x H1 => tBM K "list" rPopAt (tVar i) (tCons te tNil) σ H1 (Qe x)) S hj (by omega) h0 fun x dx F1 H1 c1 hc1 hx e1 kx S1 => ?_
  have hj1 : (ms.set j (.src a c1))[j]? = some (.src a c1) := List.getElem?_set_self (List.getElem?_eq_some_iff.mp hj).1
  have hj21 : (ms.set j (.src a c1))[j2]? = some (.lst p ds) := by rw [List.getElem?_set_ne hjj]; exact hj2
  refine stS_pop (Q := Qe x) S1 hj1 (by omega) hi hj21 hjj hz (h F1 H1 c1 hc1 S1) fun v d r F' H' c' hc' hd e kv S' => ⟨by show 2 ≤ sizeLine; decide, fun l hl => ?_⟩
  have S2 := S'.grow (Gr.new (o := .tup [x, v]) S'.ex hl)
  have kt : Dp K (upd F' l (.tup [x, v])) (.ref l) (.tuple [dx, d]) := .tup (SqT.of upd_same) (.cons ((kx.ex e).ex (Ex.new (S'.ex.free hl))) (.cons (kv.ex (Ex.new (S'.ex.free hl))) .nil))
  have ems : ((ms.set j (.src a c1)).set j (.src a c')) = ms.set j (.src a c') := List.set_set _
  rw [ems] at S2
  have hj3' : ((ms.set j (.src a c')).set j2 (.lst p (ds.eraseIdx r)))[j3]? = some (.lst p3 zs) := by rw [List.getElem?_set_ne h23, List.getElem?_set_ne h13]; exact hj3
  obtain ⟨hf', vs', h1', h2'⟩ := S2.m hj3'
  exact ⟨p3, vs', .ref l, rfl, rfl, h1', Nat.lt_of_lt_of_le (by rw [h2'.len]; exact hz3) (by decide), k dx d r _ _ c' (by omega) hx hd (S2.turn (m := .lst p3 zs) (m' := .lst p3 (zs ++ [.tuple [dx, d]])) hj3' rfl ⟨hf', _, upd_same, h2'.snoc kt⟩)⟩
/-- int(e == 0), e a draw -/
theorem es_int0 {A : D → Prop} (h : EvS K a te σ F B n A) (hA : ∀ d, A d → ∃ r : Nat, d = .int (r : Nat)) : EvS K a (tCB (fun xs H Q => (∃ i, xs = [.int i] ∧ Q (.int i) H) ∨ ∃ k, xs = [.bl k] ∧ Q (.int (if k then 1 else 0)) H) (tCons (tOp rEq te (tC (.int 0))) tNil)) σ F B n (fun d => ∃ k : Nat, k ≤ 1 ∧ d = .int (k : Nat)) := fun F1 H1 c g mm hc Q q =>
  h F1 H1 c g mm hc _ fun v d F2 H2 c2 g2 m2 hc2 hd kv => by
    obtain ⟨r, rfl⟩ := hA d hd
    refine ⟨by rw [dp_int kv]; rfl, .inr ⟨decide (r = 0), ?_, ?_⟩⟩
    · rw [dp_int kv, dec_vint]
      congr 2
      rw [decide_eq_decide]
      omega
    · by_cases z : r = 0
      · have e : (if decide (r = 0) = true then (1 : Int) else 0) = ((1 : Nat) : Int) := by simp [z]
        rw [e]
        exact q _ _ F2 H2 c2 g2 m2 hc2 ⟨1, by decide, rfl⟩ (.int _)
      · have e : (if decide (r = 0) = true then (1 : Int) else 0) = ((0 : Nat) : Int) := by simp [z]
        rw [e]
        exact q _ _ F2 H2 c2 g2 m2 hc2 ⟨0, by decide, rfl⟩ (.int _)
/-- ys.extend([x] * int(e == 0)), e a draw -/
theorem stS_ext {tx tt : TE} (S : Sta K F0 B0 es ms F H σ) (hj : ms[j]? = some (.src a c)) (hc : c + n ≤ 100000) (hi3 : es[i3]? = some (.val (.ref p3))) (hj3 : ms[j3]? = some (.lst p3 zs)) (h13 : j ≠ j3) (hz3 : zs.length < 90000) (hx : EvD K tx σ F H d)
    (h : ∀ F' H', Sta K F0 B0 es ms F' H' σ → EvS K a tt σ F' (del H' a) n (fun d => ∃ k : Nat, k ≤ 1 ∧ d = .int (k : Nat)))
    (k : ∀ (t : Nat) F' H' c', t ≤ 1 → c' ≤ c + n → Sta K F0 B0 es ((ms.set j (.src a c')).set j3 (.lst p3 (zs ++ List.replicate t d))) F' H' σ → Dn.nx σ H') :
    tDrop (tBM K "list" rExtend (tVar i3) (tCons (tOp rRep (tLst (tCons tx tNil)) tt) tNil)) Dn σ H := by
  obtain ⟨hf, vs, h1, h2⟩ := S.m hj3
  refine ⟨.ref p3, S.so.val hi3, .inl ⟨rfl, vs, SqL.of h1⟩, ?_⟩
  have en : EvN K (tLst (tCons tx tNil)) σ F H [d] := en_lst (ea_cons hx ea_nil) (by show 1 ≤ 100000; decide)
  refine en F H (Gr.refl S.ex) (fun u H1 => tt σ H1 fun w H2 => rRep u w H2 fun y H3 => tNil σ H3 fun vs H4 => rExtend (.ref p3) (y :: vs) H4 fun _ H5 => Dn.nx σ H5) fun q us F1 H1 g1 hq hqf hqH ku => ?_
  have S1 := S.made (m := .lst q [d]) g1 hq ⟨hqf, us, hqH, ku⟩
  have Sx : Sta K F0 B0 es ms F1 H1 σ := S1.drop1
  have hj' : (MO.lst q [d] :: ms)[j + 1]? = some (.src a c) := hj
  refine stS (Q := fun v H2 => rRep (.ref q) v H2 fun w H3 => tNil σ H3 fun vs H4 => rExtend (.ref p3) (w :: vs) H4 fun _ H5 => Dn.nx σ H5) S1 hj' hc (h F1 H1 Sx) fun v d' F2 H2 c2 hc2 hd e kv S2 => ?_
  obtain ⟨t, ht, rfl⟩ := hd
  obtain ⟨qf, us2, qH, qk⟩ := S2.m (j := 0) (m := .lst q [d]) rfl
  have hul : us2.length = 1 := by rw [qk.len]; rfl
  refine ⟨q, (t : Int), us2, rfl, dp_int kv, qH, by omega, by omega, by rw [hul]; exact Nat.le_trans (show 1 * (t : Int).toNat ≤ 1 by omega) (by decide), fun l hl => ?_⟩
  have S3 : Sta K F0 B0 es (ms.set j (.src a c2)) F2 (upd H2 l (.lst (List.replicate (t : Int).toNat us2).flatten)) σ := (S2.drop1).grow (Gr.mut S2.ex hl)
  have hj3' : (ms.set j (.src a c2))[j3]? = some (.lst p3 zs) := by rw [List.getElem?_set_ne h13]; exact hj3
  obtain ⟨f3, vs3, h3, k3⟩ := S3.m hj3'
  have rep : (List.replicate (t : Int).toNat [d]).flatten = List.replicate t d := by
    rw [Int.toNat_natCast]
    clear hj3' S3 h3 k3 kv hc2 e
    induction t with
    | zero => rfl
    | succ t ih => rw [List.replicate_succ, List.flatten_cons, ih (by omega)]; rfl
  have kz := flatten_dpa qk (t : Int).toNat
  rw [rep] at kz
  refine ⟨p3, l, vs3, _, rfl, rfl, h3, upd_same, ?_, ?_⟩
  · rw [k3.len, kz.len, List.length_replicate]
    exact Nat.le_trans (show zs.length + t ≤ 100000 by omega) (by decide)
  · exact k t F2 _ c2 ht hc2 (S3.turn (m := .lst p3 zs) (m' := .lst p3 (zs ++ List.replicate t d)) hj3' rfl ⟨f3, _, upd_same, k3.app kz⟩)
end
end TT
/-! Sum -/
/-! sum(list of tuples, ()) -/
namespace TT
open PySem PySem.Spec PyProof.Rows L2
section
variable {prog : Program} {w : World} {A : Around} {R : Result → Shared → Prop} {I : Addr} {fp wr : List Addr} {n : Nat} {P : Nat → Value → Prop} {St : Nat → Heap → Prop}
theorem tup_upd {h : Heap} {S T : Addr} {f : Obj → Obj} {xs : Array Value} (ne : S ≠ T) (x : IsTup h T xs) : IsTup (h.update S f) T xs :=
  let ⟨o, ho, r⟩ := x; ⟨o, (Heap.get?_update_other _ _ ne).trans ho, r⟩
def LoS (t0 n0 : Nat) (as : Nat → Addr) (i T : Nat) : Prop := (i = 0 → T = t0) ∧ (i = 1 → T = as 0) ∧ (2 ≤ i → n0 ≤ T)
theorem codeAny_sum_tups (W : Walks prog w A.in1 I fp wr n P St) (xss : List (List Value)) (hn : n = xss.length) (as : Nat → Addr) (hP : ∀ i v, P i v → v = .ref (as i)) (S : Addr) (hSf : S ∉ fp) (t0 n0 : Nat) (hz : xss.flatten.length ≤ sizeLine)
    (hne : ∀ xs ∈ xss, xs ≠ []) (hw : ∀ b ∈ wr, n0 ≤ b) (hS0 : n0 ≤ S) (hsz : ∀ i h, St i h → ∀ b ∈ wr, b < h.objs.size) (hlt : ∀ j, j < n → as j < n0) :
    ∀ (k i : Nat) (s : Shared) (T : Addr) (c : Nat), n - i = k → i ≤ n → St i s.heap → s.heap.get? S = some { cls := .type "list", dict := none, data := .seq #[.ref T] c, slots := #[] } →
    IsTup s.heap T (xss.take i).flatten.toArray → (∀ j xs, xss[j]? = some xs → IsTup s.heap (as j) xs.toArray) → T ∉ wr → T ≠ S → LoS t0 n0 as i T →
    (∀ h' tk T', (∀ b o, b ∉ wr → b ≠ S → s.heap.get? b = some o → h'.get? b = some o) → IsTup h' T' xss.flatten.toArray → LoS t0 n0 as n T' → R (.ok (.ret (.ref T'))) { s with heap := h', toks := tk }) →
    codeAny (model prog w) A (.builtin "sum.loop" ⟨[.ref I, .ref S, rawInt 2, rawInt 0], []⟩) R s := by
  have hSw : S ∉ wr := fun h => hSf (W.sub _ h)
  intro k
  induction k with
  | zero =>
    intro i s T c hk hi hst hS hT _ _ _ lo hR
    have hin : i = n := by omega
    subst hin
    refine codeAny_builtin F.entry_sum_loop ?_
    rw [Around.under_plainId F.plain_sum_loop _]
    show wpAny _ A.in1 (seqItems? (.ref S) >>= _) _ _ s
    refine wpAny_bind (wpAny_seqItems hS rfl ?_)
    show wpAny _ A.in1 (tryCatch (pyNext (.ref I)) _ >>= _) _ _ s
    refine wpAny_bind (wpAny_tryCatch (W.done s _ _ hst fun h' tk hk' => ?_))
    rw [hn, List.take_length] at hT
    obtain ⟨o, ho, r⟩ := hT
    exact wpAny_pure (hR h' tk T (fun b o hbw _ e => hk' b o hbw e) ⟨o, hk' T o (by assumption) ho, r⟩ lo)
  | succ k ih =>
    intro i s T c hk hi hst hS hT has hTw hTS lo hR
    have hlt' : i < n := by omega
    refine codeAny_builtin F.entry_sum_loop ?_
    rw [Around.under_plainId F.plain_sum_loop _]
    show wpAny _ A.in1 (seqItems? (.ref S) >>= _) _ _ s
    refine wpAny_bind (wpAny_seqItems hS rfl ?_)
    show wpAny _ A.in1 (tryCatch (pyNext (.ref I)) _ >>= _) _ _ s
    refine wpAny_bind (wpAny_tryCatch (W.item i s _ _ hlt' hst fun v h' tk hPv hst' hk' => ?_))
    have hv := hP i v hPv
    subst hv
    have hS' := hk' S _ hSw hS
    have hil : i < xss.length := by omega
    obtain ⟨xs, hxs⟩ : ∃ xs, xss[i]? = some xs := ⟨_, List.getElem?_eq_getElem hil⟩
    have hxne : xs ≠ [] := hne xs (List.mem_of_getElem? hxs)
    have has' : ∀ j xs, xss[j]? = some xs → IsTup h' (as j) xs.toArray := fun j ys e => by
      obtain ⟨o, ho, r⟩ := has j ys e
      refine ⟨o, hk' _ o (fun z => ?_) ho, r⟩
      exact Nat.lt_irrefl _ (Nat.lt_of_lt_of_le (hlt j (by rw [hn]; exact (List.getElem?_eq_some_iff.mp e).1)) (hw _ z))
    have hai := has' i xs hxs
    have hT' : IsTup h' T (xss.take i).flatten.toArray := by
      obtain ⟨o, ho, r⟩ := hT
      exact ⟨o, hk' T o hTw ho, r⟩
    have htk : (xss.take (i + 1)).flatten = (xss.take i).flatten ++ xs := by
      rw [List.take_add_one, hxs, Option.toList_some, List.flatten_append]
      simp
    have hlen : (xss.take i).flatten.length + xs.length ≤ sizeLine := by
      have e : xss = xss.take (i + 1) ++ xss.drop (i + 1) := (List.take_append_drop _ _).symm
      have : xss.flatten.length = (xss.take (i + 1)).flatten.length + (xss.drop (i + 1)).flatten.length := by
        rw [← List.length_append, ← List.flatten_append, ← e]
      rw [htk, List.length_append] at this
      omega
    -- what follows the addition
    have next : ∀ (g : Heap) (T' : Addr), (∀ b o, h'.get? b = some o → g.get? b = some o) → IsTup g T' (xss.take (i + 1)).flatten.toArray → T' ∉ wr → T' ≠ S → LoS t0 n0 as (i + 1) T' →
        wpAny (model prog w) A.in1 (do updateSeq S fun _ => #[.ref T']; letGo [.ref T, .ref (as i)]; updateSeq S fun _ => #[.ref T']; again (.builtin "sum.loop" ⟨[.ref I, .ref S, rawInt 2, rawInt 0], []⟩) : Sem Fin)
          (fun fin s' => match fin with | .done f => R (.ok f) s' | .again c' => c'.quiet = true ∧ codeAny (model prog w) A c' R s') (fun e s' => R (.error e) s') { s with heap := g, toks := tk } := by
      intro g T' hg hTg hw' hS2 lo'
      have hSg := hg _ _ hS'
      refine wpAny_bind ?_
      refine wpAny_updateSeq hSg rfl ?_
      have hS3 := Heap.get?_update_self (Obj.mapSeq fun _ => #[Value.ref T']) hSg rfl
      refine wpAny_bind (wpAny_letGo ?_)
      refine wpAny_bind ?_
      refine wpAny_updateSeq hS3 rfl (wpAny_pure ⟨plainId_quiet F.plain_sum_loop _, ih (i + 1) _ T' _ (by omega) hlt' (W.frame _ _ _ hst' fun b hb o e => ?_) (Heap.get?_update_self _ hS3 rfl) ?_ (fun j ys e => ?_) hw' hS2 lo' fun h'' tk'' T'' hk'' hT'' lo'' => ?_⟩)
      · have ne : S ≠ b := fun h : S = b => hSf (by rw [h]; exact hb)
        exact (Heap.get?_update_other _ _ ne).trans ((Heap.get?_update_other _ _ ne).trans (hg _ _ e))
      · exact tup_upd (Ne.symm hS2) (tup_upd (Ne.symm hS2) hTg)
      · have h2 := hlt j (by rw [hn]; exact (List.getElem?_eq_some_iff.mp e).1)
        have ne : S ≠ as j := fun z => Nat.lt_irrefl _ (Nat.lt_of_lt_of_le (z ▸ h2) hS0)
        exact tup_upd ne (tup_upd ne ((has' j ys e).keeps hg))
      · exact hR h'' tk'' T'' (fun b o hbw hbS e => hk'' b o hbw hbS ((Heap.get?_update_other _ _ (Ne.symm hbS)).trans ((Heap.get?_update_other _ _ (Ne.symm hbS)).trans (hg _ _ (hk' b o hbw e))))) hT'' lo''
    show wpAny _ A.in1 ((holding [Value.ref (as i)] (binaryOp .Add (.ref T) (.ref (as i)))).attempt >>= _) _ _ _
    refine wpAny_bind (wpAny_attempt (wpAny_holding ?_))
    have hlti := hlt i hlt'
    by_cases h0 : i = 0
    · subst h0
      refine cat_tup0 hT' hai ?_
      refine next h' (as 0) (fun _ _ e => e) (by rw [htk]; exact hai) (fun z => Nat.lt_irrefl _ (Nat.lt_of_lt_of_le hlti (hw _ z))) (fun z => Nat.lt_irrefl _ (Nat.lt_of_lt_of_le (z ▸ hlti) hS0)) ⟨fun z => by omega, fun _ => rfl, fun z => by omega⟩
    · have hv : (xss.take i).flatten ≠ [] := fun z => by
        obtain ⟨x0, r0, e0⟩ : ∃ x0 r0, xss = x0 :: r0 := by
          cases xss with
          | nil => simp at hil
          | cons a b => exact ⟨a, b, rfl⟩
        subst e0
        have : i = (i - 1) + 1 := by omega
        rw [this, List.take_succ_cons, List.flatten_cons, List.append_eq_nil_iff] at z
        exact hne x0 (by simp) z.1
      refine HT.cat_tup hT' hai hv (fun z => absurd z hxne) (fun _ => ?_) hlen
      have hSl : S < h'.objs.size := Heap.lt_size hS'
      refine next _ h'.objs.size (fun _ _ e => Heap.get?_push_of_some _ e) (by rw [htk]; exact IsTup.new _ _) (fun z => Nat.lt_irrefl _ (hsz _ _ hst' _ z)) (fun z => Nat.lt_irrefl _ (z ▸ hSl)) ⟨fun z => by omega, fun z => by omega, fun _ => Nat.le_trans hS0 (Nat.le_of_lt hSl)⟩
end

theorem args_sum2 (a b : Value) : argsOk "sum" ⟨[a, b], []⟩ := by unfold argsOk; kernel_rfl
section
variable {prog : Program} {w : World} {A : Around} {E : Value → Shared → Prop} {s : Shared}
theorem sum_tups_raw {l t0 : Addr} {items : Array Value} {Q : Value → Shared → Prop} (hh : A.handled = none) (hl : s.heap.IsList l items) (ht0 : IsTup s.heap t0 ([] : List Value).toArray) (as : Nat → Addr) (xss : List (List Value)) (hn : items.size = xss.length)
    (hP : ∀ (i : Nat) v, items[i]? = some v → v = .ref (as i)) (has : ∀ j xs, xss[j]? = some xs → IsTup s.heap (as j) xs.toArray) (hne : ∀ xs ∈ xss, xs ≠ []) (hz : xss.flatten.length ≤ sizeLine)
    (h : ∀ h' tk T', (∀ b o, s.heap.get? b = some o → h'.get? b = some o) → IsTup h' T' xss.flatten.toArray → LoS t0 s.heap.objs.size as items.size T' → Q (.ref T') { s with heap := h', toks := tk }) :
    wpAny (model prog w) A (call (.builtin "sum") [.ref l, .ref t0]) Q E s := by
  have hlt : l < s.heap.objs.size := by obtain ⟨_, e, _⟩ := hl; exact Heap.lt_size e
  refine call_function_tree F.kind_sum F.plain_sum F.entry_sum (args_sum2 _ _) ?_
  unfold Builtin.«sum»
  simp only [List.length_cons, List.length_nil]
  rw [if_neg (by decide)]
  refine wpAny_bind (wpAny_of_eq (show Builtin.Builtins.bindParams "sum" ["start"] 0 ⟨[.ref t0], []⟩ = pure [some (.ref t0)] from rfl) ?_)
  refine wpAny_bind (wpAny_pyIter_list hl ?_)
  have hlI : l ≠ s.heap.objs.size := Nat.ne_of_lt hlt
  let s2 : Shared := { s with heap := s.heap.push { cls := .type "list_iterator", data := .fields #[.ref l, .int 0 0] } }
  have st2 : s2.heap.IsListIter s.heap.objs.size l 0 ∧ s2.heap.IsList l items := ⟨⟨_, Heap.get?_push_size _ rfl, rfl, rfl⟩, hl.push _⟩
  have ht2 : IsTup s2.heap t0 ([] : List Value).toArray := ht0.push _
  have has2 : ∀ j xs, xss[j]? = some xs → IsTup s2.heap (as j) xs.toArray := fun j xs e => (has j xs e).push _
  have k2 : ∀ b o, s.heap.get? b = some o → s2.heap.get? b = some o := fun b o e => Heap.get?_push_of_some _ e
  have sz2 : s2.heap.objs.size = s.heap.objs.size + 1 := Heap.size_push ..
  show wpAny _ _ _ _ _ s2
  have hTs : s2.TypeIs (.ref t0) "tuple" := IsTup.typeIs ht2
  refine wpAny_bind (wpAny_pure ?_)
  simp only [List.forIn_cons, List.forIn_nil]
  refine wpAny_bind (wpAny_bind (wpAny_bind (wpAny_isInstance (T := "tuple") (b := false) hTs PyProof.Rows.sub_tuple_str ?_)))
  simp only [Bool.false_eq_true, if_false]
  refine wpAny_pure (wpAny_bind (wpAny_bind (wpAny_isInstance (T := "tuple") (b := false) hTs F.sub_tuple_bytes ?_)))
  simp only [Bool.false_eq_true, if_false]
  refine wpAny_pure (wpAny_bind (wpAny_bind (wpAny_isInstance (T := "tuple") (b := false) hTs F.sub_tuple_bytearray ?_)))
  simp only [Bool.false_eq_true, if_false]
  refine wpAny_pure (wpAny_pure ?_)
  refine wpAny_bind (wpAny_newObj_type ?_)
  have t0lt : t0 < s.heap.objs.size := ht0.lt
  refine wpAny_pure ⟨plainId_quiet F.plain_sum_loop _, codeAny_sum_tups (fp := [s.heap.objs.size, l]) (wr := [s.heap.objs.size]) (Walks.list (A := A.in1) hh _ l hlI items) xss hn as hP s2.heap.objs.size (fun hm => ?_) t0 s.heap.objs.size hz hne (fun b hb => by simp at hb; exact Nat.le_of_eq hb.symm) (by rw [sz2]; exact Nat.le_succ _) (fun i h st b hb => by
      simp at hb
      subst hb
      obtain ⟨_, e, _⟩ := st.1
      exact Heap.lt_size e) (fun j hj => (has j _ (List.getElem?_eq_getElem (by rw [← hn]; exact hj))).lt) items.size 0 _ t0 0 rfl (Nat.zero_le _) ?_ (Heap.get?_push_size _ rfl) ?_ (fun j xs e => (has2 j xs e).push _) (fun hm => ?_) (fun z => ?_) ⟨fun _ => rfl, fun z => by omega, fun z => by omega⟩ fun h' tk T' hk hT' lo => ?_⟩
  · simp at hm
    rcases hm with z | z
    · rw [sz2] at z; exact Nat.succ_ne_self _ z
    · rw [sz2] at z; exact Nat.lt_irrefl _ (Nat.lt_succ_of_lt (z ▸ hlt))
  · exact ⟨⟨_, Heap.get?_push_of_some _ st2.1.choose_spec.1, st2.1.choose_spec.2⟩, st2.2.push _⟩
  · exact ht2.push _
  · simp at hm
    exact Nat.ne_of_lt t0lt hm
  · rw [sz2] at z; exact Nat.lt_irrefl _ (Nat.lt_succ_of_lt (z ▸ t0lt))
  · refine h h' tk T' (fun b o e => hk b o (fun hm => ?_) (fun z => ?_) (Heap.get?_push_of_some _ (k2 b o e))) hT' lo
    · simp at hm
      exact Nat.ne_of_lt (Heap.lt_size e) hm
    · rw [sz2] at z; exact Nat.lt_irrefl _ (Nat.lt_succ_of_lt (z ▸ Heap.lt_size e))
end
section
variable {X : Cx} {K : PySem.W.Frag}
/-- sum(list of tuples, ()), the tuples not empty -/
def rSumT (K : PySem.W.Frag) : List V → Hp → VK → Prop := fun vs H Q => ∃ (l t0 : Addr) (as : List Addr) (xss : List (List V)), vs = [.ref l, .ref t0] ∧ SqL K H l (as.map .ref) ∧ SqT K H t0 [] ∧ as.length = xss.length ∧
  (∀ (j : Nat) (a : Addr) (xs : List V), as[j]? = some a → xss[j]? = some xs → SqT K H a xs) ∧ (∀ xs ∈ xss, xs ≠ []) ∧ xss.flatten.length ≤ sizeLine ∧ as ≠ [] ∧ (∀ a, as = [a] → Q (.ref a) H) ∧ (as.length ≠ 1 → ∀ p, H p = none → Q (.ref p) (upd H p (.tup xss.flatten)))
theorem vals_refs : ∀ {as : List Addr} {us : List Value}, Vals (as.map V.ref) us → us = as.map Value.ref
  | [], _, .nil => rfl
  | a :: as, _, .cons r t => by cases r; rw [vals_refs t]; rfl
theorem tups_vals {pins : List (Addr × Obj)} {σ : L2.St} {H : Hp} {s : Shared} (I : Inv X pins σ H s) : ∀ (as : List Addr) (xss : List (List V)), as.length = xss.length → (∀ (j : Nat) (a : Addr) (xs : List V), as[j]? = some a → xss[j]? = some xs → SqT X.K H a xs) →
    ∃ vss : List (List Value), vss.length = xss.length ∧ Vals xss.flatten vss.flatten ∧ (∀ (j : Nat) (a : Addr) (ys : List Value), as[j]? = some a → vss[j]? = some ys → IsTup s.heap a ys.toArray ∧ ∃ xs ∈ xss, ys.length = xs.length)
  | [], [], _, _ => ⟨[], rfl, .nil, fun j a ys h => by simp at h⟩
  | a :: as, xs :: xss, hl, h => by
    obtain ⟨vss, h1, h2, h3⟩ := tups_vals I as xss (by simpa using hl) fun j a xs e1 e2 => h (j + 1) a xs e1 e2
    obtain ⟨its, r, p, _⟩ := I.tuple (h 0 a xs rfl rfl)
    refine ⟨its :: vss, by simp [h1], r.append h2, fun j b ys e1 e2 => ?_⟩
    cases j with
    | zero =>
      have z1 : a = b := by simpa using e1
      have z2 : its = ys := by simpa using e2
      subst z1 z2
      exact ⟨p, xs, by simp, r.length.symm⟩
    | succ j =>
      obtain ⟨q1, xs', q2, q3⟩ := h3 j b ys e1 e2
      exact ⟨q1, xs', by simp [q2], q3⟩
  | [], _ :: _, h, _ => by simp at h
  | _ :: _, [], h, _ => by simp at h
theorem call_sumT0 (hc : X.calm = true) : CallR X (.builtin "sum") (rSumT X.K) := by
  intro pins s σ H vs us Q I r h
  obtain ⟨l, t0, as, xss, rfl, hl, ht, hlen, has, hne, hz, hne0, q1, q2⟩ := h
  cases r with
  | cons r1 t =>
  cases t with
  | cons r2 t =>
  cases t
  cases r1
  cases r2
  obtain ⟨its, rv, hpl, _⟩ := I.list hl
  have e := vals_refs rv
  subst e
  obtain ⟨its0, rv0, ht0, _⟩ := I.tuple ht
  cases rv0
  obtain ⟨vss, v1, v2, v3⟩ := tups_vals I as xss hlen has
  have vl : as.length = vss.length := by rw [hlen, v1]
  have asz : ((as.map Value.ref).toArray).size = as.length := by simp
  refine sum_tups_raw (I.ok.hd hc) hpl.isList ht0 (fun j => as.getD j 0) vss (by rw [asz, vl]) (fun i v e => ?_) (fun j ys e => ?_) (fun ys hy => ?_) (by rw [← v2.length]; exact hz) fun h' tk T' hk hT lo => ?_
  · have : (as.map Value.ref)[i]? = some v := by simpa using e
    rw [List.getElem?_map] at this
    obtain ⟨a, ha, rfl⟩ := Option.map_eq_some_iff.mp this
    rw [List.getD_eq_getElem?_getD, ha]; rfl
  · have hj : j < as.length := by rw [vl]; exact (List.getElem?_eq_some_iff.mp e).1
    have : as.getD j 0 = as[j] := by rw [List.getD_eq_getElem?_getD, List.getElem?_eq_getElem hj]; rfl
    rw [this]
    exact (v3 j _ ys (List.getElem?_eq_getElem hj) e).1
  · obtain ⟨j, hj⟩ := List.getElem?_of_mem hy
    have hjl : j < as.length := by rw [vl]; exact (List.getElem?_eq_some_iff.mp hj).1
    obtain ⟨_, xs, hx, hle⟩ := v3 j _ ys (List.getElem?_eq_getElem hjl) hj
    intro z
    rw [z] at hle
    exact hne xs hx (List.eq_nil_of_length_eq_zero hle.symm)
  · rw [asz] at lo
    by_cases h1 : as.length = 1
    · obtain ⟨a, rfl⟩ : ∃ a, as = [a] := List.length_eq_one_iff.mp h1
      have : T' = a := lo.2.1 rfl
      subst this
      exact ⟨.ref T', H, I.kept hk, rfl, q1 _ rfl⟩
    · have h0 : as.length ≠ 0 := fun z => hne0 (List.eq_nil_of_length_eq_zero z)
      have hp : s.heap.objs.size ≤ T' := lo.2.2 (by omega)
      exact ⟨.ref T', _, I.laid (t' := tk) (o := .tup xss.flatten) hk hp ⟨hz, _, v2, hT⟩, rfl, q2 h1 _ (I.hok.fresh hp)⟩
theorem kc_sumT (hK : X.K = K) (hc : X.calm = true) : CallR X (.builtin "sum") (rSumT K) := hK ▸ call_sumT0 hc
end
section
variable {K : PySem.W.Frag} {F B : Hp}
theorem dpa_tups : ∀ {dss : List (List D)} {vs : List V}, DpAll K F vs (dss.map .tuple) → ∃ (as : List Addr) (xss : List (List V)), vs = as.map .ref ∧ as.length = xss.length ∧ xss.length = dss.length ∧ DpAll K F xss.flatten dss.flatten ∧ (∀ (j : Nat) (a : Addr) (xs : List V), as[j]? = some a → xss[j]? = some xs → SqT K F a xs ∧ ∃ ds, dss[j]? = some ds ∧ DpAll K F xs ds)
  | [], vs, h => ⟨[], [], dpa_nil h, rfl, rfl, .nil, fun j a xs h => by simp at h⟩
  | ds :: dss, vs, h => by
    obtain ⟨v, us, rfl, h1, h2⟩ := dpa_cons h
    obtain ⟨a, xs, rfl, q1, q2⟩ := dp_tup h1
    obtain ⟨as, xss, rfl, h3, h4, h5, h6⟩ := dpa_tups (dss := dss) h2
    refine ⟨a :: as, xs :: xss, rfl, by simp [h3], by simp [h4], q2.app h5, fun j b ys e1 e2 => ?_⟩
    cases j with
    | zero =>
      have z1 : a = b := by simpa using e1
      have z2 : xs = ys := by simpa using e2
      subst z1 z2
      exact ⟨q1, ds, rfl, q2⟩
    | succ j => exact h6 j b ys e1 e2
theorem rc_sumT {dss : List (List D)} (hne : ∀ ds ∈ dss, ds ≠ []) (h0 : dss ≠ []) (hz : dss.flatten.length ≤ 100000) : RCD K (rSumT K) [.list (dss.map .tuple), .tuple []] F B (.tuple dss.flatten) := fun F1 H1 g vs h Q q => by
  obtain ⟨v, us, rfl, h1, h2⟩ := dpa_cons h
  obtain ⟨v2, us2, rfl, h3, h4⟩ := dpa_cons h2
  rw [dpa_nil h4]
  obtain ⟨l, xs, rfl, q1, q2⟩ := dp_lst h1
  obtain ⟨t0, ys, rfl, q3, q4⟩ := dp_tup h3
  rw [dpa_nil q4] at q3
  obtain ⟨as, xss, rfl, h5, h6, h7, h8⟩ := dpa_tups q2
  refine ⟨l, t0, as, xss, rfl, ex_l g.fh q1, ex_t g.fh q3, h5, fun j a xs e1 e2 => ex_t g.fh (h8 j a xs e1 e2).1, fun xs hx z => ?_, by rw [h7.len]; exact Nat.le_trans hz (by decide), fun z => ?_, fun a e => ?_, fun _ l hl => ?_⟩
  · obtain ⟨j, hj⟩ := List.getElem?_of_mem hx
    have hjl : j < as.length := by rw [h5]; exact (List.getElem?_eq_some_iff.mp hj).1
    obtain ⟨_, ds, e, k⟩ := h8 j _ xs (List.getElem?_eq_getElem hjl) hj
    have := k.len
    rw [z] at this
    exact hne ds (List.mem_of_getElem? e) (List.eq_nil_of_length_eq_zero this.symm)
  · rw [z] at h5
    exact h0 (List.eq_nil_of_length_eq_zero (by rw [← h6, ← h5]; rfl))
  · subst e
    obtain ⟨xs, rfl⟩ : ∃ xs, xss = [xs] := List.length_eq_one_iff.mp h5.symm
    refine q (.ref a) F1 H1 (Gr.refl g.fh) (.tup (h8 0 a xs rfl rfl).1 ?_)
    have := h7
    rwa [show ([xs] : List (List V)).flatten = xs by simp] at this
  · exact q (.ref l) (upd F1 l (.tup xss.flatten)) _ (Gr.new g.fh hl) (.tup (SqT.of upd_same) (h7.ex (Ex.new (g.fh.free hl))))
end
end TT
/-! Tup -/
/-! Displays with tuples of numbers as keys, and d.update of such. -/
namespace TT
open PySem PySem.Spec PyProof.Rows L2
def mergeT (kvs more : List (List L2.Key × V)) : List (List L2.Key × V) := more.foldl (fun acc kv => putK acc kv.1 kv.2) kvs
theorem KT.merge {H : Hp} : ∀ {more : List (List L2.Key × V)} {rs : List (List L2.Key × Addr × Value)} {kvs : List (List L2.Key × V)} {vs : List (List L2.Key × Addr × Value)}, KT H more rs → KT H kvs vs → KT H (mergeT kvs more) (storedAllH vs rs) := by
  intro more rs kvs vs r
  induction r generalizing kvs vs with
  | nil => intro q; exact q
  | @cons p q ps qs h t ih =>
    intro r0
    refine ih (kvs := putK kvs p.1 p.2) (vs := storedH vs q.1 q.2.1 q.2.2) ?_
    rw [← h.1]
    exact r0.put p.1 (by have := h.2.1; exact this) h.2.2
theorem length_mergeT : ∀ (more kvs : List (List L2.Key × V)), (mergeT kvs more).length ≤ kvs.length + more.length
  | [], kvs => by show kvs.length ≤ kvs.length + 0; omega
  | p :: r, kvs => by
    have h1 := length_mergeT r (putK kvs p.1 p.2)
    have h2 := length_putK kvs p.1 p.2
    show (mergeT (putK kvs p.1 p.2) r).length ≤ _
    rw [List.length_cons]; omega
/-- pairs whose keys are tracked tuples -/
def KTp (H : Hp) (ps : List (V × V)) (kvs : List (List L2.Key × V)) : Prop := Paired (fun (p : V × V) (kv : List L2.Key × V) => ∃ b, p.1 = .ref b ∧ H b = some (.tup (kv.1.map kV)) ∧ p.2 = kv.2) ps kvs
theorem carriesH_of {P : Program} {w : World} {H : Hp} {h : Heap} (ok : HOk P w H h) : ∀ {ps : List (V × V)} {kvs : List (List L2.Key × V)} {ws : List (Value × Value)}, KTp H ps kvs → VV ps ws → ∃ rs, CarriesH (tupleKind (mixKind P w)) h ws rs ∧ KT H kvs rs
  | _, _, _, .nil, .nil => ⟨[], True.intro, .nil⟩
  | p :: _, kv :: _, (w1, w2) :: _, .cons a t, .cons b u => by
    obtain ⟨rs, c, q⟩ := carriesH_of ok t u
    obtain ⟨x, e1, e2, e3⟩ := a
    obtain ⟨b1, b2⟩ := b
    rw [e1] at b1
    cases (show w1 = Value.ref x from b1)
    exact ⟨(kv.1, x, w2) :: rs, ⟨rfl, rfl, key_of ok e2, c⟩, .cons ⟨rfl, e2, e3 ▸ b2⟩ q⟩
/-- {(i, j): v, ..} -/
def tDispT (trs : List (TE × TE)) : TE := fun σ H Q => ∀ p, H p = none → tPairs trs σ (upd H p (.dT [])) fun ps H2 => H2 p = some (.dT []) ∧ ∃ kvs, KTp H2 ps kvs ∧ kvs.length ≤ 15 ∧ Q (.ref p) (upd H2 p (.dT (mergeT [] kvs)))
theorem pe_dispT {X : Cx} {pos : Pos} {keys : List (Option Expr)} {values : List Expr} {trs : List (TE × TE)} (hu : X.A.units < cLine) (h : PPs X pos keys values trs) (hall : keys.all (·.isSome) = true) (hl : keys.length = values.length) (h0 : keys ≠ [])
    (h15 : keys.length ≤ 15) : PE X (.Dict keys values pos) (tDispT trs) := by
  refine ⟨fun pins s σ H Q I q => ?_⟩
  have hn := I.hok.fresh (Nat.le_refl s.heap.objs.size)
  have I1 := I.laid (a := s.heap.objs.size) (o := .dT []) (h' := s.heap.push { cls := .type "dict", data := .dict #[] }) (t' := s.toks) (fun _ _ q => Heap.get?_push_of_some _ q) (Nat.le_refl _) (dt_empty s.heap I.big)
  have hpl := pairTrees_length keys values X.env pos hall hl
  rw [arm_eval_Dict, zip_pairTrees keys values X.env pos hall hl, dictDisplay_pairs _ (fun z => by rw [z] at hpl; exact h0 (List.length_eq_zero_iff.mp hpl.symm)) (by rw [hpl]; omega)]
  refine wpAny_bind (wpAny_standAt (wpAny_bind (wpAny_subDictH (knd := tupleKind (mixKind X.prog X.w)) (Q := fun d s' => wpAny (model X.prog X.w) X.A (pure (Value.ref d)) _ _ s') hu (by rw [hpl]; exact h15)
    (thn (h.run pins _ σ _ _ I1 (q _ hn)) fun ws s2 ⟨ps, H2, I2, rel, e, kvs, kp, lk, q2⟩ => ?_))))
  obtain ⟨rs, c, rk⟩ := carriesH_of I2.hok kp rel
  obtain ⟨z, hd, vs0, r0, dd⟩ := dt_of I2.hok e
  cases r0
  refine ⟨rs, c, dd, fun h' tk dd' hs => wpAny_pure ⟨.ref s.heap.objs.size, _, ?_, rfl, q2⟩⟩
  have hz : (mergeT [] kvs).length ≤ sizeLine := by
    have h1 := length_mergeT kvs []
    rw [List.length_nil] at h1
    rw [sizeLine_eq]; omega
  obtain ⟨ob, es, ep, hq, h2, h3, h4, _, h5⟩ := dd'
  refine d_write I2 (by rw [e]; exact True.intro) hs ⟨ob, hq⟩ ⟨hz, hd, _, (KT.merge rk .nil).keeps fun c ys ec => ?_, ob, es, ep, hq, h2, h3, h4, h5⟩
  rw [upd_ne (ne_of ec e (fun z => nomatch z))]
  exact ec
/-- d.update(d2), the keys tuples -/
def rUpdT : V → List V → Hp → VK → Prop := fun x xs H Q => ∃ (d o : Addr) (kvs more : List (List L2.Key × V)), x = .ref d ∧ xs = [.ref o] ∧ d ≠ o ∧ H d = some (.dT kvs) ∧ H o = some (.dT more) ∧
  (∀ P w, (more.map fun p => (tupleKind (mixKind P w)).hash p.1).Nodup) ∧ kvs.length + more.length ≤ sizeLine ∧ Q .non (upd H d (.dT (mergeT kvs more)))
theorem kt_keys {H : Hp} : ∀ {kvs : List (List L2.Key × V)} {xs : List (List L2.Key × Addr × Value)}, KT H kvs xs → xs.map (·.1) = kvs.map (·.1)
  | _, _, .nil => rfl
  | _, _, .cons h t => by rw [List.map_cons, List.map_cons, kt_keys t, h.1]
theorem mt_updT {X : Cx} (hu : X.A.units + 1 < cLine) : MtR X "dict.update" rUpdT := by
  intro pins s σ H x xs v us Q I rx rv h
  obtain ⟨d, o, kvs, more, rfl, rfl, hne, hd, ho, hh, hz, q⟩ := h
  cases rx
  obtain ⟨u, rfl, ru⟩ := rv.one
  cases ru
  obtain ⟨z1, s1, vs, r1, d1⟩ := dt_of I.hok hd
  obtain ⟨z2, s2, ms, r2, d2⟩ := dt_of I.hok ho
  refine call_update_dictH (knd := tupleKind (mixKind X.prog X.w)) (tupleKind_room_in1 hu) hne s2 d1 d2 (.inr ⟨fun y hy => ?_, ?_⟩) (by rw [← Paired.length r1, ← Paired.length r2]; exact hz) fun h' dd' _ hs => ?_
  · obtain ⟨ob, es, ep, _, _, _, _, his, _⟩ := d2
    obtain ⟨o', its, n, g1, g2, _⟩ := his y hy
    exact ⟨o', g1, g2⟩
  · have e : ms.map (fun x => (tupleKind (mixKind X.prog X.w)).hash x.1) = (ms.map (·.1)).map (tupleKind (mixKind X.prog X.w)).hash := by rw [List.map_map]; rfl
    rw [e, kt_keys r2, List.map_map]
    exact hh X.prog X.w
  · have hz : (mergeT kvs more).length ≤ sizeLine := by
      have h1 := length_mergeT more kvs
      omega
    obtain ⟨ob, es, ep, hq, h2, h3, h4, _, h5⟩ := dd'
    refine ⟨.non, upd H d (.dT (mergeT kvs more)), d_write (t' := s.toks) (ob := .dT (mergeT kvs more)) I (by rw [hd]; exact True.intro) hs ⟨ob, hq⟩ ⟨hz, s1, _, (KT.merge r2 r1).keeps fun c ys ec => ?_, ob, es, ep, hq, h2, h3, h4, h5⟩, rfl, q⟩
    rw [upd_ne (ne_of ec hd (fun z => nomatch z))]
    exact ec
end TT
/-! Tup2 -/
namespace TT
open PySem PySem.Spec PyProof.Rows L2
def tupH (m n : Nat) : Int := reduceHash (Builtin.Tuple.tupleHashOf [hashInt m, hashInt n])
theorem tupH_inj : ∀ m n m' n' : Fin 6, tupH m n = tupH m' n' → m = m' ∧ n = n' := by decide +kernel
theorem tupH_key (P : Program) (w : World) (m n : Nat) : (tupleKind (mixKind P w)).hash [.inl (m : Int), .inl (n : Int)] = tupH m n := rfl
def kMN (x : Nat × Nat) : List L2.Key := [.inl (x.1 : Int), .inl (x.2 : Int)]
theorem kMN_inj {x y : Nat × Nat} (h : kMN x = kMN y) : x = y := by
  obtain ⟨a, b⟩ := x
  obtain ⟨c, d⟩ := y
  unfold kMN at h
  simp at h
  obtain ⟨h1, h2⟩ := h
  have h1 : (a : Int) = c := h1
  have h2 : (b : Int) = d := h2
  rw [show a = c by omega, show b = d by omega]
theorem hash_nodup : ∀ (ks : List (List L2.Key)), ks.Nodup → (∀ x ∈ ks, ∃ y : Nat × Nat, y.1 < 6 ∧ y.2 < 6 ∧ x = kMN y) → ∀ (P : Program) (w : World), (ks.map (tupleKind (mixKind P w)).hash).Nodup
  | [], _, _, _, _ => List.nodup_nil
  | x :: ks, hn, hs, P, w => by
    obtain ⟨n1, n2⟩ := List.nodup_cons.mp hn
    rw [List.map_cons, List.nodup_cons]
    refine ⟨fun hm => ?_, hash_nodup ks n2 (fun z hz => hs z (List.mem_cons_of_mem _ hz)) P w⟩
    obtain ⟨z, hz, e⟩ := List.mem_map.mp hm
    obtain ⟨y, y1, y2, rfl⟩ := hs x List.mem_cons_self
    obtain ⟨u, u1, u2, rfl⟩ := hs z (List.mem_cons_of_mem _ hz)
    have q := tupH_inj ⟨u.1, u1⟩ ⟨u.2, u2⟩ ⟨y.1, y1⟩ ⟨y.2, y2⟩ e
    have : u = y := Prod.ext (congrArg Fin.val q.1) (congrArg Fin.val q.2)
    subst this
    exact n1 hz
theorem putD_nd {κ : Type} [DecidableEq κ] (kds : List (κ × D)) (k : κ) (d : D) (h : (kds.map (·.1)).Nodup) : ((putD kds k d).map (·.1)).Nodup := by
  unfold putD
  split
  · rw [List.map_map]
    have : ((fun x : κ × D => x.1) ∘ fun kv : κ × D => if kv.1 = k then (kv.1, d) else kv) = (fun x : κ × D => x.1) := by
      funext kv
      show (if kv.1 = k then (kv.1, d) else kv).1 = kv.1
      split <;> rfl
    rw [this]
    exact h
  · rename_i hk
    rw [List.map_append]
    refine List.nodup_append.mpr ⟨h, by simp, fun a ha b hb e => ?_⟩
    simp at hb
    obtain ⟨q, hq, e2⟩ := List.mem_map.mp ha
    exact hk (List.any_eq_true.mpr ⟨q, hq, decide_eq_true (e2.trans (e.trans hb))⟩)
def mergeD (kvs more : List (List L2.Key × D)) : List (List L2.Key × D) := more.foldl (fun acc kv => putD acc kv.1 kv.2) kvs
theorem mergeD_nd : ∀ (more kvs : List (List L2.Key × D)), (kvs.map (·.1)).Nodup → ((mergeD kvs more).map (·.1)).Nodup
  | [], _, h => h
  | p :: r, kvs, h => mergeD_nd r _ (putD_nd kvs p.1 p.2 h)
theorem mergeD_keys : ∀ (more kvs : List (List L2.Key × D)) x, x ∈ (mergeD kvs more).map (·.1) ↔ x ∈ kvs.map (·.1) ∨ x ∈ more.map (·.1)
  | [], kvs, x => by simp [mergeD]
  | p :: r, kvs, x => by
    have := mergeD_keys r (putD kvs p.1 p.2) x
    rw [putD_keys] at this
    show x ∈ (mergeD (putD kvs p.1 p.2) r).map (·.1) ↔ _
    rw [this, List.map_cons, List.mem_cons]
    constructor
    · rintro ((h | h) | h)
      · exact .inr (.inl h)
      · exact .inl h
      · exact .inr (.inr h)
    · rintro (h | h | h)
      · exact .inl (.inr h)
      · exact .inl (.inl h)
      · exact .inr h
theorem length_mergeD : ∀ (more kvs : List (List L2.Key × D)), (mergeD kvs more).length ≤ kvs.length + more.length
  | [], kvs => by show kvs.length ≤ kvs.length + 0; omega
  | p :: r, kvs => by
    have h1 := length_mergeD r (putD kvs p.1 p.2)
    have h2 := putD_len kvs p.1 p.2
    show (mergeD (putD kvs p.1 p.2) r).length ≤ _
    rw [List.length_cons]; omega
theorem KD.mergeT {K : PySem.W.Frag} {F : Hp} : ∀ {more : List (List L2.Key × V)} {md : List (List L2.Key × D)} {kvs : List (List L2.Key × V)} {kds : List (List L2.Key × D)}, KD K F more md → KD K F kvs kds → KD K F (TT.mergeT kvs more) (mergeD kds md)
  | _, _, _, _, .nil, h => h
  | p :: _, q :: _, kvs, kds, .cons a t, h => by
    have := h.put (k := p.1) a.2
    refine KD.mergeT (kvs := putK kvs p.1 p.2) (kds := putD kds q.1 q.2) t ?_
    rw [← a.1]
    exact this
section
variable {K : PySem.W.Frag} {σ : L2.St} {es : List SV} {F B F0 B0 H : Hp} {i j : Nat} {ms : List MO} {Dn : Ends} {p : Addr} {kds : List (List L2.Key × D)}
abbrev KX := (TE × TE) × (Nat × Nat)
def trsOf (l : List KX) : List (TE × TE) := l.map fun x => (tTup (tCons x.1.1 (tCons x.1.2 tNil)), tC (.bl true))
def kvOf (l : List KX) : List (List L2.Key × V) := l.map fun x => (kMN x.2, .bl true)
def kdOf (l : List KX) : List (List L2.Key × D) := l.map fun x => (kMN x.2, .bool true)
theorem kd_of : ∀ l : List KX, KD K F (kvOf l) (kdOf l)
  | [] => .nil
  | x :: l => .cons ⟨rfl, .bl _⟩ (kd_of l)
theorem tp_pairs : ∀ (l : List KX) {F1 H1 : Hp} {Q : List (V × V) → Hp → Prop}, (∀ x ∈ l, EvD K x.1.1 σ F B (.int (x.2.1 : Nat)) ∧ EvD K x.1.2 σ F B (.int (x.2.2 : Nat))) → Gr F B F1 H1 →
    (∀ ps F2 H2, Gr F1 H1 F2 H2 → KTp H2 ps (kvOf l) → Q ps H2) → tPairs (trsOf l) σ H1 Q
  | [], F1, H1, Q, _, g, q => q [] F1 H1 (Gr.refl g.fh) .nil
  | x :: l, F1, H1, Q, he, g, q => by
    obtain ⟨h1, h2⟩ := he x List.mem_cons_self
    refine h1 F1 H1 g _ fun u F2 H2 g2 ku => h2 F2 H2 (g.trans g2) _ fun v F3 H3 g3 kv => ⟨by show 2 ≤ sizeLine; decide, fun a ha => ?_⟩
    have g4 : Gr F3 H3 F3 (upd H3 a (.tup [u, v])) := Gr.mut g3.fh ha
    have g14 := (g2.trans g3).trans g4
    refine tp_pairs l (fun y hy => he y (List.mem_cons_of_mem _ hy)) (g.trans g14) fun ps F5 H5 g5 kp => ?_
    refine q _ F5 H5 (g14.trans g5) (.cons ⟨a, rfl, ?_, rfl⟩ kp)
    have := g5.hh a _ upd_same
    rw [this, dp_int ku, dp_int kv]
    rfl
/-- d.update({(i, j): True, ..}) -/
theorem st_updT (l : List KX) (S : Sta K F0 B0 es ms F H σ) (hi : es[i]? = some (.val (.ref p))) (hj : ms[j]? = some (.dT p kds)) (he : ∀ x ∈ l, EvD K x.1.1 σ F H (.int (x.2.1 : Nat)) ∧ EvD K x.1.2 σ F H (.int (x.2.2 : Nat)))
    (hl : l.length ≤ 15) (hs : ∀ x ∈ l, x.2.1 < 6 ∧ x.2.2 < 6) (hz : kds.length ≤ 100000)
    (k : ∀ F' H' kds', (∀ x, x ∈ kds'.map (·.1) ↔ x ∈ kds.map (·.1) ∨ ∃ y ∈ l, x = kMN y.2) → kds'.length ≤ kds.length + 15 → Sta K F0 B0 es (ms.set j (.dT p kds')) F' H' σ → Dn.nx σ H') :
    tDrop (tBM K "dict" rUpdT (tVar i) (tCons (tDispT (trsOf l)) tNil)) Dn σ H := by
  obtain ⟨hf, kvs, h1, h2⟩ := S.m hj
  refine ⟨.ref p, S.so.val hi, .inr (.inr (.inl ⟨rfl, .inr ⟨kvs, h1⟩⟩)), ?_⟩
  intro q hq
  have gq : Gr F H F (upd H q (.dT [])) := Gr.mut S.ex hq
  have hqp : p ≠ q := fun z => by rw [z] at h1; have := h1.symm.trans hq; cases this
  refine tp_pairs l he gq fun ps F2 H2 g2 kp => ⟨g2.hh q _ upd_same, kvOf l, kp, by unfold kvOf; rw [List.length_map]; exact hl, ?_⟩
  have gF : Gr F H F2 (upd H2 q (.dT (mergeT [] (kvOf l)))) := (gq.trans g2).put hq (by rw [g2.nw q (by rw [upd_same]; exact fun z => nomatch z)]; exact S.ex.free hq)
  have S2 := S.grow gF
  obtain ⟨hf2, kvs2, h12, h22⟩ := S2.m hj
  have km : KD K F2 (mergeT [] (kvOf l)) (mergeD [] (kdOf l)) := KD.mergeT (kd_of l) .nil
  refine ⟨p, q, kvs2, mergeT [] (kvOf l), rfl, rfl, hqp, h12, upd_same, fun P w => ?_, ?_, ?_⟩
  · have := hash_nodup ((mergeT [] (kvOf l)).map (·.1)) (by rw [km.keys]; exact mergeD_nd _ _ List.nodup_nil) (fun x hx => by
      rw [km.keys, mergeD_keys] at hx
      rcases hx with hx | hx
      · cases hx
      · unfold kdOf at hx
        rw [List.map_map] at hx
        obtain ⟨y, hy, rfl⟩ := List.mem_map.mp hx
        exact ⟨y.2, (hs y hy).1, (hs y hy).2, rfl⟩) P w
    rw [List.map_map] at this
    exact this
  · have q1 := length_mergeT (kvOf l) []
    have q2 : (kvOf l).length = l.length := by unfold kvOf; rw [List.length_map]
    have q3 := h22.len
    rw [sizeLine_eq]
    simp at q1
    omega
  · refine k F2 _ (mergeD kds (mergeD [] (kdOf l))) (fun x => ?_) (by have q1 := length_mergeD (mergeD [] (kdOf l)) kds; have q2 := length_mergeD (kdOf l) []; have q3 : (kdOf l).length = l.length := by { unfold kdOf; rw [List.length_map] }; simp at q2; omega) (S2.turn (m := .dT p kds) (m' := .dT p (mergeD kds (mergeD [] (kdOf l)))) hj rfl ⟨hf2, _, upd_same, KD.mergeT km h22⟩)
    rw [mergeD_keys, mergeD_keys]
    unfold kdOf
    rw [List.map_map]
    constructor
    · rintro (h | h | h)
      · exact .inl h
      · cases h
      · obtain ⟨y, hy, rfl⟩ := List.mem_map.mp h
        exact .inr ⟨y, hy, rfl⟩
    · rintro (h | ⟨y, hy, rfl⟩)
      · exact .inl h
      · exact .inr (.inr (List.mem_map.mpr ⟨y, hy, rfl⟩))
theorem Sta.freezeT (S : Sta K F0 B0 es (.dT p kds :: ms) F H σ) : ∃ kvs, KD K F kvs kds ∧ Ex F (upd F p (.dT kvs)) ∧ Sta K F0 B0 es ms (upd F p (.dT kvs)) H σ := by
  obtain ⟨hf, kvs, h1, h2⟩ := (S.mo _ List.mem_cons_self).1
  have hb : B0 p = none := (S.mo _ List.mem_cons_self).2
  have nin : p ∉ ms.map MO.ad := (List.nodup_cons.mp S.nd).1
  refine ⟨kvs, h2, Ex.new hf, ⟨S.gr.fix hb hf h1, S.so.ex (Ex.new hf), fun m hm => ⟨?_, (S.mo m (List.mem_cons_of_mem _ hm)).2⟩, (List.nodup_cons.mp S.nd).2⟩⟩
  have k := (S.mo m (List.mem_cons_of_mem _ hm)).1
  have ne : m.ad ≠ p := fun z => nin (by rw [← z]; exact List.mem_map.mpr ⟨m, hm, rfl⟩)
  exact k.ex (Ex.new hf) (by rw [upd_ne ne]; exact k.free) fun _ e => e
end
end TT
/-! D__law_concerned -/
namespace TT
open PySem PySem.Spec PyProof.Rows L2 C8
def sp__law_concerned (K : PySem.W.Frag) : Sp := SpX K fun ds P => ∃ a b : Th, Vd a ∧ Vd b ∧ ds = [prD a b] ∧ P = NearD a b
theorem len__law_concerned {K : PySem.W.Frag} : ∀ vs H Q E, sp__law_concerned K vs H Q E → vs.length = 1 := spX_len (by rintro _ _ ⟨a, b, _, _, rfl, _⟩; rfl)
def ends4 (c : Ct) : List (Nat × Nat) := [(c.ab, c.bb), (c.ab, c.be), (c.ae, c.bb), (c.ae, c.be)]
theorem near_ends {a b : Th} {i j : Nat} : TM.Near (tris a b) i j ↔ ∃ c ∈ cons a b, (i, j) ∈ ends4 c := by
  unfold TM.Near tris ends4
  constructor
  · rintro ⟨c, hc, h1, h2⟩
    obtain ⟨c', hc', rfl⟩ := List.mem_map.mp hc
    refine ⟨c', hc', ?_⟩
    unfold tri at h1 h2
    simp only at h1 h2
    rcases h1 with rfl | rfl <;> rcases h2 with rfl | rfl <;> simp
  · rintro ⟨c, hc, h⟩
    refine ⟨tri c, List.mem_map.mpr ⟨c, hc, rfl⟩, ?_⟩
    unfold tri
    simp at h
    rcases h with ⟨rfl, rfl⟩ | ⟨rfl, rfl⟩ | ⟨rfl, rfl⟩ | ⟨rfl, rfl⟩ <;> simp
theorem ends_small {a b : Th} (va : Vd a) (vb : Vd b) {c : Ct} (hc : c ∈ cons a b) : ∀ x ∈ ends4 c, x.1 < 6 ∧ x.2 < 6 := by
  have ha := va.len
  have hb := vb.len
  obtain ⟨h1, h2, h3⟩ := cons_ok va vb (tri c) (List.mem_map.mpr ⟨c, hc, rfl⟩)
  have h1 : c.ae < a.length := h1
  have h2 : c.be < b.length := h2
  have h3 : (c.ab < c.ae ∧ c.bb < c.be) ∨ (c.ab = c.ae ∧ c.bb = c.be) := h3
  intro x hx
  simp [ends4] at hx
  rcases hx with rfl | rfl | rfl | rfl <;> (show _ < 6 ∧ _ < 6) <;> omega
abbrev N__law_concerned : List Str := ["_law_pair_here", "_law_found", "_law_abegin", "_law_aend", "_law_bbegin", "_law_bend", "_law_kind", "_law_name"]
theorem sc__law_concerned : FnScope N__law_concerned ["_law_pair_here"] (C8.fnScope st__law_concerned) := C8.fnScope_by (by decide +kernel)
theorem c__law_concerned {P : Program} {w : World} {K : PySem.W.Frag} {mg : Str → Option Value} {base : Heap} (T : Txt K mg) (c__law_contests : C8.Cal P w K mg base 2 "_law_contests" (sp__law_contests K) []) : C8.Cal P w K mg base 3 "_law_concerned" (sp__law_concerned K) [] := by
  obtain ⟨f, fd, Fd, df⟩ := T.d__law_concerned
  refine C8.cal0 Fd (Fd.fn.binds df (ps := ["_law_pair_here"]) (fun _ _ _ _ _ _ us hl => match us, hl with | [_], _ => rfl)) .nil sc__law_concerned len__law_concerned fun cdv A outer s H vs Q E hr hsp => ?_
  have hu := hu_of hr
  have nd := (sc__law_concerned).nd
  refine ⟨_, (pss_cons (ps_set (i := 1) nd (by rfl) (by first | exact Or.inl rfl | exact Or.inr rfl) pe_dnewT)
  (pss_cons (ps_for PassesOwn.never rfl (kpi_list (K := K) (by rfl) (pe_c c__law_contests hr (by decide) (by rfl) (pa_cons (pv 0) pa_nil))) (kpg_tup (K := K) (n := 6) (by rfl) (by rfl) (pgs_cons (pg_name (i := 2) nd (by rfl) (by first | exact Or.inl rfl | exact Or.inr rfl)) (pgs_cons (pg_name (i := 3) nd (by rfl) (by first | exact Or.inl rfl | exact Or.inr rfl)) (pgs_cons (pg_name (i := 4) nd (by rfl) (by first | exact Or.inl rfl | exact Or.inr rfl)) (pgs_cons (pg_name (i := 5) nd (by rfl) (by first | exact Or.inl rfl | exact Or.inr rfl)) (pgs_cons (pg_name (i := 6) nd (by rfl) (by first | exact Or.inl rfl | exact Or.inr rfl)) (pgs_cons (pg_name (i := 7) nd (by rfl) (by first | exact Or.inl rfl | exact Or.inr rfl)) pgs_nil)))))))
   (pss_one (ps_expr (kbm (K := K) (by rfl) PySem.F.plainAttrs_dict PySem.F.slot_dict_update PySem.F.type_dict_update (mt_updT hu) (pv 1) (pa_cons (pe_dispT (Nat.lt_of_succ_lt hu) (pps_cons (pe_tup (pa_cons (pv 2) (pa_cons (pv 4) pa_nil))) pe_bl (pps_cons (pe_tup (pa_cons (pv 2) (pa_cons (pv 5) pa_nil))) pe_bl (pps_cons (pe_tup (pa_cons (pv 3) (pa_cons (pv 4) pa_nil))) pe_bl (pps_cons (pe_tup (pa_cons (pv 3) (pa_cons (pv 5) pa_nil))) pe_bl pps_nil)))) (by rfl) (by rfl) (fun z => by cases z) (by decide)) pa_nil)))))
  (pss_one (ps_ret (pv 1))))), ?_⟩
  obtain ⟨F, ds, P0, e0, hd, ⟨a, b, va, vb, rfl, rfl⟩, q⟩ := hsp
  have S : Sta K F H [.dat (prD a b), .un, .un, .un, .un, .un, .un, .un] [] F H (L2.start N__law_concerned vs) := Sta.begin 7 e0 hd
  have hl := cons_len (a := a) (b := b) (Nat.le_trans va.len (by decide)) (Nat.le_trans vb.len (by decide))
  refine st_setM S em_newT fun p F1 H1 σ1 S1 => ?_
  have so := S1.so
  refine for_A (cons a b) ctD S1 (it_list (EvN.toD (en_call (ea_cons (ev_var so rfl) ea_nil) ⟨a, b, va, vb, rfl, rfl⟩))) rfl
    (fun k es ms => es = [.dat (prD a b), .val (.ref p), .un, .un, .un, .un, .un, .un] ∧ ∃ kds, ms = [.dT p kds] ∧ (∀ x, x ∈ kds.map (·.1) ↔ ∃ c ∈ (cons a b).take k, ∃ y ∈ ends4 c, x = kMN y) ∧ kds.length ≤ 15 * k) ⟨rfl, [], rfl, by simp, Nat.le_refl _⟩ ?_ ?_
  · rintro Fb Bb gb k c es ms F2 H2 σ2 hk ⟨rfl, kds, rfl, hks, hkl⟩ S2
    have hc := List.mem_of_getElem? hk
    have hk2 : k < (cons a b).length := (List.getElem?_eq_some_iff.mp hk).1
    refine ⟨_, _, (tg_tup (tgs_cons tg_name (tgs_cons tg_name (tgs_cons tg_name (tgs_cons tg_name (tgs_cons tg_name (tgs_cons tg_name tgs_nil))))))), fun σ3 S3 => ?_⟩
    have so := S3.so
    refine st_updT [((tVar 2, tVar 4), (c.ab, c.bb)), ((tVar 2, tVar 5), (c.ab, c.be)), ((tVar 3, tVar 4), (c.ae, c.bb)), ((tVar 3, tVar 5), (c.ae, c.be))] S3 (i := 1) (j := 0) rfl rfl (fun x hx => ?_) (by show 4 ≤ 15; decide) (fun x hx => ?_) (by omega) fun F4 H4 kds' hk' hl' S4 => ?_
    · simp only [List.mem_cons, List.not_mem_nil, or_false] at hx
      rcases hx with rfl | rfl | rfl | rfl <;> exact ⟨ev_var so rfl, ev_var so rfl⟩
    · refine ends_small va vb hc x.2 ?_
      simp only [List.mem_cons, List.not_mem_nil, or_false] at hx
      rcases hx with rfl | rfl | rfl | rfl <;> simp [ends4]
    · refine NX.of (S4.weak (es' := [.dat (prD a b), .val (.ref p), .un, .un, .un, .un, .un, .un]) (by repeat (first | exact .nil | refine .cons (by first | exact trivial | rfl) ?_))) ⟨rfl, kds', rfl, fun x => ?_, by omega⟩
      rw [hk' x, hks x, List.take_add_one, hk]
      simp only [Option.toList_some, List.mem_append, List.mem_singleton]
      constructor
      · rintro (⟨d, hd, h⟩ | ⟨y, hy, rfl⟩)
        · exact ⟨d, .inl hd, h⟩
        · refine ⟨c, .inr rfl, y.2, ?_, rfl⟩
          simp only [List.mem_cons, List.not_mem_nil, or_false] at hy
          rcases hy with rfl | rfl | rfl | rfl <;> simp [ends4]
      · rintro ⟨d, hd | rfl, y, hy, rfl⟩
        · exact .inl ⟨d, hd, y, hy, rfl⟩
        · refine .inr ?_
          simp only [ends4, List.mem_cons, List.not_mem_nil, or_false] at hy
          rcases hy with rfl | rfl | rfl | rfl
          · exact ⟨_, .head _, rfl⟩
          · exact ⟨_, .tail _ (.head _), rfl⟩
          · exact ⟨_, .tail _ (.tail _ (.head _)), rfl⟩
          · exact ⟨_, .tail _ (.tail _ (.tail _ (.head _))), rfl⟩
  · rintro es ms F2 H2 σ2 ⟨rfl, kds, rfl, hks, _⟩ S2
    obtain ⟨kvs, hkv, ex7, S3⟩ := S2.freezeT
    refine st_retX S3 (er_val S3.so (i := 1) rfl NearD.ex (R := NearD a b) ⟨p, kvs, rfl, upd_same, fun i j => ?_⟩) fun v F' H' g h => q v F' H' g h
    rw [hkv.isSome, Bool.eq_iff_iff, nearB_iff, near_ends, ← key_in, hks]
    rw [List.take_length]
    constructor
    · rintro ⟨c, hc, y, hy, e⟩
      have : (i, j) = y := kMN_inj e
      exact ⟨c, hc, this ▸ hy⟩
    · rintro ⟨c, hc, h⟩
      exact ⟨c, hc, _, h, rfl⟩
end TT
/-! D__law_classes -/
namespace TT
open PySem PySem.Spec PyProof.Rows L2 C8
def sp__law_classes (K : PySem.W.Frag) : Sp := SpX K fun ds P => ∃ a b : Th, Vd a ∧ Vd b ∧ ds = [prD a b, .list ((RL a b).map fun r => .str (runS r))] ∧ P = ClsF K a b
theorem len__law_classes {K : PySem.W.Frag} : ∀ vs H Q E, sp__law_classes K vs H Q E → vs.length = 2 := spX_len (by rintro _ _ ⟨a, b, _, _, rfl, _⟩; rfl)
abbrev wsD (ws : List (List Bool)) : List D := ws.map fun r => .str (runS r)
theorem shaped_ws (ws : List (List Bool)) : SeqAt.shaped (.list (wsD ws)) = true := by
  have e : wsD ws = (ws.map runS).map .str := by rw [List.map_map]; rfl
  rw [e]
  refine (shaped_strs fun s hs => ?_).1
  obtain ⟨r, _, rfl⟩ := List.mem_map.mp hs
  unfold PyData.strOk runS SX.S
  simp [Array.all_eq_true]
  exact ⟨fun _ => by decide, fun _ => by decide⟩
abbrev N__law_classes : List Str := ["_law_pair_here", "_law_runs", "_law_near", "_law_found", "_law_run", "_law_waiting", "_law_here", "_law_at"]
theorem sc__law_classes : FnScope N__law_classes ["_law_pair_here", "_law_runs"] (C8.fnScope st__law_classes) := C8.fnScope_by (by decide +kernel)
theorem c__law_classes {P : Program} {w : World} {K : PySem.W.Frag} {mg : Str → Option Value} {base : Heap} (T : Txt K mg) (c__law_turned : C8.Cal P w K mg base 1 "_law_turned" (sp__law_turned K) []) (c__law_concerned : C8.Cal P w K mg base 3 "_law_concerned" (sp__law_concerned K) []) : C8.Cal P w K mg base 4 "_law_classes" (sp__law_classes K) [] := by
  obtain ⟨f, fd, Fd, df⟩ := T.d__law_classes
  refine C8.cal0 Fd (Fd.fn.binds df (ps := ["_law_pair_here", "_law_runs"]) (fun _ _ _ _ _ _ us hl => match us, hl with | [_, _], _ => rfl)) .nil sc__law_classes len__law_classes fun cdv A outer s H vs Q E hr hsp => ?_
  have hu := hu_of hr
  have nd := (sc__law_classes).nd
  refine ⟨_, (pss_cons (ps_par (i := 2) (j := 3) (by rfl) nd (by rfl) (by rfl) (by decide) (by rfl) (by rfl) (pa_cons (pe_c c__law_concerned hr (by decide) (by rfl) (pa_cons (pv 0) pa_nil)) (pa_cons pe_dnewK pa_nil)) (by rfl))
  (pss_cons (ps_for PassesOwn.never rfl (kpi_list (K := K) (by rfl) (pv 1)) (pg_name (i := 4) nd (by rfl) (by first | exact Or.inl rfl | exact Or.inr rfl))
   (pss_cons (ps_set (i := 5) nd (by rfl) (by first | exact Or.inl rfl | exact Or.inr rfl) (pe_ifExp (pt_cmp (pc_dnotin hu (pv 4) (pv 3))) (pe_lst (pa_cons (pv 4) pa_nil)) (pe_lst pa_nil)))
  (pss_one (ps_while PassesOwn.never (pt_cmpR (kneD (K := K) (by rfl) hr.units) (pv 5) (pe_lst pa_nil) (nomark _))
   (pss_cons (ps_set (i := 6) nd (by rfl) (by first | exact Or.inl rfl | exact Or.inr rfl) (kbm0 (K := K) (by rfl) PySem.F.plainAttrs_list PySem.F.slot_list_pop PySem.F.type_list_pop mt_pop (pv 5)))
  (pss_one (ps_if (pt_cmp (pc_dnotin hu (pv 6) (pv 3)))
   (pss_cons (ps_dput hu (pv 3) (pv 6) (pv 4) rfl)
  (pss_one (ps_for PassesOwn.never rfl (pi_range1 (by rfl) T.b_range (pa_cons (pe_op op_sub (pe_callB (kc_len (K := K) (by rfl)) (by rfl) T.b_len (by decide +kernel) (pa_cons (pv 6) pa_nil)) pe_int) pa_nil)) (pg_name (i := 7) nd (by rfl) (by first | exact Or.inl rfl | exact Or.inr rfl))
   (pss_one (ps_if (PW.pt (pw_and (pt_cmpR op_ne (pe_ix ix_str (pv 6) (pv 7) (fun _ _ => rfl)) (pe_ix ix_str (pv 6) (pe_op op_add (pv 7) pe_int) (fun _ _ => rfl)) (nomark _)) (pw_and1 (pt_cmp (pc_dnotin hu (pe_tup (pa_cons (pe_m1 PySem.F.slot_str_count PySem.F.type_str_count mt_count (pe_slice C8.sl_txt (pv 6) po_none (po_some (pv 7))) pe_str) (pa_cons (pe_m1 PySem.F.slot_str_count PySem.F.type_str_count mt_count (pe_slice C8.sl_txt (pv 6) po_none (po_some (pv 7))) pe_str) pa_nil))) (pv 2))))))
   (pss_one (ps_expr (kbm (K := K) (by rfl) PySem.F.plainAttrs_list PySem.F.slot_list_append PySem.F.type_list_append mt_append (pv 5) (pa_cons (pe_c c__law_turned hr (by decide) (by rfl) (pa_cons (pv 6) (pa_cons (pv 7) pa_nil))) pa_nil))))
   pss_nil)))))
   pss_nil)))))))
  (pss_one (ps_ret (pv 3))))), ?_⟩
  obtain ⟨F, ds, P, e0, hd, ⟨a, b, va, vb, rfl, rfl⟩, q⟩ := hsp
  let RD : D := .list ((RL a b).map fun r => .str (runS r))
  have S : Sta K F H [.dat (prD a b), .dat RD, .un, .un, .un, .un, .un, .un] [] F H (L2.start N__law_classes vs) := Sta.begin 6 e0 hd
  have so := S.so
  have hN := RL_len va vb
  refine st_parRM S NearD.ex (er_call (ea_cons (ev_var so rfl) ea_nil) ⟨a, b, va, vb, rfl, rfl⟩) em_newK fun pf F1 H1 σ1 S1 => ?_
  have so := S1.so
  refine for_A (RL a b) (fun r => .str (runS r)) S1 (it_list (ev_var so rfl)) rfl
    (fun k es ms => es = [.dat (prD a b), .dat RD, .rel (NearD a b), .val (.ref pf), .un, .un, .un, .un] ∧ ∃ kds, ms = [.dK pf kds] ∧ OI a b k kds) ⟨rfl, [], rfl, OI.start a b⟩ ?_ ?_
  · rintro Fb Bb gb k p es ms F2 H2 σ2 hp ⟨rfl, kds, rfl, oi⟩ S2
    have Rp := RL_mem.mp (List.mem_of_getElem? hp)
    refine ⟨_, _, tg_name, fun σ3 S3 => ?_⟩
    have so := S3.so
    let ws0 : List (List Bool) := if (valD kds (rk p)).isSome = true then [] else [p]
    refine st_setN S3 (en_if (ds := wsD ws0) (et_B (ev_dnin (ev_val so rfl) (ev_var so rfl) (k := rk p) (S3.m (j := 0) rfl))) (fun h => EvN.eqN (en_lst (ea_cons (ev_var so rfl) ea_nil)) ?_) (fun h => EvN.eqN (en_lst ea_nil) ?_)) fun pw F4 H4 σ4 S4 => ?_
    · rw [Bool.not_eq_true'] at h
      show _ = wsD (if _ then _ else _)
      rw [h]
      rfl
    · rw [Bool.not_eq_false'] at h
      show _ = wsD (if _ then _ else _)
      rw [h]
      rfl
    have S4 : Sta K Fb Bb [.dat (prD a b), .dat RD, .rel (NearD a b), .val (.ref pf), .dat (.str (runS p)), .val (.ref pw), .un, .un] [.lst pw (wsD ws0), .dK pf kds] F4 H4 σ4 := S4
    -- what the while keeps: the class is there, or it is being searched
    refine while_S S4 (fun m es ms => es = [.dat (prD a b), .dat RD, .rel (NearD a b), .val (.ref pf), .dat (.str (runS p)), .val (.ref pw), .un, .un] ∧ ∃ kds ws, ms = [.lst pw (wsD ws), .dK pf kds] ∧ ((ws = [] ∧ OI a b (k + 1) kds) ∨ (WI a b k p kds ws ∧ ¬ ∃ s ∈ (RL a b).take k, same a b s p)) ∧ 13 * ((RL a b).length - kds.length) + ws.length ≤ m ∧ m ≤ 60000) (13 * ((RL a b).length - kds.length) + ws0.length) ⟨rfl, kds, ws0, rfl, ?_, Nat.le_refl _, ?_⟩ ?_
    · by_cases c : (valD kds (rk p)).isSome = true
      · refine .inl ⟨if_pos c, oi.skip hp (key_in.mpr c)⟩
      · have c2 : rk p ∉ kds.map (·.1) := fun z => c (key_in.mp z)
        refine .inr ⟨?_, fun z => c2 ((oi.mem p Rp).mpr z)⟩
        rw [show ws0 = [p] from if_neg c]
        exact oi.enter hp c2
    · have : ws0.length ≤ 1 := by show (if _ then _ else _ : List (List Bool)).length ≤ 1; split <;> simp
      omega
    rintro m es ms F5 H5 σ5 ⟨rfl, kds5, ws, rfl, inv, hm, hm2⟩ S5
    have sop := (S5.so.ex S5.ex).pk S5.ex (S5.m (j := 0) rfl) (i := 5) rfl
    refine ⟨!ws.isEmpty, EvT.eq (et_peek (et_test (ev_op (ev_var sop rfl) (ev_lst ea_nil) (r2_neD (shaped_ws ws) rfl)))) (by rw [ne_nilD]; simp), fun hb F6 H6 S6 => ?_, fun hb F6 H6 S6 => ?_⟩
    · rcases List.eq_nil_or_concat ws with rfl | ⟨ws, w, rfl⟩
      · cases hb
      rw [List.concat_eq_append] at S6 inv hm
      rcases inv with ⟨e, _⟩ | ⟨wi, hnp⟩
      · simp at e
      have ew : wsD (ws ++ [w]) = wsD ws ++ [.str (runS w)] := by simp
      rw [ew] at S6
      obtain ⟨Rw, sw⟩ := wi.wt w (List.mem_append_right _ (List.mem_singleton.mpr rfl))
      obtain ⟨wl, wl2⟩ := runB_len va vb Rw
      have hzw : (runS w).length ≤ 100000 := by rw [runS_len]; omega
      have hm' : 13 * ((RL a b).length - kds5.length) + ws.length + 1 ≤ m := by rw [List.length_append, List.length_singleton] at hm; omega
      refine st_pop (j := 0) S6 rfl rfl fun F7 H7 σ7 S7 => ?_
      have so := S7.so
      refine st_if S7 (et_B (ev_dnin (ev_val so rfl) (ev_var so rfl) (k := rk w) (S7.m (j := 1) rfl))) (fun hb F8 H8 S8 => ?_) (fun hb F8 H8 S8 => ?_)
      · have so := S8.so
        have hkw : valD kds5 (rk w) = none := by
          cases e : valD kds5 (rk w) with
          | none => rfl
          | some _ => rw [e] at hb; cases hb
        have hl2 : kds5.length + 1 ≤ (RL a b).length := by
          have h1 := keys_len (kds := putD kds5 (rk w) (.str (runS p))) (putD_nodup _ wi.nd hkw) (fun x hx => by
            rcases (putD_keys _ _ _ x).mp hx with rfl | hx
            · exact ⟨w, Rw, rfl⟩
            · exact wi.ks x hx)
          rw [putD_new _ hkw, List.length_append] at h1
          exact h1
        refine st_dput (k := rk w) (j := 1) S8 (ev_var so rfl) rfl rfl (ev_var so rfl) (by omega) fun F9 H9 S9 => ?_
        have so := S9.so
        let kds6 := putD kds5 (rk w) (.str (runS p))
        have hl6 : kds6.length = kds5.length + 1 := by show (putD _ _ _).length = _; rw [putD_new _ hkw, List.length_append]; rfl
        have zt : ((w.length : Int) - 1).toNat = w.length - 1 := by omega
        refine for_A (List.range (w.length - 1)) (fun k => .int ((0 + k : Nat) : Int)) S9 (it_rngZ (z := (w.length : Int) - 1) (ea_cons (EvD.eq (ev_op (ev_cb (ea_cons (ev_var so rfl) ea_nil) (rc_lenS hzw)) (ev_int _) r2_I0) (by rw [runS_len])) ea_nil) (by omega) (by omega)) (by rw [zt]; rfl)
          (fun t es ms => es = [.dat (prD a b), .dat RD, .rel (NearD a b), .val (.ref pf), .dat (.str (runS p)), .val (.ref pw), .dat (.str (runS w)), .un] ∧ ∃ ws6, ms = [.lst pw (wsD ws6), .dK pf kds6] ∧ (∀ x ∈ ws, x ∈ ws6) ∧ (∀ x ∈ ws6, x ∈ ws ∨ TM.Ex1 (tris a b) w x) ∧ Nbr a b w t ws6 ∧ ws6.length ≤ ws.length + t) ⟨rfl, ws, rfl, fun x h => h, fun x h => .inl h, fun x y u v e h => absurd h (Nat.not_lt_zero _), Nat.le_refl _⟩ ?_ ?_
        · rintro Fc Bc gc t t' es ms F10 H10 σ10 ht ⟨rfl, ws6, rfl, i1, i2, i3, i4⟩ S10
          have htt : t' = t ∧ t + 1 < w.length := by
            obtain ⟨h1, h2⟩ := List.getElem?_eq_some_iff.mp ht
            rw [List.length_range] at h1
            rw [List.getElem_range] at h2
            exact ⟨h2.symm, by omega⟩
          obtain ⟨rfl, htl⟩ := htt
          obtain ⟨x, u, v, y, ew, el⟩ := split_at htl
          refine ⟨_, _, tg_name, fun σ11 S11 => ?_⟩
          have S11 : Sta K Fc Bc [.dat (prD a b), .dat RD, .rel (NearD a b), .val (.ref pf), .dat (.str (runS p)), .val (.ref pw), .dat (.str (runS w)), .dat (.int (t' : Nat))] [.lst pw (wsD ws6), .dK pf kds6] F10 H10 σ11 := by
            rw [Nat.zero_add] at S11
            exact S11
          have so := S11.so
          have au : atI (runS w).cps.toList ((t' : Nat) : Int) = some (cd u) := runS_at _ _ _ (by rw [ew, ← el]; simp)
          have av : atI (runS w).cps.toList (((t' : Nat) : Int) + 1) = some (cd v) := by
            rw [show ((t' : Nat) : Int) + 1 = ((t' + 1 : Nat) : Int) by omega]
            exact runS_at _ _ _ (by rw [ew, ← el]; simp)
          have sx : Txt.slice (runS w) none (some ((t' : Nat) : Int)) = runS x := by rw [runS_take, ew, ← el]; simp
          have eA : ("a" : Str) = chr (cd true) := by decide +kernel
          have eB : ("b" : Str) = chr (cd false) := by decide +kernel
          have cA : Txt.count (Txt.slice (runS w) none (some ((t' : Nat) : Int))) "a" = (TM.ca x : Nat) := by rw [sx, eA, count_run]; rfl
          have cB : Txt.count (Txt.slice (runS w) none (some ((t' : Nat) : Int))) "b" = (TM.cb x : Nat) := by rw [sx, eB, count_run]; rfl
          have bound : ws6.length + 1 < 100000 := by omega
          refine st_if S11 (et_and (et_test (ev_op (ev_op (ev_var so rfl) (ev_var so rfl) (r2_ixS hzw au)) (ev_op (ev_var so rfl) (ev_op (ev_var so rfl) (ev_int _) r2_I0) (r2_ixS hzw av)) r2_neS)) (fun _ => et_B (ev_dninT (EvD.eq (ev_count (ev_slS (ev_var so rfl) eo_none (eo_some (ev_var so rfl)) hzw) (ev_str _)) (congrArg PyData.int cA)) (EvD.eq (ev_count (ev_slS (ev_var so rfl) eo_none (eo_some (ev_var so rfl)) hzw) (ev_str _)) (congrArg PyData.int cB)) (er_var so (i := 2) rfl)))) (fun hb F12 H12 S12 => ?_) (fun hb F12 H12 S12 => ?_)
          · have so := S12.so
            rw [Bool.and_eq_true, Bool.not_eq_true', Bool.not_eq_true'] at hb
            have huv : u ≠ v := fun z => by rw [z] at hb; simp at hb
            have hnear : ¬ TM.Near (tris a b) (TM.ca x) (TM.cb x) := fun z => by rw [nearB_iff.mpr z] at hb; cases hb.2
            have ex := ex1_of (cs := tris a b) (y := y) huv hnear
            refine st_app (j := 0) S12 rfl rfl (EvD.eq (ev_call (ea_cons (ev_var so rfl) (ea_cons (ev_var so rfl) ea_nil)) ⟨x, y, u, v, (by have := congrArg List.length ew; simp at this; omega), (by rw [ew, el]), rfl⟩) rfl) (by rw [List.length_map]; omega) fun F13 H13 S13 => ?_
            refine NX.of (S13.weak (es' := [.dat (prD a b), .dat RD, .rel (NearD a b), .val (.ref pf), .dat (.str (runS p)), .val (.ref pw), .dat (.str (runS w)), .un]) (by repeat (first | exact .nil | refine .cons (by first | exact trivial | rfl) ?_))) ⟨rfl, ws6 ++ [x ++ v :: u :: y], by simp, fun z hz => List.mem_append_left _ (i1 z hz), fun z hz => ?_, ?_, by rw [List.length_append, List.length_singleton]; omega⟩
            · rcases List.mem_append.mp hz with hz | hz
              · exact i2 z hz
              · rw [List.mem_singleton.mp hz, ew]; exact .inr ex
            · rw [← el]
              refine Nbr.snoc (el ▸ i3) ew (fun z hz => List.mem_append_left _ hz) fun _ _ => List.mem_append_right _ (List.mem_singleton.mpr rfl)
          · refine NX.of (S12.weak (es' := [.dat (prD a b), .dat RD, .rel (NearD a b), .val (.ref pf), .dat (.str (runS p)), .val (.ref pw), .dat (.str (runS w)), .un]) (by repeat (first | exact .nil | refine .cons (by first | exact trivial | rfl) ?_))) ⟨rfl, ws6, rfl, i1, i2, ?_, by omega⟩
            rw [← el]
            refine Nbr.snoc (el ▸ i3) ew (fun z hz => hz) fun h1 h2 => ?_
            have n1 : nearB a b (TM.ca x) (TM.cb x) = false := by
              cases c : nearB a b (TM.ca x) (TM.cb x) with
              | false => rfl
              | true => exact absurd (nearB_iff.mp c) h2
            rw [n1] at hb
            have n2 : decide (chr (cd u) = chr (cd v)) = false := by rw [chr_eq]; exact decide_eq_false h1
            have hb' : (!decide (chr (cd u) = chr (cd v)) && !false) = false := hb
            rw [n2] at hb'
            cases hb'
        · rintro es ms F10 H10 σ10 ⟨rfl, ws6, rfl, i1, i2, i3, i4⟩ S10
          rw [List.length_range] at i3 i4
          refine NX.of (S10.weak (es' := [.dat (prD a b), .dat RD, .rel (NearD a b), .val (.ref pf), .dat (.str (runS p)), .val (.ref pw), .un, .un]) (by repeat (first | exact .nil | refine .cons (by first | exact trivial | rfl) ?_))) ⟨m - 1, by omega, rfl, kds6, ws6, rfl, .inr ⟨wi.put va vb hp hnp hkw i1 i2 i3.all, hnp⟩, by rw [hl6]; omega, by omega⟩
      · have hkw : rk w ∈ kds5.map (·.1) := by
          rw [key_in]
          cases e : (valD kds5 (rk w)).isSome with
          | true => rfl
          | false => rw [e] at hb; cases hb
        exact NX.of (S8.weak (es' := [.dat (prD a b), .dat RD, .rel (NearD a b), .val (.ref pf), .dat (.str (runS p)), .val (.ref pw), .un, .un]) (by repeat (first | exact .nil | refine .cons (by first | exact trivial | rfl) ?_))) ⟨m - 1, by omega, rfl, kds5, ws, rfl, .inr ⟨wi.pass hkw, hnp⟩, by omega, by omega⟩
    · cases ws with
      | cons w ws => cases hb
      | nil =>
        have oi' : OI a b (k + 1) kds5 := by
          rcases inv with ⟨_, h⟩ | ⟨h, _⟩
          · exact h
          · exact h.done va vb hp
        exact NX.of ((S6.weak (es' := [.dat (prD a b), .dat RD, .rel (NearD a b), .val (.ref pf), .un, .un, .un, .un]) (by repeat (first | exact .nil | refine .cons (by first | exact trivial | rfl) ?_))).less (ms' := [.dK pf kds5]) (List.sublist_cons_self _ _)) ⟨rfl, kds5, rfl, oi'⟩
  · rintro es ms F2 H2 σ2 ⟨rfl, kds, rfl, oi⟩ S2
    obtain ⟨kvs, hkv, ex7, S3⟩ := S2.freezeK
    refine st_retX S3 (er_val S3.so (i := 3) rfl ClsF.ex (R := ClsF K a b) ⟨pf, kvs, kds, rfl, upd_same, hkv.ex ex7, oi⟩) fun v F' H' g h => q v F' H' g h
end TT
/-! D__law_closed_letters -/
namespace TT
open PySem PySem.Spec PyProof.Rows L2 C8
def sp__law_closed_letters (K : PySem.W.Frag) : Sp := fun vs H Q _ => ∃ F v cs, vs = [v] ∧ Ex F H ∧ LedL cs F v ∧ cs.length ≤ 10 ∧ ∀ p us F' H', Gr F H F' H' → H p = none → F' p = none → H' p = some (.lst us) → DpAll K F' us (wsD (goodL cs)) → Q (.ref p) H'
theorem len__law_closed_letters {K : PySem.W.Frag} : ∀ vs H Q E, sp__law_closed_letters K vs H Q E → vs.length = 1 := by rintro vs H Q E ⟨F, v, cs, rfl, _⟩; rfl
abbrev N__law_closed_letters : List Str := ["_law_led_here", "_law_found", "_law_turn", "_law_good", "_law_letters", "_law_mine", "_law_at", "_law_letter", "_law_there"]
theorem sc__law_closed_letters : FnScope N__law_closed_letters ["_law_led_here"] (C8.fnScope st__law_closed_letters) := C8.fnScope_by (by decide +kernel)
theorem c__law_closed_letters {P : Program} {w : World} {K : PySem.W.Frag} {mg : Str → Option Value} {base : Heap} (T : Txt K mg) : C8.Cal P w K mg base 1 "_law_closed_letters" (sp__law_closed_letters K) [] := by
  obtain ⟨f, fd, Fd, df⟩ := T.d__law_closed_letters
  refine C8.cal0 Fd (Fd.fn.binds df (ps := ["_law_led_here"]) (fun _ _ _ _ _ _ us hl => match us, hl with | [_], _ => rfl)) .nil sc__law_closed_letters len__law_closed_letters fun cdv A outer s H vs Q E hr hsp => ?_
  have hu := hu_of hr
  have nd := (sc__law_closed_letters).nd
  refine ⟨_, (pss_cons (ps_set (i := 1) nd (by rfl) (by first | exact Or.inl rfl | exact Or.inr rfl) (pe_lst (pa_cons pe_str pa_nil)))
  (pss_cons (ps_for PassesOwn.never rfl (kpi_list (K := K) (by rfl) (pv 0)) (pg_name (i := 2) nd (by rfl) (by first | exact Or.inl rfl | exact Or.inr rfl))
   (pss_one (ps_set (i := 1) nd (by rfl) (by first | exact Or.inl rfl | exact Or.inr rfl) (pe_op op_cat (pe_lc (own := [("_law_letters", 4)]) (by rfl) nd (kpi_list (K := K) (by rfl) (pv 1)) (blkOk_by (by kernel_rfl)) (fun _ _ _ _ _ => (pg_name (i := 4) nd (by rfl) (by first | exact Or.inl rfl | exact Or.inr rfl))) (fun _ _ _ _ _ => pts_nil) (fun _ _ _ _ _ => (pe_op op_add_str (pv 4) pe_str))) (pe_lc (own := [("_law_letters", 4)]) (by rfl) nd (kpi_list (K := K) (by rfl) (pv 1)) (blkOk_by (by kernel_rfl)) (fun _ _ _ _ _ => (pg_name (i := 4) nd (by rfl) (by first | exact Or.inl rfl | exact Or.inr rfl))) (fun _ _ _ _ _ => pts_nil) (fun _ _ _ _ _ => (pe_op op_add_str (pv 4) pe_str)))))))
  (pss_cons (ps_set (i := 3) nd (by rfl) (by first | exact Or.inl rfl | exact Or.inr rfl) (pe_lst pa_nil))
  (pss_cons (ps_for PassesOwn.never rfl (kpi_list (K := K) (by rfl) (pv 1)) (pg_name (i := 4) nd (by rfl) (by first | exact Or.inl rfl | exact Or.inr rfl))
   (pss_cons (ps_setLc (i := 5) (own := [("_law_at", 6), ("_law_letter", 7)]) (by rfl) nd (by rfl) (by rfl) (sw_true rfl rfl rfl (by decide +kernel)) (pi_enumS (by rfl) (by rfl) T.b_enumerate (pa_cons (pv 4) pa_nil)) (blkOk_by (by kernel_rfl)) (fun _ _ _ _ _ => (kpg_tup (K := K) (n := 2) (by rfl) (by rfl) (pgs_cons (pg_name (i := 6) nd (by rfl) (by first | exact Or.inl rfl | exact Or.inr rfl)) (pgs_cons (pg_name (i := 7) nd (by rfl) (by first | exact Or.inl rfl | exact Or.inr rfl)) pgs_nil)))) (fun _ _ _ _ _ => (pts_one (pt_cmpR op_eq (pv 7) pe_str (nomark _)))) (fun _ _ _ _ _ => (pv 6)))
  (pss_one (ps_if (pt_val (pe_callB (kc_all (K := K) (by rfl) (by rfl)) (by rfl) T.b_all (by decide +kernel) (pa_cons (pe_lc (own := [("_law_at", 6)]) (by rfl) nd (kpi_list (K := K) (by rfl) (pv 5)) (blkOk_by (by kernel_rfl)) (fun _ _ _ _ _ => (pg_name (i := 6) nd (by rfl) (by first | exact Or.inl rfl | exact Or.inr rfl))) (fun _ _ _ _ _ => pts_nil) (fun _ _ _ _ _ => (pe_callB (kc_all (K := K) (by rfl) (by rfl)) (by rfl) T.b_all (by decide +kernel) (pa_cons (pe_lock (pe_lc (own := [("_law_there", 8)]) (by rfl) nd (pi_keys (pe_ix (kix_list (K := K) (by rfl)) (pv 0) (pv 6) (fun _ _ => rfl))) (blkOk_by (by kernel_rfl)) (fun _ _ _ _ _ => (pg_name (i := 8) nd (by rfl) (by first | exact Or.inl rfl | exact Or.inr rfl))) (fun _ _ _ _ _ => pts_nil) (fun _ _ _ _ _ => (pe_cmpR op_eq (pe_ix ix_str (pv 4) (pv 8) (fun _ _ => rfl)) pe_str (nomark _))))) pa_nil)))) pa_nil)))
   (pss_one (ps_expr (kbm (K := K) (by rfl) PySem.F.plainAttrs_list PySem.F.slot_list_append PySem.F.type_list_append mt_append (pv 3) (pa_cons (pv 4) pa_nil))))
   pss_nil))))
  (pss_one (ps_ret (pv 3))))))), ?_⟩
  obtain ⟨F, v, cs, rfl, e0, ll, hz, q⟩ := hsp
  obtain ⟨l, us, rfl, fl, pr⟩ := id ll
  let R0 : Hp → V → Prop := fun F v => v = .ref l ∧ LedL cs F v
  have S : Sta K F H [.rel R0, .un, .un, .un, .un, .un, .un, .un, .un] [] F H (L2.start N__law_closed_letters [.ref l]) :=
    ⟨Gr.refl e0, .cons ⟨fun F F' v e h => ⟨h.1, h.2.ex _ _ _ e⟩, rfl, ll⟩ (.cons trivial (.cons trivial (.cons trivial (.cons trivial (.cons trivial (.cons trivial (.cons trivial (.cons trivial .nil)))))))), (fun m hm => nomatch hm), List.nodup_nil⟩
  have eE : ("" : Str) = runS [] := by decide +kernel
  have eA : ("a" : Str) = runS [true] := by decide +kernel
  have eB : ("b" : Str) = runS [false] := by decide +kernel
  have so := S.so
  have pw : ∀ n, n ≤ 10 → (2 : Nat) ^ n ≤ 1024 := fun n hn => Nat.le_trans (Nat.pow_le_pow_right (by decide) hn) (by decide)
  refine st_set S (EvD.eq (x := .list (wsD (allL 0))) (ev_lst (ea_cons (ev_str _) ea_nil)) (by rw [eE]; rfl)) fun F1 H1 σ1 S1 => ?_
  have lus : us.length = cs.length := by rw [pr_len pr, List.length_range]
  have S1 : Sta K F H [.rel R0, .dat (.list (wsD (allL 0))), .un, .un, .un, .un, .un, .un, .un] [] F1 H1 σ1 := S1
  have v0 : σ1[0]? = some (some (.ref l)) := by
    obtain ⟨v, h1, h2, _⟩ := S1.so.rel (i := 0) (R := R0) rfl
    rw [h1, h2.1]
  dsimp only
  refine for_L S1 (l := l) (us := us) (fun F2 H2 g Q k => ⟨.ref l, v0, k F2 H2 (Gr.refl g.fh)⟩) (S1.gr.ff _ _ fl) (fun i es ms => es = [.rel R0, .dat (.list (wsD (allL i))), .un, .un, .un, .un, .un, .un, .un] ∧ ms = []) ⟨rfl, rfl⟩ ?_ ?_
  · rintro Fb Bb gb i v es ms F2 H2 σ2 hi ⟨rfl, rfl⟩ ex2 S2 σ3 S3
    have hil : i < cs.length := by rw [← lus]; exact (List.getElem?_eq_some_iff.mp hi).1
    have so := S3.so
    have ln : (allL i).length ≤ 1024 := by rw [allL_len]; exact pw i (by omega)
    have part : ∀ (x : Bool) (t : Str), t = runS [x] → EvN K (tLc (iList K (tVar 1)) (gName 4) tYes (tOp (fun x y H Q => ∃ i j, x = .str i ∧ y = .str j ∧ i.length + j.length ≤ sizeLine ∧ Q (.str (i ++ j)) H) (tVar 4) (tC (.str t))) [4]) σ3 F2 H2 (wsD ((allL i).map fun l => l ++ [x])) := fun x t et =>
      EvN.eqN (en_lcA0 (allL i) (fun r => .str (runS r)) so (it_list (ev_var so rfl)) rfl (fun r => .str (runS (r ++ [x]))) _ (by omega) (fun _ _ => tg_name) (by decide) (fun r hr F4 H4 σ4 g4 so4 => EvD.eq (ev_op (ev_var so4 rfl) (ev_str t) (r2_addS (by rw [et, runS_len, runS_len, allL_mem.mp hr]; simp; omega))) (by rw [et, runS_app]))) (by unfold wsD; rw [List.map_map]; rfl)
    refine st_set S3 (EvD.eq (EvN.toD (en_cat (part true "a" eA) (part false "b" eB) (by rw [List.length_map, List.length_map, List.length_map, List.length_map]; omega))) (x := .list (wsD (allL (i + 1)))) (by show PyData.list _ = .list (wsD ((allL i).map _ ++ (allL i).map _)); rw [← List.map_append])) fun F4 H4 σ4 S4 => ?_
    exact NX.of (S4.weak (es' := [.rel R0, .dat (.list (wsD (allL (i + 1)))), .un, .un, .un, .un, .un, .un, .un]) (by repeat (first | exact .nil | refine .cons (by first | exact trivial | rfl) ?_))) ⟨rfl, rfl⟩
  · rintro es ms F2 H2 σ2 ⟨rfl, rfl⟩ S2
    rw [lus] at S2
    have ln : (allL cs.length).length ≤ 1024 := by rw [allL_len]; exact pw _ hz
    refine st_setN S2 (en_lst ea_nil) fun p F3 H3 σ3 S3 => ?_
    have so := S3.so
    let good : List Bool → Bool := fun l => (pl true l).all (allLed cs l)
    refine for_A (allL cs.length) (fun r => .str (runS r)) S3 (it_list (ev_var so rfl)) rfl (fun i es ms => es = [.rel R0, .dat (.list (wsD (allL cs.length))), .un, .val (.ref p), .un, .un, .un, .un, .un] ∧ ms = [.lst p (wsD (((allL cs.length).take i).filter good))]) ⟨rfl, rfl⟩ ?_ ?_
    · rintro Fb Bb gb i L es ms F4 H4 σ4 hi ⟨rfl, rfl⟩ S4
      have hL : L.length = cs.length := allL_mem.mp (List.mem_of_getElem? hi)
      refine ⟨_, _, tg_name, fun σ5 S5 => ?_⟩
      have so := S5.so
      have eAc : ("a" : Str) = chr (cd true) := by decide +kernel
      refine st_set S5 (EvD.eq (x := .list (inD (pl true L))) (EvN.toD (en_lcA L.zipIdx (fun p => .tuple [.int (p.2 : Nat), .str (chr (cd p.1))]) so (it_enumS (ea_cons (ev_var so rfl) ea_nil)) (by rw [runS_signs]; exact enumD_map L _) (fun p => decide (p.1 = true)) (fun p => .int (p.2 : Nat)) _ (by rw [List.length_zipIdx]; omega) (fun _ _ => (tg_tup (tgs_cons tg_name (tgs_cons tg_name tgs_nil)))) (by decide) (fun p _ F6 H6 σ6 g6 so6 => EvT.eq (et_test (ev_op (ev_var so6 rfl) (ev_str _) r2_eqS)) (by rw [eAc]; exact chr_eq _ _)) (fun p _ _ F6 H6 σ6 g6 so6 => (ev_var so6 rfl)))) (by simp [pl, inD])) fun F6 H6 σ6 S6 => ?_
      have S6 : Sta K Fb Bb [.rel R0, .dat (.list (wsD (allL cs.length))), .un, .val (.ref p), .dat (.str (runS L)), .dat (.list (inD (pl true L))), .un, .un, .un] [.lst p (wsD (((allL cs.length).take i).filter good))] F6 H6 σ6 := S6
      have so := S6.so
      have plL : (pl true L).length ≤ 10 := by rw [pl_len]; exact Nat.le_trans List.count_le_length (by omega)
      have tk : (allL cs.length).take (i + 1) = (allL cs.length).take i ++ [L] := by rw [List.take_add_one, hi]; rfl
      refine st_if S6 (et_B (ev_cb (ea_cons (EvN.toD (EvN.eqN (en_lcA0 (pl true L) (fun n => .int (n : Nat)) so (it_list (ev_var so rfl)) rfl (fun n => .bool (allLed cs L n)) _ (by omega) (fun _ _ => tg_name) (by decide) (fun n hn F7 H7 σ7 g7 so7 => rd_led so7 rfl (R := R0) (fun F v h => h.2) rfl rfl rfl (by rw [← hL]; exact (List.getElem?_eq_some_iff.mp (pl_mem.mp hn)).1) hL (by omega))) (zs := ((pl true L).map (allLed cs L)).map .bool) (by rw [List.map_map]; rfl))) ea_nil) rc_all)) (fun hb F7 H7 S7 => ?_) (fun hb F7 H7 S7 => ?_)
      · have so := S7.so
        have hg : good L = true := by
          show (pl true L).all (allLed cs L) = true
          have hb2 := hb
          rw [List.all_map] at hb2
          exact hb2
        refine st_app (j := 0) S7 rfl rfl (ev_var so rfl) ?_ fun F8 H8 S8 => ?_
        · rw [List.length_map]
          have := List.length_filter_le good ((allL cs.length).take i)
          have : ((allL cs.length).take i).length ≤ (allL cs.length).length := by rw [List.length_take]; omega
          omega
        · refine NX.of (S8.weak (es' := [.rel R0, .dat (.list (wsD (allL cs.length))), .un, .val (.ref p), .un, .un, .un, .un, .un]) (by repeat (first | exact .nil | refine .cons (by first | exact trivial | rfl) ?_))) ⟨rfl, ?_⟩
          rw [tk, List.filter_append, List.filter_cons_of_pos hg]
          simp
      · have hg : good L = false := by
          show (pl true L).all (allLed cs L) = false
          have hb2 := hb
          rw [List.all_map] at hb2
          exact hb2
        refine NX.of (S7.weak (es' := [.rel R0, .dat (.list (wsD (allL cs.length))), .un, .val (.ref p), .un, .un, .un, .un, .un]) (by repeat (first | exact .nil | refine .cons (by first | exact trivial | rfl) ?_))) ⟨rfl, ?_⟩
        rw [tk, List.filter_append, List.filter_cons_of_neg (by rw [hg]; exact Bool.false_ne_true)]
        simp
    · rintro es ms F4 H4 σ4 ⟨rfl, rfl⟩ S4
      rw [List.take_length] at S4
      exact st_retM (j := 0) S4 rfl rfl fun us F' H' g hp hf h1 h2 => q p us F' H' g hp hf h1 h2
end TT
/-! D_steps_away -/
namespace TT
open PySem PySem.Spec PyProof.Rows L2 C8
def sp_steps_away (K : PySem.W.Frag) : Sp := SpM K fun ds P => ∃ (cs : List Ct) (k : Nat), cs.length ≤ 1000 ∧ k < cs.length ∧ ds = [.list (cs.map fun c => .list (inD (fl cs c))), .int (k : Nat)] ∧ P = fun mk => ∃ kds, mk = (fun p => .dK p kds) ∧ LedK cs k kds
theorem len_steps_away {K : PySem.W.Frag} : ∀ vs H Q E, sp_steps_away K vs H Q E → vs.length = 2 := spM_len (by rintro _ _ ⟨a, k, _, _, rfl, _⟩; rfl)
abbrev N_steps_away : List Str := ["next_lists", "start", "found", "waiting", "here", "there"]
theorem sc_steps_away : FnScope N_steps_away ["next_lists", "start"] (C8.fnScope st_steps_away) := C8.fnScope_by (by decide +kernel)
theorem c_steps_away {P : Program} {w : World} {K : PySem.W.Frag} {mg : Str → Option Value} {base : Heap} (T : Txt K mg) : C8.Cal P w K mg base 1 "steps_away" (sp_steps_away K) [] := by
  obtain ⟨f, fd, Fd, df⟩ := T.d_steps_away
  refine C8.cal0 Fd (Fd.fn.binds df (ps := ["next_lists", "start"]) (fun _ _ _ _ _ _ us hl => match us, hl with | [_, _], _ => rfl)) .nil sc_steps_away len_steps_away fun cdv A outer s H vs Q E hr hsp => ?_
  have hu := hu_of hr
  have nd := (sc_steps_away).nd
  refine ⟨_, (pss_cons (ps_par (i := 2) (j := 3) (by rfl) nd (by rfl) (by rfl) (by decide) (by rfl) (by rfl) (pa_cons (pe_disp (pps_cons (pv 1) pe_int pps_nil) (by rfl) (by rfl) (fun z => by cases z) (by decide)) (pa_cons (pe_lst (pa_cons (pv 1) pa_nil)) pa_nil)) (by rfl))
  (pss_cons (ps_while PassesOwn.never (pt_cmpR (kneD (K := K) (by rfl) hr.units) (pv 3) (pe_lst pa_nil) (nomark _))
   (pss_cons (ps_set (i := 4) nd (by rfl) (by first | exact Or.inl rfl | exact Or.inr rfl) (kbm (K := K) (by rfl) PySem.F.plainAttrs_list PySem.F.slot_list_pop PySem.F.type_list_pop mt_popAt (pv 3) (pa_cons pe_int pa_nil)))
  (pss_one (ps_for PassesOwn.never rfl (kpi_list (K := K) (by rfl) (pe_ix (kix_list (K := K) (by rfl)) (pv 0) (pv 4) (fun _ _ => rfl))) (pg_name (i := 5) nd (by rfl) (by first | exact Or.inl rfl | exact Or.inr rfl))
   (pss_one (ps_if (pt_cmp (pc_dnotin hu (pv 5) (pv 2)))
   (pss_cons (ps_dput hu (pv 2) (pv 5) (pe_op op_add (pe_dget hu (pv 2) (pv 4) (fun _ _ => rfl)) pe_int) rfl)
  (pss_one (ps_expr (kbm (K := K) (by rfl) PySem.F.plainAttrs_list PySem.F.slot_list_append PySem.F.type_list_append mt_append (pv 3) (pa_cons (pv 5) pa_nil)))))
   pss_nil))))))
  (pss_one (ps_ret (pv 2))))), ?_⟩
  obtain ⟨F, ds, P, e0, hd, ⟨cs, k, hz, hk, rfl, rfl⟩, q⟩ := hsp
  have S : Sta K F H [.dat (.list (cs.map fun c => .list (inD (fl cs c)))), .dat (.int (k : Nat)), .un, .un, .un, .un] [] F H (L2.start N_steps_away vs) := Sta.begin 4 e0 hd
  have so := S.so
  let NL : D := .list (cs.map fun c => .list (inD (fl cs c)))
  refine st_parMM S (em_disp1 (k := .inl (k : Nat)) (ev_var so rfl) (ev_int _)) (EvN.toM (en_lst (ea_cons (ev_var so rfl) ea_nil))) fun pf pw F1 H1 σ1 S1 => ?_
  refine while_S S1 (fun m es ms => es = [.dat NL, .dat (.int (k : Nat)), .val (.ref pf), .val (.ref pw), .un, .un] ∧ ∃ kds ws, ms = [.lst pw (inD ws), .dK pf kds] ∧ Bfs cs k kds ws (fun _ _ => True) IsI ∧ 2 * (cs.length - kds.length) + ws.length ≤ m ∧ m ≤ 2001) (2 * (cs.length - 1) + 1) ⟨rfl, [(.inl (k : Nat), .int 0)], [k], rfl, Bfs.start cs k ⟨0, rfl⟩, Nat.le_refl _, by omega⟩ ?_
  rintro m es ms F2 H2 σ2 ⟨rfl, kds, ws, rfl, bf, hm, hm2⟩ S2
  have sop := (S2.so.ex S2.ex).pk S2.ex (S2.m (j := 0) rfl) (i := 3) rfl
  refine ⟨!ws.isEmpty, EvT.eq (et_peek (et_test (ev_op (ev_var sop rfl) (ev_lst ea_nil) (r2_neD (shaped_inD ws).1 rfl)))) (by rw [ne_nilD]; simp), fun hb F3 H3 S3 => ?_, fun hb F3 H3 S3 => ?_⟩
  · cases ws with
    | nil => cases hb
    | cons w ws =>
    -- here = waiting.pop(0)
    refine st_popAt (k := 0) (j := 0) S3 rfl rfl (ev_int 0) (by decide) rfl fun F4 H4 σ4 S4 => ?_
    have so := S4.so
    obtain ⟨w', ew, rw_⟩ := bf.rc _ (bf.wt w List.mem_cons_self)
    have ew' : w' = w := by have := Sum.inl.inj ew; omega
    subst ew'
    have hwl := rch_lt hk rw_
    obtain ⟨c, hc⟩ : ∃ c, cs[w']? = some c := ⟨_, List.getElem?_eq_getElem hwl⟩
    have hm' : 2 * (cs.length - kds.length) + ws.length + 1 ≤ m := by rw [List.length_cons] at hm; omega
    refine for_A (fl cs c) (fun n => .int (n : Nat)) S4 (it_list (ev_op (ev_var so rfl) (ev_var so rfl) (r2_ixL (atI_nat (j := w') (by rw [List.getElem?_map, hc]; rfl))))) rfl
      (fun t es ms => es = [.dat NL, .dat (.int (k : Nat)), .val (.ref pf), .val (.ref pw), .dat (.int (w' : Nat)), .un] ∧ ∃ kds ws, ms = [.lst pw (inD ws), .dK pf kds] ∧ Bfs cs k kds ws (fun i j => i = w' → j ∈ (fl cs c).take t) IsI ∧ (Sum.inl (w' : Int) : Key) ∈ kds.map (·.1) ∧ 2 * (cs.length - kds.length) + ws.length + 1 ≤ m) ⟨rfl, kds, ws, rfl, ?_, bf.wt w' List.mem_cons_self, hm'⟩ ?_ ?_
    · refine ⟨bf.nd, bf.rc, bf.st, fun x hx => bf.wt x (List.mem_cons_of_mem _ hx), fun i hi hn j eb db => ?_, bf.vl⟩
      by_cases e : i = w'
      · have := db e
        simp at this
      · exact bf.cl i hi (fun z => (List.mem_cons.mp z).elim e hn) j eb trivial
    · rintro Fb Bb gb t j es ms F5 H5 σ5 ht ⟨rfl, kds5, ws5, rfl, bf5, hw5, hm5⟩ S5
      refine ⟨_, _, tg_name, fun σ6 S6 => ?_⟩
      have so := S6.so
      have ej : EG cs w' j := (eg_fl hc).mpr (List.mem_of_getElem? ht)
      have tk : ∀ x, x ∈ (fl cs c).take (t + 1) → x ∈ (fl cs c).take t ∨ x = j := fun x hx => by
        rw [List.take_add_one, ht] at hx
        simpa using hx
      refine st_if S6 (et_B (ev_dnin (ev_val so rfl) (ev_var so rfl) (k := .inl (j : Nat)) (S6.m (j := 1) rfl))) (fun hb F7 H7 S7 => ?_) (fun hb F7 H7 S7 => ?_)
      · have so := S7.so
        have hj : valD kds5 (.inl (j : Nat)) = none := by
          cases e : valD kds5 (.inl (j : Nat)) with
          | none => rfl
          | some _ => rw [e] at hb; cases hb
        obtain ⟨dz, hdz⟩ := Option.isSome_iff_exists.mp (key_in.mp hw5)
        obtain ⟨z, rfl⟩ := bf5.vl _ _ hdz
        have hlen := bf5.len hk
        have hlen2 : kds5.length < cs.length := by
          have b2 := bf5.put (z := .int (z + 1)) ⟨_, rfl⟩ (j := j) (i := w') (bf5.rc _ hw5 |>.elim fun x hx => by
            have : x = w' := by have := Sum.inl.inj hx.1; omega
            exact this ▸ hx.2) ej hj (j :: ws5) (fun w => List.mem_cons)
          have := b2.len hk
          rw [putD_new _ hj, List.length_append] at this
          exact this
        refine st_dput (k := .inl (j : Nat)) (j := 1) S7 (ev_op (ev_dget (ev_val so rfl) (ev_var so rfl) (k := .inl (w' : Nat)) (S7.m (j := 1) rfl) hdz) (ev_int _) r2_I0) rfl rfl (ev_var so rfl) (by omega) fun F8 H8 S8 => ?_
        have so := S8.so
        refine st_app (j := 0) S8 rfl rfl (ev_var so rfl) (by rw [List.length_map]; omega) fun F9 H9 S9 => ?_
        refine NX.of (S9.weak (es' := [.dat NL, .dat (.int (k : Nat)), .val (.ref pf), .val (.ref pw), .dat (.int (w' : Nat)), .un]) (by repeat (first | exact .nil | refine .cons (by first | exact trivial | rfl) ?_))) ⟨rfl, putD kds5 (.inl (j : Nat)) (.int (z + 1)), ws5 ++ [j], by simp [inD], ?_, (putD_keys _ _ _ _).mpr (.inr hw5), ?_⟩
        · have b2 := bf5.put (z := .int (z + 1)) ⟨_, rfl⟩ (j := j) (i := w') (bf5.rc _ hw5 |>.elim fun x hx => by
            have : x = w' := by have := Sum.inl.inj hx.1; omega
            exact this ▸ hx.2) ej hj (ws5 ++ [j]) (fun w => by rw [List.mem_append, List.mem_singleton]; exact Or.comm)
          refine ⟨b2.nd, b2.rc, b2.st, b2.wt, fun i hi hn x eb db => ?_, b2.vl⟩
          by_cases e : i = w' ∧ x = j
          · rw [e.2]; exact (putD_keys _ _ _ _).mpr (.inl rfl)
          · exact b2.cl i hi hn x eb fun z => (tk x (db z)).resolve_right fun y => e ⟨z, y⟩
        · rw [putD_new _ hj, List.length_append, List.length_append, List.length_singleton, List.length_singleton]
          omega
      · have hj : (Sum.inl (j : Int) : Key) ∈ kds5.map (·.1) := by
          rw [key_in]
          cases e : (valD kds5 (.inl (j : Nat))).isSome with
          | true => rfl
          | false => rw [e] at hb; cases hb
        refine NX.of (S7.weak (es' := [.dat NL, .dat (.int (k : Nat)), .val (.ref pf), .val (.ref pw), .dat (.int (w' : Nat)), .un]) (by repeat (first | exact .nil | refine .cons (by first | exact trivial | rfl) ?_))) ⟨rfl, kds5, ws5, rfl, ⟨bf5.nd, bf5.rc, bf5.st, bf5.wt, fun i hi hn x eb db => ?_, bf5.vl⟩, hw5, hm5⟩
        by_cases e : i = w' ∧ x = j
        · rw [e.2]; exact hj
        · exact bf5.cl i hi hn x eb fun z => (tk x (db z)).resolve_right fun y => e ⟨z, y⟩
    · rintro es ms F5 H5 σ5 ⟨rfl, kds5, ws5, rfl, bf5, hw5, hm5⟩ S5
      refine NX.of (S5.weak (es' := [.dat NL, .dat (.int (k : Nat)), .val (.ref pf), .val (.ref pw), .un, .un]) (by repeat (first | exact .nil | refine .cons (by first | exact trivial | rfl) ?_))) ⟨m - 1, by omega, rfl, kds5, ws5, rfl, ⟨bf5.nd, bf5.rc, bf5.st, bf5.wt, fun i hi hn x eb _ => ?_, bf5.vl⟩, by omega, by omega⟩
      refine bf5.cl i hi hn x eb fun z => ?_
      rw [List.take_length]
      rw [z] at eb
      exact (eg_fl hc).mp eb
  · cases ws with
    | cons w ws => cases hb
    | nil => exact st_retO (j := 1) S3 rfl rfl rfl fun F' H' g hp m => q (fun p => .dK p kds) pf F' H' ⟨kds, rfl, bf.fin hk (fun _ _ => trivial)⟩ g hp m
end TT
/-! D_forces -/
namespace TT
open PySem PySem.Spec PyProof.Rows L2 C8
def sp_forces (K : PySem.W.Frag) : Sp := SpF K fun ds d => ∃ a b : Ct, ds = [ctD a, ctD b] ∧ d = .bool (forcesB a b)
theorem len_forces {K : PySem.W.Frag} : ∀ vs H Q E, sp_forces K vs H Q E → vs.length = 2 := spF_len (by rintro _ _ ⟨a, b, rfl, _⟩; rfl)
abbrev N_forces : List Str := ["one", "other"]
theorem sc_forces : FnScope N_forces ["one", "other"] (C8.fnScope st_forces) := C8.fnScope_by (by decide +kernel)
theorem c_forces {P : Program} {w : World} {K : PySem.W.Frag} {mg : Str → Option Value} {base : Heap} (T : Txt K mg) : C8.Cal P w K mg base 1 "forces" (sp_forces K) [] := by
  obtain ⟨f, fd, Fd, df⟩ := T.d_forces
  refine C8.cal0 Fd (Fd.fn.binds df (ps := ["one", "other"]) (fun _ _ _ _ _ _ us hl => match us, hl with | [_, _], _ => rfl)) .nil sc_forces len_forces fun cdv A outer s H vs Q E hr hsp => ?_
  have hu := hu_of hr
  have nd := (sc_forces).nd
  refine ⟨_, (pss_one (ps_ret (pe_and (pe_cmpR op_le (pe_ix (kix_tup (K := K) (by rfl)) (pv 1) pe_int (fun _ _ => rfl)) (pe_ix (kix_tup (K := K) (by rfl)) (pv 0) pe_int (fun _ _ => rfl)) (nomark _)) (pe_one (pe_cmpR op_le (pe_ix (kix_tup (K := K) (by rfl)) (pv 0) pe_int (fun _ _ => rfl)) (pe_ix (kix_tup (K := K) (by rfl)) (pv 1) pe_int (fun _ _ => rfl)) (nomark _)))))), ?_⟩
  obtain ⟨F, ds, d, e0, hd, ⟨a, b, rfl, rfl⟩, q⟩ := hsp
  have S : Sta K F H [.dat (ctD a), .dat (ctD b)] [] F H (L2.start N_forces vs) := Sta.begin 0 e0 hd
  have so := S.so
  refine st_ret S (EvD.eq (ev_andV (ev_op (ev_op (ev_var so rfl) (ev_int _) (r2_ixT rfl)) (ev_op (ev_var so rfl) (ev_int _) (r2_ixT rfl)) r2_B0) (fun _ => (ev_op (ev_op (ev_var so rfl) (ev_int _) (r2_ixT rfl)) (ev_op (ev_var so rfl) (ev_int _) (r2_ixT rfl)) r2_B0))) ?_) q
  simp [forcesB]
end TT
/-! D_forced_lists -/
namespace TT
open PySem PySem.Spec PyProof.Rows L2 C8
def sp_forced_lists (K : PySem.W.Frag) : Sp := SpN K fun ds zs => ∃ cs : List Ct, cs.length ≤ 1000 ∧ ds = [.tuple (cs.map ctD)] ∧ zs = cs.map fun c => .list (inD (fl cs c))
theorem len_forced_lists {K : PySem.W.Frag} : ∀ vs H Q E, sp_forced_lists K vs H Q E → vs.length = 1 := spN_len (by rintro _ _ ⟨a, _, rfl, _⟩; rfl)
abbrev N_forced_lists : List Str := ["known", "one", "at", "other"]
theorem sc_forced_lists : FnScope N_forced_lists ["known"] (C8.fnScope st_forced_lists) := C8.fnScope_by (by decide +kernel)
theorem c_forced_lists {P : Program} {w : World} {K : PySem.W.Frag} {mg : Str → Option Value} {base : Heap} (T : Txt K mg) (c_forces : C8.Cal P w K mg base 1 "forces" (sp_forces K) []) : C8.Cal P w K mg base 2 "forced_lists" (sp_forced_lists K) [] := by
  obtain ⟨f, fd, Fd, df⟩ := T.d_forced_lists
  refine C8.cal0 Fd (Fd.fn.binds df (ps := ["known"]) (fun _ _ _ _ _ _ us hl => match us, hl with | [_], _ => rfl)) .nil sc_forced_lists len_forced_lists fun cdv A outer s H vs Q E hr hsp => ?_
  have hu := hu_of hr
  have nd := (sc_forced_lists).nd
  refine ⟨_, (pss_one (ps_ret (pe_lc (own := [("one", 1)]) (by rfl) nd (kpi_tup (K := K) (by rfl) (pv 0)) (blkOk_by (by kernel_rfl)) (fun _ _ _ _ _ => (pg_name (i := 1) nd (by rfl) (by first | exact Or.inl rfl | exact Or.inr rfl))) (fun _ _ _ _ _ => pts_nil) (fun _ _ _ _ _ => (pe_lc (own := [("at", 2), ("other", 3)]) (by rfl) nd (kpi_enumT (K := K) (by rfl) (by rfl) (by rfl) T.b_enumerate (pa_cons (pv 0) pa_nil)) (blkOk_by (by kernel_rfl)) (fun _ _ _ _ _ => (kpg_tup (K := K) (n := 2) (by rfl) (by rfl) (pgs_cons (pg_name (i := 2) nd (by rfl) (by first | exact Or.inl rfl | exact Or.inr rfl)) (pgs_cons (pg_name (i := 3) nd (by rfl) (by first | exact Or.inl rfl | exact Or.inr rfl)) pgs_nil)))) (fun _ _ _ _ _ => (pts_one (pt_val (pe_c c_forces hr (by decide) (by rfl) (pa_cons (pv 1) (pa_cons (pv 3) pa_nil)))))) (fun _ _ _ _ _ => (pv 2))))))), ?_⟩
  obtain ⟨F, ds, zs, e0, hd, ⟨cs, hz, rfl, rfl⟩, q⟩ := hsp
  have S : Sta K F H [.dat (.tuple (cs.map ctD)), .un, .un, .un] [] F H (L2.start N_forced_lists vs) := Sta.begin 3 e0 hd
  have so := S.so
  refine st_retN S (en_lcA0 cs ctD so (it_tup (ev_var so rfl)) rfl (fun c => .list (inD (fl cs c))) _ (by omega) (fun a _ => tg_name) (by decide) fun c _ F1 H1 σ2 g1 so2 => ?_) q
  refine EvD.eq (EvN.toD (en_lcA cs.zipIdx (fun p => .tuple [.int (p.2 : Nat), ctD p.1]) so2 (it_enumT (ea_cons (ev_var so2 rfl) ea_nil)) (enumD_map cs ctD) (fun p => forcesB c p.1) (fun p => .int (p.2 : Nat)) _ (by rw [List.length_zipIdx]; omega) (fun a _ => (tg_tup (tgs_cons tg_name (tgs_cons tg_name tgs_nil)))) (by decide) (fun a _ F3 H3 σ4 g3 so4 => ?_) (fun a _ _ F3 H3 σ4 g3 so4 => (ev_var so4 rfl)))) ?_
  · exact (et_B (ev_call (ea_cons (ev_var so4 rfl) (ea_cons (ev_var so4 rfl) ea_nil)) ⟨c, a.1, rfl, rfl⟩))
  · simp [fl, inD]
end TT
/-! D_sections -/
namespace TT
open PySem PySem.Spec PyProof.Rows L2 C8
def sp_sections (K : PySem.W.Frag) : Sp := SpF K fun ds d => ∃ t : Th, Vd t ∧ ds = [thD t] ∧ d = .tuple ((sortBy seD (secs t)).map seD)
theorem len_sections {K : PySem.W.Frag} : ∀ vs H Q E, sp_sections K vs H Q E → vs.length = 1 := spF_len (by rintro _ _ ⟨a, _, rfl, _⟩; rfl)
def lbD (p : Nat × Str) : D := .tuple [.int (p.1 : Nat), .str p.2]
theorem lastB_step {t : Th} {i : Nat} {w m : Str} (h : t[i]? = some (w, m)) (n : Str) : lastB t (i + 1) n = if m = n ∧ isL w then some (i, w) else lastB t i n := by
  show (match t[i]? with | some (w, m) => if m = n ∧ isL w then some (i, w) else lastB t i n | none => lastB t i n) = _
  rw [h]
theorem secs_step {t : Th} {i : Nat} {w m : Str} (h : t[i]? = some (w, m)) : (List.range (i + 1)).filterMap (secAt t) = (List.range i).filterMap (secAt t) ++ (if isF w then ((lastB t i m).map fun p => (⟨p.1, i, p.2, m⟩ : Sec)).toList else []) := by
  rw [List.range_succ, List.filterMap_append]
  congr 1
  have e : secAt t i = if isF w then (lastB t i m).map fun p => (⟨p.1, i, p.2, m⟩ : Sec) else none := by unfold secAt; rw [h]
  rw [List.filterMap_cons, e]
  by_cases c : isF w = true
  · rw [if_pos c, if_pos c]
    cases lastB t i m <;> rfl
  · rw [if_neg c, if_neg c]
    rfl
abbrev N_sections : List Str := ["thread", "found", "begun", "number", "word", "name", "begin", "how"]
theorem sc_sections : FnScope N_sections ["thread"] (C8.fnScope st_sections) := C8.fnScope_by (by decide +kernel)
theorem c_sections {P : Program} {w : World} {K : PySem.W.Frag} {mg : Str → Option Value} {base : Heap} (T : Txt K mg) : C8.Cal P w K mg base 1 "sections" (sp_sections K) [] := by
  obtain ⟨f, fd, Fd, df⟩ := T.d_sections
  refine C8.cal0 Fd (Fd.fn.binds df (ps := ["thread"]) (fun _ _ _ _ _ _ us hl => match us, hl with | [_], _ => rfl)) .nil sc_sections len_sections fun cdv A outer s H vs Q E hr hsp => ?_
  have hu := hu_of hr
  have nd := (sc_sections).nd
  refine ⟨_, (pss_cons (ps_par (i := 1) (j := 2) (by rfl) nd (by rfl) (by rfl) (by decide) (by rfl) (by rfl) (pa_cons (pe_lst pa_nil) (pa_cons pe_dnewK pa_nil)) (by rfl))
  (pss_cons (ps_for PassesOwn.never rfl (kpi_enumT (K := K) (by rfl) (by rfl) (by rfl) T.b_enumerate (pa_cons (pv 0) pa_nil)) (kpg_tup (K := K) (n := 2) (by rfl) (by rfl) (pgs_cons (pg_name (i := 3) nd (by rfl) (by first | exact Or.inl rfl | exact Or.inr rfl)) (pgs_cons (kpg_tup (K := K) (n := 2) (by rfl) (by rfl) (pgs_cons (pg_name (i := 4) nd (by rfl) (by first | exact Or.inl rfl | exact Or.inr rfl)) (pgs_cons (pg_name (i := 5) nd (by rfl) (by first | exact Or.inl rfl | exact Or.inr rfl)) pgs_nil))) pgs_nil)))
   (C8.pss_cut (ps_if (pt_cmpR (kin (K := K) (by rfl)) (pv 4) (pe_tup (pa_cons (pe_gc (by rfl) T.g_LOCK) (pa_cons (pe_gc (by rfl) T.g_SHARE) pa_nil))) (by rfl))
   (pss_one (ps_dput hu (pv 2) (pv 5) (pe_tup (pa_cons (pv 3) (pa_cons (pv 4) pa_nil))) rfl))
   pss_nil)
  (pss_one (ps_if (pt_cmpR op_eq (pv 4) (pe_gc (by rfl) T.g_FREE) (nomark _))
   (pss_cons (ps_asg (pe_dget hu (pv 2) (pv 5) (fun _ _ => rfl)) (kpg_tup (K := K) (n := 2) (by rfl) (by rfl) (pgs_cons (pg_name (i := 6) nd (by rfl) (by first | exact Or.inl rfl | exact Or.inr rfl)) (pgs_cons (pg_name (i := 7) nd (by rfl) (by first | exact Or.inl rfl | exact Or.inr rfl)) pgs_nil))))
  (pss_one (ps_expr (kbm (K := K) (by rfl) PySem.F.plainAttrs_list PySem.F.slot_list_append PySem.F.type_list_append mt_append (pv 1) (pa_cons (pe_tup (pa_cons (pv 6) (pa_cons (pv 3) (pa_cons (pv 7) (pa_cons (pv 5) pa_nil))))) pa_nil)))))
   pss_nil))))
  (pss_one (ps_ret (pe_callTy (kc_tuple (K := K) (by rfl)) (by rfl) T.b_tuple (by decide +kernel) (pa_cons (pe_callB (kc_sortedL (K := K) (by rfl) hr.units) (by rfl) T.b_sorted (by decide +kernel) (pa_cons (pv 1) pa_nil)) pa_nil)))))), ?_⟩
  obtain ⟨F, ds, d, e0, hd, ⟨t, vd, rfl, rfl⟩, q⟩ := hsp
  have S : Sta K F H [.dat (thD t), .un, .un, .un, .un, .un, .un, .un] [] F H (L2.start N_sections vs) := Sta.begin 7 e0 hd
  have hz := vd.len
  refine st_parMM S (EvN.toM (en_lst ea_nil)) em_newK fun pf pb F1 H1 σ1 S1 => ?_
  have so := S1.so
  refine for_A t.zipIdx (fun p => .tuple [.int (p.2 : Nat), stD p.1]) S1 (it_enumT (ea_cons (ev_var so rfl) ea_nil)) (enumD_map t stD)
    (fun i es ms => es = [.dat (thD t), .val (.ref pf), .val (.ref pb), .un, .un, .un, .un, .un] ∧ ∃ kds, ms = [.dK pb kds, .lst pf (((List.range i).filterMap (secAt t)).map seD)] ∧ kds.length ≤ i ∧ ∀ n, valD kds (.inr n) = (lastB t i n).map lbD) ⟨rfl, [], rfl, Nat.le_refl _, fun n => rfl⟩ ?_ ?_
  · rintro Fb Bb gb i s es ms F2 H2 σ2 hi ⟨rfl, kds, rfl, hk, hv⟩ S2
    rw [List.getElem?_zipIdx] at hi
    obtain ⟨⟨w, m⟩, ht, rfl⟩ := Option.map_eq_some_iff.mp hi
    have hil : i < t.length := (List.getElem?_eq_some_iff.mp ht).1
    refine ⟨_, _, (tg_tup (tgs_cons tg_name (tgs_cons (tg_tup (tgs_cons tg_name (tgs_cons tg_name tgs_nil))) tgs_nil))), fun σ3 S3 => ?_⟩
    have so := S3.so
    refine st_cut S3 (fun es ms => es = [.dat (thD t), .val (.ref pf), .val (.ref pb), .dat (.int ((0 + i : Nat) : Int)), .dat (.str w), .dat (.str m), .un, .un] ∧ ∃ kds', ms = [.dK pb kds', .lst pf (((List.range i).filterMap (secAt t)).map seD)] ∧ kds'.length ≤ i + 1 ∧ ∀ n, valD kds' (.inr n) = (lastB t (i + 1) n).map lbD) ?_ ?_
    · refine st_if S3 (et_test (ev_op (ev_var so rfl) (ev_tup (ea_cons (ev_str _) (ea_cons (ev_str _) ea_nil))) (r2_inT (ns := ["lock", "share"])))) (fun hb F4 H4 S4 => ?_) (fun hb F4 H4 S4 => ?_)
      · have so := S4.so
        refine st_dput (k := .inr m) (j := 0) S4 (ev_tup (ea_cons (ev_var so rfl) (ea_cons (ev_var so rfl) ea_nil))) rfl rfl (ev_var so rfl) (by omega) fun F5 H5 S5 => NX.of S5 ⟨rfl, _, rfl, ?_, fun n => ?_⟩
        · exact Nat.le_trans (putD_len _ _ _) (by omega)
        · rw [valD_putD, lastB_step ht]
          have hl : isL w = true := hb
          by_cases c : n = m
          · subst c
            rw [if_pos rfl, if_pos ⟨rfl, hl⟩]
            simp [lbD]
          · rw [if_neg (fun z => c (Sum.inr.inj z)), if_neg (fun z => c z.1.symm)]
            exact hv n
      · refine NX.of S4 ⟨rfl, kds, rfl, by omega, (fun n => ?_)⟩
        have hl : ¬ isL w = true := by rw [show isL w = false from hb]; exact Bool.false_ne_true
        rw [lastB_step ht, if_neg (fun z => hl z.2)]
        exact hv n
    · rintro es ms F4 H4 σ4 ⟨rfl, kds', rfl, hk', hv'⟩ S4
      have so := S4.so
      refine st_if S4 (et_test (ev_op (ev_var so rfl) (ev_str _) r2_eqS)) (fun hb F5 H5 S5 => ?_) (fun hb F5 H5 S5 => ?_)
      · have so := S5.so
        have hf : isF w = true := hb
        have hl : isL w = false := by
          have e := of_decide_eq_true hf
          rw [e]
          decide +kernel
        have hs := vd.fr i w m ht hf
        obtain ⟨x, hx⟩ := Option.isSome_iff_exists.mp hs
        obtain ⟨⟨b, how⟩, hb2⟩ := Option.isSome_iff_exists.mp (held_lastB t i m x hx)
        have hv2 := hv' m
        rw [lastB_step ht, if_neg (fun z => by rw [hl] at z; exact Bool.false_ne_true z.2), hb2] at hv2
        refine st_asg S5 (ev_dget (ev_val so rfl) (ev_var so rfl) (k := .inr m) (S5.m (j := 0) rfl) hv2) (tg_tup (tgs_cons tg_name (tgs_cons tg_name tgs_nil))) fun F6 H6 σ6 S6 => ?_
        have so := S6.so
        refine st_app (j := 1) S6 rfl rfl (ev_tup (ea_cons (ev_var so rfl) (ea_cons (ev_var so rfl) (ea_cons (ev_var so rfl) (ea_cons (ev_var so rfl) ea_nil))))) ?_ fun F7 H7 S7 => ?_
        · rw [List.length_map]
          have := List.length_filterMap_le (secAt t) (List.range i)
          rw [List.length_range] at this
          omega
        · refine NX.of (S7.weak (es' := [.dat (thD t), .val (.ref pf), .val (.ref pb), .un, .un, .un, .un, .un]) (by repeat (first | exact .nil | refine .cons (by first | exact trivial | rfl) ?_))) ⟨rfl, kds', ?_, hk', hv'⟩
          rw [secs_step ht, if_pos hf, hb2]
          simp [seD]
      · refine NX.of (S5.weak (es' := [.dat (thD t), .val (.ref pf), .val (.ref pb), .un, .un, .un, .un, .un]) (by repeat (first | exact .nil | refine .cons (by first | exact trivial | rfl) ?_))) ⟨rfl, kds', ?_, hk', hv'⟩
        have hf : isF w = false := hb
        rw [secs_step ht, hf]
        simp
  · rintro es ms F2 H2 σ2 ⟨rfl, kds, rfl, hk, hv⟩ S2
    have so := S2.so
    rw [List.length_zipIdx] at S2
    obtain ⟨vs2, S3, d3⟩ := (S2.less (ms' := [.lst pf (secs t |>.map seD)]) (List.sublist_cons_self _ _)).freeze
    have so := S3.so.put (i := 1) (S3.so.val rfl) d3
    refine st_ret S3 (ev_cb (ea_cons (EvN.toD (en_cb (ea_cons (ev_var so rfl) ea_nil) (rcn_sort (all_of alike_se _) (.inl fun d hd => ?_) (dep_of depth_se _)))) ea_nil) rc_tup) fun v F' H' g kv => q v F' H' g ?_
    · obtain ⟨x, _, rfl⟩ := List.mem_map.mp hd
      exact ⟨_, _, rfl⟩
    · rw [← sortD_map]
      exact kv
end TT
/-! D_lock_contests -/
namespace TT
open PySem PySem.Spec PyProof.Rows L2 C8
def sp_lock_contests (K : PySem.W.Frag) : Sp := SpN K fun ds zs => ∃ a b : Th, Vd a ∧ Vd b ∧ ds = [prD a b] ∧ zs = (lockS a b).map ctD
theorem len_lock_contests {K : PySem.W.Frag} : ∀ vs H Q E, sp_lock_contests K vs H Q E → vs.length = 1 := spN_len (by rintro _ _ ⟨a, b, _, _, rfl, _⟩; rfl)
abbrev N_lock_contests : List Str := ["pair", "found", "begin", "end", "word", "name", "first", "last", "other", "same"]
theorem sc_lock_contests : FnScope N_lock_contests ["pair"] (C8.fnScope st_lock_contests) := C8.fnScope_by (by decide +kernel)
theorem c_lock_contests {P : Program} {w : World} {K : PySem.W.Frag} {mg : Str → Option Value} {base : Heap} (T : Txt K mg) (c_sections : C8.Cal P w K mg base 1 "sections" (sp_sections K) []) : C8.Cal P w K mg base 2 "lock_contests" (sp_lock_contests K) [] := by
  obtain ⟨f, fd, Fd, df⟩ := T.d_lock_contests
  refine C8.cal0 Fd (Fd.fn.binds df (ps := ["pair"]) (fun _ _ _ _ _ _ us hl => match us, hl with | [_], _ => rfl)) .nil sc_lock_contests len_lock_contests fun cdv A outer s H vs Q E hr hsp => ?_
  have hu := hu_of hr
  have nd := (sc_lock_contests).nd
  refine ⟨_, (pss_cons (ps_set (i := 1) nd (by rfl) (by first | exact Or.inl rfl | exact Or.inr rfl) (pe_lst pa_nil))
  (pss_cons (ps_for PassesOwn.never rfl (kpi_tup (K := K) (by rfl) (pe_c c_sections hr (by decide) (by rfl) (pa_cons (pe_ix (kix_tup (K := K) (by rfl)) (pv 0) pe_int (fun _ _ => rfl)) pa_nil))) (kpg_tup (K := K) (n := 4) (by rfl) (by rfl) (pgs_cons (pg_name (i := 2) nd (by rfl) (by first | exact Or.inl rfl | exact Or.inr rfl)) (pgs_cons (pg_name (i := 3) nd (by rfl) (by first | exact Or.inl rfl | exact Or.inr rfl)) (pgs_cons (pg_name (i := 4) nd (by rfl) (by first | exact Or.inl rfl | exact Or.inr rfl)) (pgs_cons (pg_name (i := 5) nd (by rfl) (by first | exact Or.inl rfl | exact Or.inr rfl)) pgs_nil)))))
   (pss_one (ps_for PassesOwn.never rfl (kpi_tup (K := K) (by rfl) (pe_c c_sections hr (by decide) (by rfl) (pa_cons (pe_ix (kix_tup (K := K) (by rfl)) (pv 0) pe_int (fun _ _ => rfl)) pa_nil))) (kpg_tup (K := K) (n := 4) (by rfl) (by rfl) (pgs_cons (pg_name (i := 6) nd (by rfl) (by first | exact Or.inl rfl | exact Or.inr rfl)) (pgs_cons (pg_name (i := 7) nd (by rfl) (by first | exact Or.inl rfl | exact Or.inr rfl)) (pgs_cons (pg_name (i := 8) nd (by rfl) (by first | exact Or.inl rfl | exact Or.inr rfl)) (pgs_cons (pg_name (i := 9) nd (by rfl) (by first | exact Or.inl rfl | exact Or.inr rfl)) pgs_nil)))))
   (pss_one (ps_if (PW.pt (pw_and (pt_cmpR op_eq (pv 5) (pv 9) (nomark _)) (pw_and1 (pt_not (pt_chain op_eq op_eq (pv 4) (pv 8) (pe_gc (by rfl) T.g_SHARE))))))
   (pss_one (ps_expr (kbm (K := K) (by rfl) PySem.F.plainAttrs_list PySem.F.slot_list_append PySem.F.type_list_append mt_append (pv 1) (pa_cons (pe_tup (pa_cons (pv 2) (pa_cons (pv 3) (pa_cons (pv 6) (pa_cons (pv 7) (pa_cons pe_str (pa_cons (pv 5) pa_nil))))))) pa_nil))))
   pss_nil)))))
  (pss_one (ps_ret (pv 1))))), ?_⟩
  obtain ⟨F, ds, zs, e0, hd, ⟨a, b, va, vb, rfl, rfl⟩, q⟩ := hsp
  have S : Sta K F H [.dat (prD a b), .un, .un, .un, .un, .un, .un, .un, .un, .un] [] F H (L2.start N_lock_contests vs) := Sta.begin 9 e0 hd
  have ha := va.len
  have hb := vb.len
  refine st_setN S (en_lst ea_nil) fun p F1 H1 σ1 S1 => ?_
  have so := S1.so
  let la := sortBy seD (secs a)
  let lb := sortBy seD (secs b)
  have hla : la.length ≤ 6 := by show (sortBy _ _).length ≤ 6; rw [sortBy_len]; exact Nat.le_trans (secs_len a) ha
  have hlb : lb.length ≤ 6 := by show (sortBy _ _).length ≤ 6; rw [sortBy_len]; exact Nat.le_trans (secs_len b) hb
  refine for_A la seD S1 (it_tup (ev_call (ea_cons (ev_op (ev_var so rfl) (ev_int _) (r2_ixT rfl)) ea_nil) ⟨a, va, rfl, rfl⟩)) rfl
    (fun i es ms => es = [.dat (prD a b), .val (.ref p), .un, .un, .un, .un, .un, .un, .un, .un] ∧ ms = [.lst p ((pairsOf lockP1 lockC (la.take i) lb).map ctD)]) ⟨rfl, rfl⟩ ?_ ?_
  · rintro Fb Bb gb i s es ms F2 H2 σ2 hi ⟨rfl, rfl⟩ S2
    refine ⟨_, _, (tg_tup (tgs_cons tg_name (tgs_cons tg_name (tgs_cons tg_name (tgs_cons tg_name tgs_nil))))), fun σ3 S3 => ?_⟩
    have so := S3.so
    refine for_A lb seD S3 (it_tup (ev_call (ea_cons (ev_op (ev_var so rfl) (ev_int _) (r2_ixT rfl)) ea_nil) ⟨b, vb, rfl, rfl⟩)) rfl
      (fun j es ms => es = [.dat (prD a b), .val (.ref p), .dat (.int s.b), .dat (.int s.e), .dat (.str s.how), .dat (.str s.name), .un, .un, .un, .un] ∧ ms = [.lst p ((pairsOf lockP1 lockC (la.take i) lb ++ ((lb.take j).filter (lockP1 s)).map (lockC s)).map ctD)]) ⟨rfl, by simp⟩ ?_ ?_
    · rintro Fc Bc gc j s' es ms F4 H4 σ4 hj ⟨rfl, rfl⟩ S4
      refine ⟨_, _, (tg_tup (tgs_cons tg_name (tgs_cons tg_name (tgs_cons tg_name (tgs_cons tg_name tgs_nil))))), fun σ5 S5 => ?_⟩
      have so := S5.so
      refine st_if S5 (et_and (et_test (ev_op (ev_var so rfl) (ev_var so rfl) r2_eqS)) (fun _ => (et_not (et_test (ev_chain (ev_var so rfl) (ev_var so rfl) r2_eqS (fun _ => (ev_str _)) (fun _ => r2_eqS)))))) (fun hb F6 H6 S6 => ?_) (fun hb F6 H6 S6 => ?_)
      · have so := S6.so
        refine st_app (j := 0) S6 rfl rfl (ev_tup (ea_cons (ev_var so rfl) (ea_cons (ev_var so rfl) (ea_cons (ev_var so rfl) (ea_cons (ev_var so rfl) (ea_cons (ev_str _) (ea_cons (ev_var so rfl) ea_nil))))))) ?_ fun F7 H7 S7 => ?_
        · rw [List.length_map, List.length_append]
          have h1 := pairs_len lockP1 lockC lb (la.take i)
          have h2 : (la.take i).length ≤ 6 := by rw [List.length_take]; omega
          have h3 := Nat.mul_le_mul h2 hlb
          have h4 : (((lb.take j).filter (lockP1 s)).map (lockC s)).length ≤ 6 := by
            rw [List.length_map]
            exact Nat.le_trans (List.length_filter_le _ _) (by rw [List.length_take]; omega)
          omega
        · refine NX.of (S7.weak (es' := [.dat (prD a b), .val (.ref p), .dat (.int s.b), .dat (.int s.e), .dat (.str s.how), .dat (.str s.name), .un, .un, .un, .un]) (by repeat (first | exact .nil | refine .cons (by first | exact trivial | rfl) ?_))) ⟨rfl, ?_⟩
          rw [inner_snoc _ _ _ hj, if_pos (show lockP1 s s' = true from hb)]
          simp [lockC, ctD]
      · refine NX.of (S6.weak (es' := [.dat (prD a b), .val (.ref p), .dat (.int s.b), .dat (.int s.e), .dat (.str s.how), .dat (.str s.name), .un, .un, .un, .un]) (by repeat (first | exact .nil | refine .cons (by first | exact trivial | rfl) ?_))) ⟨rfl, ?_⟩
        rw [inner_snoc _ _ _ hj, if_neg (show ¬ lockP1 s s' = true from by rw [show lockP1 s s' = false from hb]; exact Bool.false_ne_true)]
        simp
    · rintro es ms F4 H4 σ4 ⟨rfl, rfl⟩ S4
      refine NX.of (S4.weak (es' := [.dat (prD a b), .val (.ref p), .un, .un, .un, .un, .un, .un, .un, .un]) (by repeat (first | exact .nil | refine .cons (by first | exact trivial | rfl) ?_))) ⟨rfl, ?_⟩
      rw [pairs_snoc _ _ _ _ hi, List.take_length]
  · rintro es ms F2 H2 σ2 ⟨rfl, rfl⟩ S2
    refine st_retM (j := 0) S2 rfl rfl fun us F' H' g hp hf h1 h2 => q p us F' H' g hp hf h1 ?_
    rw [List.take_length] at h2
    exact h2
end TT
/-! D_accesses -/
namespace TT
open PySem PySem.Spec PyProof.Rows L2 C8
def sp_accesses (K : PySem.W.Frag) : Sp := SpF K fun ds d => ∃ t : Th, Vd t ∧ ds = [thD t] ∧ d = .tuple ((acc t).map accD)
theorem len_accesses {K : PySem.W.Frag} : ∀ vs H Q E, sp_accesses K vs H Q E → vs.length = 1 := spF_len (by rintro _ _ ⟨a, _, rfl, _⟩; rfl)
abbrev N_accesses : List Str := ["thread", "number", "word", "name"]
theorem sc_accesses : FnScope N_accesses ["thread"] (C8.fnScope st_accesses) := C8.fnScope_by (by decide +kernel)
theorem c_accesses {P : Program} {w : World} {K : PySem.W.Frag} {mg : Str → Option Value} {base : Heap} (T : Txt K mg) : C8.Cal P w K mg base 1 "accesses" (sp_accesses K) [] := by
  obtain ⟨f, fd, Fd, df⟩ := T.d_accesses
  refine C8.cal0 Fd (Fd.fn.binds df (ps := ["thread"]) (fun _ _ _ _ _ _ us hl => match us, hl with | [_], _ => rfl)) .nil sc_accesses len_accesses fun cdv A outer s H vs Q E hr hsp => ?_
  have hu := hu_of hr
  have nd := (sc_accesses).nd
  refine ⟨_, (pss_one (ps_ret (pe_callTy (kc_tuple (K := K) (by rfl)) (by rfl) T.b_tuple (by decide +kernel) (pa_cons (pe_lc (own := [("number", 1), ("word", 2), ("name", 3)]) (by rfl) nd (kpi_enumT (K := K) (by rfl) (by rfl) (by rfl) T.b_enumerate (pa_cons (pv 0) pa_nil)) (blkOk_by (by kernel_rfl)) (fun _ _ _ _ _ => (kpg_tup (K := K) (n := 2) (by rfl) (by rfl) (pgs_cons (pg_name (i := 1) nd (by rfl) (by first | exact Or.inl rfl | exact Or.inr rfl)) (pgs_cons (kpg_tup (K := K) (n := 2) (by rfl) (by rfl) (pgs_cons (pg_name (i := 2) nd (by rfl) (by first | exact Or.inl rfl | exact Or.inr rfl)) (pgs_cons (pg_name (i := 3) nd (by rfl) (by first | exact Or.inl rfl | exact Or.inr rfl)) pgs_nil))) pgs_nil)))) (fun _ _ _ _ _ => (pts_one (pt_cmpR (kin (K := K) (by rfl)) (pv 2) (pe_tup (pa_cons (pe_gc (by rfl) T.g_READ) (pa_cons (pe_gc (by rfl) T.g_WRITE) pa_nil))) (by rfl)))) (fun _ _ _ _ _ => (pe_tup (pa_cons (pv 1) (pa_cons (pv 2) (pa_cons (pv 3) pa_nil)))))) pa_nil)))), ?_⟩
  obtain ⟨F, ds, d, e0, hd, ⟨t, vd, rfl, rfl⟩, q⟩ := hsp
  have S : Sta K F H [.dat (thD t), .un, .un, .un] [] F H (L2.start N_accesses vs) := Sta.begin 3 e0 hd
  have so := S.so
  have hz := vd.len
  refine st_ret S (ev_cb (ea_cons (EvN.toD (en_lcA t.zipIdx (fun p => .tuple [.int (p.2 : Nat), stD p.1]) so (it_enumT (ea_cons (ev_var so rfl) ea_nil)) (enumD_map t stD) accP accD _ (by rw [List.length_zipIdx]; omega) (fun a _ => (tg_tup (tgs_cons tg_name (tgs_cons (tg_tup (tgs_cons tg_name (tgs_cons tg_name tgs_nil))) tgs_nil)))) (by decide) (fun a _ F1 H1 σ2 g1 so2 => (et_test (ev_op (ev_var so2 rfl) (ev_tup (ea_cons (ev_str _) (ea_cons (ev_str _) ea_nil))) (r2_inT (ns := ["read", "write"]))))) (fun a _ _ F1 H1 σ2 g1 so2 => (ev_tup (ea_cons (ev_var so2 rfl) (ea_cons (ev_var so2 rfl) (ea_cons (ev_var so2 rfl) ea_nil))))))) ea_nil) rc_tup) q
end TT
/-! D_data_contests -/
namespace TT
open PySem PySem.Spec PyProof.Rows L2 C8
def sp_data_contests (K : PySem.W.Frag) : Sp := SpN K fun ds zs => ∃ a b : Th, Vd a ∧ Vd b ∧ ds = [prD a b] ∧ zs = (dataS a b).map ctD
theorem len_data_contests {K : PySem.W.Frag} : ∀ vs H Q E, sp_data_contests K vs H Q E → vs.length = 1 := spN_len (by rintro _ _ ⟨a, b, _, _, rfl, _⟩; rfl)
abbrev N_data_contests : List Str := ["pair", "found", "number", "word", "name", "there", "other", "same"]
theorem sc_data_contests : FnScope N_data_contests ["pair"] (C8.fnScope st_data_contests) := C8.fnScope_by (by decide +kernel)
theorem c_data_contests {P : Program} {w : World} {K : PySem.W.Frag} {mg : Str → Option Value} {base : Heap} (T : Txt K mg) (c_accesses : C8.Cal P w K mg base 1 "accesses" (sp_accesses K) []) : C8.Cal P w K mg base 2 "data_contests" (sp_data_contests K) [] := by
  obtain ⟨f, fd, Fd, df⟩ := T.d_data_contests
  refine C8.cal0 Fd (Fd.fn.binds df (ps := ["pair"]) (fun _ _ _ _ _ _ us hl => match us, hl with | [_], _ => rfl)) .nil sc_data_contests len_data_contests fun cdv A outer s H vs Q E hr hsp => ?_
  have hu := hu_of hr
  have nd := (sc_data_contests).nd
  refine ⟨_, (pss_cons (ps_set (i := 1) nd (by rfl) (by first | exact Or.inl rfl | exact Or.inr rfl) (pe_lst pa_nil))
  (pss_cons (ps_for PassesOwn.never rfl (kpi_tup (K := K) (by rfl) (pe_c c_accesses hr (by decide) (by rfl) (pa_cons (pe_ix (kix_tup (K := K) (by rfl)) (pv 0) pe_int (fun _ _ => rfl)) pa_nil))) (kpg_tup (K := K) (n := 3) (by rfl) (by rfl) (pgs_cons (pg_name (i := 2) nd (by rfl) (by first | exact Or.inl rfl | exact Or.inr rfl)) (pgs_cons (pg_name (i := 3) nd (by rfl) (by first | exact Or.inl rfl | exact Or.inr rfl)) (pgs_cons (pg_name (i := 4) nd (by rfl) (by first | exact Or.inl rfl | exact Or.inr rfl)) pgs_nil))))
   (pss_one (ps_for PassesOwn.never rfl (kpi_tup (K := K) (by rfl) (pe_c c_accesses hr (by decide) (by rfl) (pa_cons (pe_ix (kix_tup (K := K) (by rfl)) (pv 0) pe_int (fun _ _ => rfl)) pa_nil))) (kpg_tup (K := K) (n := 3) (by rfl) (by rfl) (pgs_cons (pg_name (i := 5) nd (by rfl) (by first | exact Or.inl rfl | exact Or.inr rfl)) (pgs_cons (pg_name (i := 6) nd (by rfl) (by first | exact Or.inl rfl | exact Or.inr rfl)) (pgs_cons (pg_name (i := 7) nd (by rfl) (by first | exact Or.inl rfl | exact Or.inr rfl)) pgs_nil))))
   (pss_one (ps_if (PW.pt (pw_and (pt_cmpR op_eq (pv 4) (pv 7) (nomark _)) (pw_and1 (pt_not (pt_chain op_eq op_eq (pv 3) (pv 6) (pe_gc (by rfl) T.g_READ))))))
   (pss_one (ps_expr (kbm (K := K) (by rfl) PySem.F.plainAttrs_list PySem.F.slot_list_append PySem.F.type_list_append mt_append (pv 1) (pa_cons (pe_tup (pa_cons (pv 2) (pa_cons (pv 2) (pa_cons (pv 5) (pa_cons (pv 5) (pa_cons pe_str (pa_cons (pv 4) pa_nil))))))) pa_nil))))
   pss_nil)))))
  (pss_one (ps_ret (pv 1))))), ?_⟩
  obtain ⟨F, ds, zs, e0, hd, ⟨a, b, va, vb, rfl, rfl⟩, q⟩ := hsp
  have S : Sta K F H [.dat (prD a b), .un, .un, .un, .un, .un, .un, .un] [] F H (L2.start N_data_contests vs) := Sta.begin 7 e0 hd
  have ha := va.len
  have hb := vb.len
  refine st_setN S (en_lst ea_nil) fun p F1 H1 σ1 S1 => ?_
  have so := S1.so
  let la := acc a
  let lb := acc b
  have hla : la.length ≤ 6 := Nat.le_trans (acc_len a) ha
  have hlb : lb.length ≤ 6 := Nat.le_trans (acc_len b) hb
  refine for_A la accD S1 (it_tup (ev_call (ea_cons (ev_op (ev_var so rfl) (ev_int _) (r2_ixT rfl)) ea_nil) ⟨a, va, rfl, rfl⟩)) rfl
    (fun i es ms => es = [.dat (prD a b), .val (.ref p), .un, .un, .un, .un, .un, .un] ∧ ms = [.lst p ((pairsOf dataP1 dataC (la.take i) lb).map ctD)]) ⟨rfl, rfl⟩ ?_ ?_
  · rintro Fb Bb gb i s es ms F2 H2 σ2 hi ⟨rfl, rfl⟩ S2
    refine ⟨_, _, (tg_tup (tgs_cons tg_name (tgs_cons tg_name (tgs_cons tg_name tgs_nil)))), fun σ3 S3 => ?_⟩
    have so := S3.so
    refine for_A lb accD S3 (it_tup (ev_call (ea_cons (ev_op (ev_var so rfl) (ev_int _) (r2_ixT rfl)) ea_nil) ⟨b, vb, rfl, rfl⟩)) rfl
      (fun j es ms => es = [.dat (prD a b), .val (.ref p), .dat (.int (s.2 : Nat)), .dat (.str s.1.1), .dat (.str s.1.2), .un, .un, .un] ∧ ms = [.lst p ((pairsOf dataP1 dataC (la.take i) lb ++ ((lb.take j).filter (dataP1 s)).map (dataC s)).map ctD)]) ⟨rfl, by simp⟩ ?_ ?_
    · rintro Fc Bc gc j s' es ms F4 H4 σ4 hj ⟨rfl, rfl⟩ S4
      refine ⟨_, _, (tg_tup (tgs_cons tg_name (tgs_cons tg_name (tgs_cons tg_name tgs_nil)))), fun σ5 S5 => ?_⟩
      have so := S5.so
      refine st_if S5 (et_and (et_test (ev_op (ev_var so rfl) (ev_var so rfl) r2_eqS)) (fun _ => (et_not (et_test (ev_chain (ev_var so rfl) (ev_var so rfl) r2_eqS (fun _ => (ev_str _)) (fun _ => r2_eqS)))))) (fun hb F6 H6 S6 => ?_) (fun hb F6 H6 S6 => ?_)
      · have so := S6.so
        refine st_app (j := 0) S6 rfl rfl (ev_tup (ea_cons (ev_var so rfl) (ea_cons (ev_var so rfl) (ea_cons (ev_var so rfl) (ea_cons (ev_var so rfl) (ea_cons (ev_str _) (ea_cons (ev_var so rfl) ea_nil))))))) ?_ fun F7 H7 S7 => ?_
        · rw [List.length_map, List.length_append]
          have h1 := pairs_len dataP1 dataC lb (la.take i)
          have h2 : (la.take i).length ≤ 6 := by rw [List.length_take]; omega
          have h3 := Nat.mul_le_mul h2 hlb
          have h4 : (((lb.take j).filter (dataP1 s)).map (dataC s)).length ≤ 6 := by
            rw [List.length_map]
            exact Nat.le_trans (List.length_filter_le _ _) (by rw [List.length_take]; omega)
          omega
        · refine NX.of (S7.weak (es' := [.dat (prD a b), .val (.ref p), .dat (.int (s.2 : Nat)), .dat (.str s.1.1), .dat (.str s.1.2), .un, .un, .un]) (by repeat (first | exact .nil | refine .cons (by first | exact trivial | rfl) ?_))) ⟨rfl, ?_⟩
          rw [inner_snoc _ _ _ hj, if_pos (show dataP1 s s' = true from hb)]
          simp [dataC, ctD]
      · refine NX.of (S6.weak (es' := [.dat (prD a b), .val (.ref p), .dat (.int (s.2 : Nat)), .dat (.str s.1.1), .dat (.str s.1.2), .un, .un, .un]) (by repeat (first | exact .nil | refine .cons (by first | exact trivial | rfl) ?_))) ⟨rfl, ?_⟩
        rw [inner_snoc _ _ _ hj, if_neg (show ¬ dataP1 s s' = true from by rw [show dataP1 s s' = false from hb]; exact Bool.false_ne_true)]
        simp
    · rintro es ms F4 H4 σ4 ⟨rfl, rfl⟩ S4
      refine NX.of (S4.weak (es' := [.dat (prD a b), .val (.ref p), .un, .un, .un, .un, .un, .un]) (by repeat (first | exact .nil | refine .cons (by first | exact trivial | rfl) ?_))) ⟨rfl, ?_⟩
      rw [pairs_snoc _ _ _ _ hi, List.take_length]
  · rintro es ms F2 H2 σ2 ⟨rfl, rfl⟩ S2
    refine st_retM (j := 0) S2 rfl rfl fun us F' H' g hp hf h1 h2 => q p us F' H' g hp hf h1 ?_
    rw [List.take_length] at h2
    exact h2
end TT
/-! D_contests -/
namespace TT
open PySem PySem.Spec PyProof.Rows L2 C8
def sp_contests (K : PySem.W.Frag) : Sp := SpF K fun ds d => ∃ a b : Th, Vd a ∧ Vd b ∧ ds = [prD a b] ∧ d = .tuple ((cons a b).map ctD)
theorem len_contests {K : PySem.W.Frag} : ∀ vs H Q E, sp_contests K vs H Q E → vs.length = 1 := spF_len (by rintro _ _ ⟨a, b, _, _, rfl, _⟩; rfl)
abbrev N_contests : List Str := ["pair"]
theorem sc_contests : FnScope N_contests ["pair"] (C8.fnScope st_contests) := C8.fnScope_by (by decide +kernel)
theorem c_contests {P : Program} {w : World} {K : PySem.W.Frag} {mg : Str → Option Value} {base : Heap} (T : Txt K mg) (c_lock_contests : C8.Cal P w K mg base 2 "lock_contests" (sp_lock_contests K) []) (c_data_contests : C8.Cal P w K mg base 2 "data_contests" (sp_data_contests K) []) : C8.Cal P w K mg base 3 "contests" (sp_contests K) [] := by
  obtain ⟨f, fd, Fd, df⟩ := T.d_contests
  refine C8.cal0 Fd (Fd.fn.binds df (ps := ["pair"]) (fun _ _ _ _ _ _ us hl => match us, hl with | [_], _ => rfl)) .nil sc_contests len_contests fun cdv A outer s H vs Q E hr hsp => ?_
  have hu := hu_of hr
  have nd := (sc_contests).nd
  refine ⟨_, (pss_one (ps_ret (pe_callTy (kc_tuple (K := K) (by rfl)) (by rfl) T.b_tuple (by decide +kernel) (pa_cons (pe_callB (kc_sortedL (K := K) (by rfl) hr.units) (by rfl) T.b_sorted (by decide +kernel) (pa_cons (pe_op op_cat (pe_c c_lock_contests hr (by decide) (by rfl) (pa_cons (pv 0) pa_nil)) (pe_c c_data_contests hr (by decide) (by rfl) (pa_cons (pv 0) pa_nil))) pa_nil)) pa_nil)))), ?_⟩
  obtain ⟨F, ds, zs, e0, hd, ⟨a, b, va, vb, rfl, rfl⟩, q⟩ := hsp
  have S : Sta K F H [.dat (prD a b)] [] F H (L2.start N_contests vs) := Sta.begin 0 e0 hd
  have so := S.so
  have ha : a.length ≤ 12 := Nat.le_trans va.len (by decide)
  have hb : b.length ≤ 12 := Nat.le_trans vb.len (by decide)
  have h1 := lockS_len ha hb
  have h2 := dataS_len ha hb
  have hal : PySem.W.AllAlike ((lockS a b).map ctD ++ (dataS a b).map ctD) := by rw [← List.map_append]; exact all_of alike_ct _
  have hdp : ∀ d ∈ (lockS a b).map ctD ++ (dataS a b).map ctD, d.depth ≤ 60 := by rw [← List.map_append]; exact dep_of depth_ct _
  have hso : PySem.W.Sortable ((lockS a b).map ctD ++ (dataS a b).map ctD) := by
    rw [← List.map_append]
    refine .inl fun d hd => ?_
    obtain ⟨x, _, rfl⟩ := List.mem_map.mp hd
    exact ⟨_, _, rfl⟩
  refine st_ret S (EvD.eq (ev_cb (ea_cons (EvN.toD (en_cb (ea_cons (EvN.toD (en_cat (en_call (ea_cons (ev_var so rfl) ea_nil) ⟨a, b, va, vb, rfl, rfl⟩) (en_call (ea_cons (ev_var so rfl) ea_nil) ⟨a, b, va, vb, rfl, rfl⟩) (by rw [List.length_map, List.length_map]; omega))) ea_nil) (rcn_sort hal hso hdp))) ea_nil) rc_tup) ?_) q
  rw [← List.map_append, sortD_map]
  rfl
end TT
/-! D_is_integer -/
namespace TT
open PySem PySem.Spec PyProof.Rows L2 C8
def sp_is_integer (K : PySem.W.Frag) : Sp := SpF K fun ds d => ∃ n : Int, ds = [.int n] ∧ d = .bool true
theorem len_is_integer {K : PySem.W.Frag} : ∀ vs H Q E, sp_is_integer K vs H Q E → vs.length = 1 := spF_len (by rintro _ _ ⟨a, rfl, _⟩; rfl)
abbrev N_is_integer : List Str := ["value"]
theorem sc_is_integer : FnScope N_is_integer ["value"] (C8.fnScope st_is_integer) := C8.fnScope_by (by decide +kernel)
theorem c_is_integer {P : Program} {w : World} {K : PySem.W.Frag} {mg : Str → Option Value} {base : Heap} (T : Txt K mg) : C8.Cal P w K mg base 1 "is_integer" (sp_is_integer K) [] := by
  obtain ⟨f, fd, Fd, df⟩ := T.d_is_integer
  refine C8.cal0 Fd (Fd.fn.binds df (ps := ["value"]) (fun _ _ _ _ _ _ us hl => match us, hl with | [_], _ => rfl)) .nil sc_is_integer len_is_integer fun cdv A outer s H vs Q E hr hsp => ?_
  have hu := hu_of hr
  have nd := (sc_is_integer).nd
  refine ⟨_, (pss_one (ps_ret (pe_and (pe_callB (kc_isi (K := K) (by rfl)) (by rfl) T.b_isinstance (by decide +kernel) (pa_cons (pv 0) (pa_cons (pe_bltn (v := .ty "int") (by rfl) T.b_int (by decide +kernel) rfl) pa_nil))) (pe_one (pe_not (pe_callB (kc_isi (K := K) (by rfl)) (by rfl) T.b_isinstance (by decide +kernel) (pa_cons (pv 0) (pa_cons (pe_bltn (v := .ty "bool") (by rfl) T.b_bool (by decide +kernel) rfl) pa_nil)))))))), ?_⟩
  obtain ⟨F, ds, d, e0, hd, ⟨n, rfl, rfl⟩, q⟩ := hsp
  have S : Sta K F H [.dat (.int n)] [] F H (L2.start N_is_integer vs) := Sta.begin 0 e0 hd
  have so := S.so
  have tI : ∀ (v : V) (F : Hp), Dp K F v (.int n) → flatD (.int n) = true ∧ ∀ H, TyOf K H v (.type "int") := fun v F h => ⟨rfl, fun H => by rw [dp_int h]; exact .int n⟩
  exact st_ret S (EvD.eq (ev_andV (rc_isi (b := true) tI (by decide +kernel) (ev_ty _) (ev_var so rfl)) (fun _ => (ev_notV (rc_isi (b := false) tI (by decide +kernel) (ev_ty _) (ev_var so rfl))))) rfl) q
end TT
/-! D_check_number -/
namespace TT
open PySem PySem.Spec PyProof.Rows L2 C8
def sp_check_number (K : PySem.W.Frag) : Sp := SpF K fun ds d => ∃ (a b : Th) (k : Nat), Vd a ∧ Vd b ∧ k < (cons a b).length ∧ ds = [prD a b, .int (k : Nat)] ∧ d = .none
theorem len_check_number {K : PySem.W.Frag} : ∀ vs H Q E, sp_check_number K vs H Q E → vs.length = 2 := spF_len (by rintro _ _ ⟨a, b, k, _, _, _, rfl, _⟩; rfl)
abbrev N_check_number : List Str := ["pair", "number"]
theorem sc_check_number : FnScope N_check_number ["pair", "number"] (C8.fnScope st_check_number) := C8.fnScope_by (by decide +kernel)
theorem c_check_number {P : Program} {w : World} {K : PySem.W.Frag} {mg : Str → Option Value} {base : Heap} (T : Txt K mg) (c_contests : C8.Cal P w K mg base 3 "contests" (sp_contests K) []) (c_is_integer : C8.Cal P w K mg base 1 "is_integer" (sp_is_integer K) []) : C8.Cal P w K mg base 4 "check_number" (sp_check_number K) [] := by
  obtain ⟨f, fd, Fd, df⟩ := T.d_check_number
  refine C8.cal0 Fd (Fd.fn.binds df (ps := ["pair", "number"]) (fun _ _ _ _ _ _ us hl => match us, hl with | [_, _], _ => rfl)) .nil sc_check_number len_check_number fun cdv A outer s H vs Q E hr hsp => ?_
  have hu := hu_of hr
  have nd := (sc_check_number).nd
  refine ⟨_, (pss_one (ps_if (PW.pt (pw_or (pt_not (pt_val (pe_c c_is_integer hr (by decide) (by rfl) (pa_cons (pv 1) pa_nil)))) (pw_or1 (pt_not (pt_chain op_le op_lt pe_int (pv 1) (pe_callB (kc_len (K := K) (by rfl)) (by rfl) T.b_len (by decide +kernel) (pa_cons (pe_c c_contests hr (by decide) (by rfl) (pa_cons (pv 0) pa_nil)) pa_nil)))))))
   (pss_one ps_never)
   pss_nil)), ?_⟩
  obtain ⟨F, ds, zs, e0, hd, ⟨a, b, k, va, vb, hk, rfl, rfl⟩, q⟩ := hsp
  have S : Sta K F H [.dat (prD a b), .dat (.int (k : Nat))] [] F H (L2.start N_check_number vs) := Sta.begin 0 e0 hd
  have so := S.so
  refine st_if S (EvT.eq (b := _) (c := false) (et_or (et_not (et_B (ev_call (ea_cons (ev_var so rfl) ea_nil) ⟨k, rfl, rfl⟩))) (fun _ => (et_not (et_test (ev_chain (ev_int _) (ev_var so rfl) r2_B0 (fun _ => (ev_cb (ea_cons (ev_call (ea_cons (ev_var so rfl) ea_nil) ⟨a, b, va, vb, rfl, rfl⟩) ea_nil) rc_lenT)) (fun _ => r2_B0)))))) ?_) (fun h => nomatch h) (fun _ F1 H1 S1 => q .non F1 H1 S1.gr .non)
  rw [List.length_map]
  simp
  omega
end TT
/-! D_forced_by -/
namespace TT
open PySem PySem.Spec PyProof.Rows L2 C8
def sp_forced_by (K : PySem.W.Frag) : Sp := SpF K fun ds d => ∃ (a b : Th) (k : Nat), Vd a ∧ Vd b ∧ k < (cons a b).length ∧ ds = [prD a b, .int (k : Nat)] ∧ d = .tuple (inD (led (cons a b) k))
theorem len_forced_by {K : PySem.W.Frag} : ∀ vs H Q E, sp_forced_by K vs H Q E → vs.length = 2 := spF_len (by rintro _ _ ⟨a, b, k, _, _, _, rfl, _⟩; rfl)
theorem ledK_out {cs : List Ct} {k : Nat} {kds : List (Key × D)} (h : LedK cs k kds) : PySem.W.AllAlike (kds.map fun kv => keyD kv.1) ∧ sortD (kds.map fun kv => keyD kv.1) = inD (led cs k) := by
  obtain ⟨ns, hp, e⟩ := ledK_sort h
  have e2 : (kds.map fun kv => keyD kv.1) = inD ns := by
    have := congrArg (List.map keyD) e
    rw [List.map_map, List.map_map] at this
    exact this
  rw [e2]
  exact ⟨all_of (fun a b => by simp [PySem.W.alike]) ns, sort_rise hp (led_sorted cs k)⟩
abbrev N_forced_by : List Str := ["pair", "number"]
theorem sc_forced_by : FnScope N_forced_by ["pair", "number"] (C8.fnScope st_forced_by) := C8.fnScope_by (by decide +kernel)
theorem c_forced_by {P : Program} {w : World} {K : PySem.W.Frag} {mg : Str → Option Value} {base : Heap} (T : Txt K mg) (c_steps_away : C8.Cal P w K mg base 1 "steps_away" (sp_steps_away K) []) (c_forced_lists : C8.Cal P w K mg base 2 "forced_lists" (sp_forced_lists K) []) (c_contests : C8.Cal P w K mg base 3 "contests" (sp_contests K) []) (c_check_number : C8.Cal P w K mg base 4 "check_number" (sp_check_number K) []) : C8.Cal P w K mg base 5 "forced_by" (sp_forced_by K) [] := by
  obtain ⟨f, fd, Fd, df⟩ := T.d_forced_by
  refine C8.cal0 Fd (Fd.fn.binds df (ps := ["pair", "number"]) (fun _ _ _ _ _ _ us hl => match us, hl with | [_, _], _ => rfl)) .nil sc_forced_by len_forced_by fun cdv A outer s H vs Q E hr hsp => ?_
  have hu := hu_of hr
  have nd := (sc_forced_by).nd
  refine ⟨_, (pss_cons (ps_expr (pe_c c_check_number hr (by decide) (by rfl) (pa_cons (pv 0) (pa_cons (pv 1) pa_nil))))
  (pss_one (ps_ret (pe_callTy (kc_tuple (K := K) (by rfl)) (by rfl) T.b_tuple (by decide +kernel) (pa_cons (pe_callB (call_sortedK (by rfl) hr.units) (by rfl) T.b_sorted (by decide +kernel) (pa_cons (pe_c c_steps_away hr (by decide) (by rfl) (pa_cons (pe_c c_forced_lists hr (by decide) (by rfl) (pa_cons (pe_c c_contests hr (by decide) (by rfl) (pa_cons (pv 0) pa_nil)) pa_nil)) (pa_cons (pv 1) pa_nil))) pa_nil)) pa_nil))))), ?_⟩
  obtain ⟨F, ds, d, e0, hd, ⟨a, b, k, va, vb, hk, rfl, rfl⟩, q⟩ := hsp
  have S : Sta K F H [.dat (prD a b), .dat (.int (k : Nat))] [] F H (L2.start N_forced_by vs) := Sta.begin 0 e0 hd
  have so := S.so
  have hl := cons_len (a := a) (b := b) (Nat.le_trans va.len (by decide)) (Nat.le_trans vb.len (by decide))
  refine st_expr S (ev_call (ea_cons (ev_var so rfl) (ea_cons (ev_var so rfl) ea_nil)) ⟨a, b, k, va, vb, hk, rfl, rfl⟩) fun F1 H1 S1 => ?_
  have so := S1.so
  refine st_ret S1 (ev_cb (ea_cons (EvN.toD (en_sortP (zs := inD (led (cons a b) k)) (ep_call (ea_cons (EvN.toD (en_call (ea_cons (ev_call (ea_cons (ev_var so rfl) ea_nil) ⟨a, b, va, vb, rfl, rfl⟩) ea_nil) ⟨cons a b, by omega, rfl, rfl⟩)) (ea_cons (ev_var so rfl) ea_nil)) ⟨cons a b, k, by omega, hk, rfl, rfl⟩) ?_ ?_)) ea_nil) rc_tup) q
  · rintro mk ⟨kds, rfl, h⟩
    exact ⟨kds, rfl, ledK_out h⟩
  · intro d hd
    obtain ⟨n, _, rfl⟩ := List.mem_map.mp hd
    exact ⟨.inl (n : Nat), rfl⟩
end TT
/-! D__law_forces -/
namespace TT
open PySem PySem.Spec PyProof.Rows L2 C8
def sp__law_forces (K : PySem.W.Frag) : Sp := SpF K fun ds d => ∃ a b : Ct, ds = [ctD a, ctD b] ∧ d = .bool (forcesB a b)
theorem len__law_forces {K : PySem.W.Frag} : ∀ vs H Q E, sp__law_forces K vs H Q E → vs.length = 2 := spF_len (by rintro _ _ ⟨a, b, rfl, _⟩; rfl)
abbrev N__law_forces : List Str := ["_law_one", "_law_other"]
theorem sc__law_forces : FnScope N__law_forces ["_law_one", "_law_other"] (C8.fnScope st__law_forces) := C8.fnScope_by (by decide +kernel)
theorem c__law_forces {P : Program} {w : World} {K : PySem.W.Frag} {mg : Str → Option Value} {base : Heap} (T : Txt K mg) : C8.Cal P w K mg base 1 "_law_forces" (sp__law_forces K) [] := by
  obtain ⟨f, fd, Fd, df⟩ := T.d__law_forces
  refine C8.cal0 Fd (Fd.fn.binds df (ps := ["_law_one", "_law_other"]) (fun _ _ _ _ _ _ us hl => match us, hl with | [_, _], _ => rfl)) .nil sc__law_forces len__law_forces fun cdv A outer s H vs Q E hr hsp => ?_
  have hu := hu_of hr
  have nd := (sc__law_forces).nd
  refine ⟨_, (pss_one (ps_ret (pe_and (pe_cmpR op_le (pe_ix (kix_tup (K := K) (by rfl)) (pv 1) pe_int (fun _ _ => rfl)) (pe_ix (kix_tup (K := K) (by rfl)) (pv 0) pe_int (fun _ _ => rfl)) (nomark _)) (pe_one (pe_cmpR op_le (pe_ix (kix_tup (K := K) (by rfl)) (pv 0) pe_int (fun _ _ => rfl)) (pe_ix (kix_tup (K := K) (by rfl)) (pv 1) pe_int (fun _ _ => rfl)) (nomark _)))))), ?_⟩
  obtain ⟨F, ds, d, e0, hd, ⟨a, b, rfl, rfl⟩, q⟩ := hsp
  have S : Sta K F H [.dat (ctD a), .dat (ctD b)] [] F H (L2.start N__law_forces vs) := Sta.begin 0 e0 hd
  have so := S.so
  refine st_ret S (EvD.eq (ev_andV (ev_op (ev_op (ev_var so rfl) (ev_int _) (r2_ixT rfl)) (ev_op (ev_var so rfl) (ev_int _) (r2_ixT rfl)) r2_B0) (fun _ => (ev_op (ev_op (ev_var so rfl) (ev_int _) (r2_ixT rfl)) (ev_op (ev_var so rfl) (ev_int _) (r2_ixT rfl)) r2_B0))) ?_) q
  simp [forcesB]
end TT
/-! D__law_led -/
namespace TT
open PySem PySem.Spec PyProof.Rows L2 C8
def sp__law_led (K : PySem.W.Frag) : Sp := SpX K fun ds P => ∃ cs : List Ct, cs.length ≤ 1000 ∧ ds = [.list (cs.map ctD)] ∧ P = LedL cs
theorem len__law_led {K : PySem.W.Frag} : ∀ vs H Q E, sp__law_led K vs H Q E → vs.length = 1 := spX_len (by rintro _ _ ⟨a, _, rfl, _⟩; rfl)
abbrev N__law_led : List Str := ["_law_known", "_law_found", "_law_at", "_law_reached", "_law_waiting", "_law_here", "_law_there"]
theorem sc__law_led : FnScope N__law_led ["_law_known"] (C8.fnScope st__law_led) := C8.fnScope_by (by decide +kernel)
theorem c__law_led {P : Program} {w : World} {K : PySem.W.Frag} {mg : Str → Option Value} {base : Heap} (T : Txt K mg) (c__law_forces : C8.Cal P w K mg base 1 "_law_forces" (sp__law_forces K) []) : C8.Cal P w K mg base 2 "_law_led" (sp__law_led K) [] := by
  obtain ⟨f, fd, Fd, df⟩ := T.d__law_led
  refine C8.cal0 Fd (Fd.fn.binds df (ps := ["_law_known"]) (fun _ _ _ _ _ _ us hl => match us, hl with | [_], _ => rfl)) .nil sc__law_led len__law_led fun cdv A outer s H vs Q E hr hsp => ?_
  have hu := hu_of hr
  have nd := (sc__law_led).nd
  refine ⟨_, (pss_cons (ps_set (i := 1) nd (by rfl) (by first | exact Or.inl rfl | exact Or.inr rfl) (pe_lst pa_nil))
  (pss_cons (ps_for PassesOwn.never rfl (pi_range1 (by rfl) T.b_range (pa_cons (pe_callB (kc_len (K := K) (by rfl)) (by rfl) T.b_len (by decide +kernel) (pa_cons (pv 0) pa_nil)) pa_nil)) (pg_name (i := 2) nd (by rfl) (by first | exact Or.inl rfl | exact Or.inr rfl))
   (pss_cons (ps_par (i := 3) (j := 4) (by rfl) nd (by rfl) (by rfl) (by decide) (by rfl) (by rfl) (pa_cons (pe_disp (pps_cons (pv 2) pe_bl pps_nil) (by rfl) (by rfl) (fun z => by cases z) (by decide)) (pa_cons (pe_lst (pa_cons (pv 2) pa_nil)) pa_nil)) (by rfl))
  (pss_cons (ps_while PassesOwn.never (pt_cmpR (kneD (K := K) (by rfl) hr.units) (pv 4) (pe_lst pa_nil) (nomark _))
   (pss_cons (ps_set (i := 5) nd (by rfl) (by first | exact Or.inl rfl | exact Or.inr rfl) (kbm0 (K := K) (by rfl) PySem.F.plainAttrs_list PySem.F.slot_list_pop PySem.F.type_list_pop mt_pop (pv 4)))
  (pss_one (ps_for PassesOwn.never rfl (pi_range1 (by rfl) T.b_range (pa_cons (pe_callB (kc_len (K := K) (by rfl)) (by rfl) T.b_len (by decide +kernel) (pa_cons (pv 0) pa_nil)) pa_nil)) (pg_name (i := 6) nd (by rfl) (by first | exact Or.inl rfl | exact Or.inr rfl))
   (pss_one (ps_if (PW.pt (pw_and (pt_cmp (pc_dnotin hu (pv 6) (pv 3))) (pw_and1 (pt_val (pe_c c__law_forces hr (by decide) (by rfl) (pa_cons (pe_ix (kix_list (K := K) (by rfl)) (pv 0) (pv 5) (fun _ _ => rfl)) (pa_cons (pe_ix (kix_list (K := K) (by rfl)) (pv 0) (pv 6) (fun _ _ => rfl)) pa_nil)))))))
   (pss_cons (ps_dput hu (pv 3) (pv 6) pe_bl rfl)
  (pss_one (ps_expr (kbm (K := K) (by rfl) PySem.F.plainAttrs_list PySem.F.slot_list_append PySem.F.type_list_append mt_append (pv 4) (pa_cons (pv 6) pa_nil)))))
   pss_nil))))))
  (pss_one (ps_expr (kbm (K := K) (by rfl) PySem.F.plainAttrs_list PySem.F.slot_list_append PySem.F.type_list_append mt_append (pv 1) (pa_cons (pv 3) pa_nil)))))))
  (pss_one (ps_ret (pv 1))))), ?_⟩
  obtain ⟨F, ds, P, e0, hd, ⟨cs, hz, rfl, rfl⟩, q⟩ := hsp
  have S : Sta K F H [.dat (.list (cs.map ctD)), .un, .un, .un, .un, .un, .un] [] F H (L2.start N__law_led vs) := Sta.begin 6 e0 hd
  let NL : D := .list (cs.map ctD)
  have lenE : ∀ {σ : L2.St} {F B : Hp} {es : List SV}, SO K F σ es → es[0]? = some (.dat NL) → ItrD K (iRng1 (tCons (tCB (rLen K) (tCons (tVar 0) tNil)) tNil)) σ F B (rngD 0 cs.length) := fun so h => it_rng1 (ea_cons (EvD.eq (ev_cb (ea_cons (ev_var so h) ea_nil) rc_lenL) (by rw [List.length_map])) ea_nil) (by omega)
  refine st_setM S (em_newR (en_lst ea_nil)) fun pf F1 H1 σ1 S1 => ?_
  refine for_A (List.range cs.length) (fun k => .int ((0 + k : Nat) : Int)) S1 (lenE S1.so rfl) rfl
    (fun k es ms => es = [.dat NL, .val (.ref pf), .un, .un, .un, .un, .un] ∧ ms = [.lsr pf ((List.range k).map (LedF cs))]) ⟨rfl, rfl⟩ ?_ ?_
  · rintro Fb Bb gb k k' es ms F2 H2 σ2 hk ⟨rfl, rfl⟩ S2
    have hkk : k' = k ∧ k < cs.length := by
      obtain ⟨h1, h2⟩ := List.getElem?_eq_some_iff.mp hk
      rw [List.length_range] at h1
      rw [List.getElem_range] at h2
      exact ⟨h2.symm, h1⟩
    obtain ⟨rfl, hkl⟩ := hkk
    refine ⟨_, _, tg_name, fun σ3 S3 => ?_⟩
    have S3 : Sta K Fb Bb [.dat NL, .val (.ref pf), .dat (.int (k' : Nat)), .un, .un, .un, .un] [.lsr pf ((List.range k').map (LedF cs))] F2 H2 σ3 := by
      have := S3.so
      rw [Nat.zero_add] at S3
      exact S3
    have so := S3.so
    refine st_parMM S3 (em_disp1 (k := .inl (k' : Nat)) (ev_var so rfl) (ev_bl true)) (EvN.toM (en_lst (ea_cons (ev_var so rfl) ea_nil))) fun pr pw F4 H4 σ4 S4 => ?_
    refine while_S S4 (fun m es ms => es = [.dat NL, .val (.ref pf), .dat (.int (k' : Nat)), .val (.ref pr), .val (.ref pw), .un, .un] ∧ ∃ kds ws, ms = [.lst pw (inD ws), .dK pr kds, .lsr pf ((List.range k').map (LedF cs))] ∧ Bfs cs k' kds ws (fun _ _ => True) (fun _ => True) ∧ 2 * (cs.length - kds.length) + ws.length ≤ m ∧ m ≤ 2001) (2 * (cs.length - 1) + 1) ⟨rfl, [(.inl (k' : Nat), .bool true)], [k'], rfl, Bfs.start cs k' trivial, Nat.le_refl _, by omega⟩ ?_
    rintro m es ms F5 H5 σ5 ⟨rfl, kds, ws, rfl, bf, hm, hm2⟩ S5
    have sop := (S5.so.ex S5.ex).pk S5.ex (S5.m (j := 0) rfl) (i := 4) rfl
    refine ⟨!ws.isEmpty, EvT.eq (et_peek (et_test (ev_op (ev_var sop rfl) (ev_lst ea_nil) (r2_neD (shaped_inD ws).1 rfl)))) (by rw [ne_nilD]; simp), fun hb F6 H6 S6 => ?_, fun hb F6 H6 S6 => ?_⟩
    · rcases List.eq_nil_or_concat ws with rfl | ⟨ws, w, rfl⟩
      · cases hb
      · rw [List.concat_eq_append] at S6 bf hm
        have ew : inD (ws ++ [w]) = inD ws ++ [.int (w : Nat)] := by simp [inD]
        rw [ew] at S6
        refine st_pop (j := 0) S6 rfl rfl fun F7 H7 σ7 S7 => ?_
        have so := S7.so
        obtain ⟨w', ew', rw_⟩ := bf.rc _ (bf.wt w (List.mem_append_right _ (List.mem_singleton.mpr rfl)))
        have e2 : w' = w := by have := Sum.inl.inj ew'; omega
        subst e2
        have hwl := rch_lt hkl rw_
        obtain ⟨c, hc⟩ : ∃ c, cs[w']? = some c := ⟨_, List.getElem?_eq_getElem hwl⟩
        have hm' : 2 * (cs.length - kds.length) + ws.length + 1 ≤ m := by rw [List.length_append, List.length_singleton] at hm; omega
        have ac : atI (cs.map ctD) ((w' : Nat) : Int) = some (ctD c) := atI_nat (by rw [List.getElem?_map, hc]; rfl)
        refine for_A (List.range cs.length) (fun k => .int ((0 + k : Nat) : Int)) S7 (lenE S7.so rfl) rfl
          (fun t es ms => es = [.dat NL, .val (.ref pf), .dat (.int (k' : Nat)), .val (.ref pr), .val (.ref pw), .dat (.int (w' : Nat)), .un] ∧ ∃ kds ws, ms = [.lst pw (inD ws), .dK pr kds, .lsr pf ((List.range k').map (LedF cs))] ∧ Bfs cs k' kds ws (fun i j => i = w' → j < t) (fun _ => True) ∧ (Sum.inl (w' : Int) : Key) ∈ kds.map (·.1) ∧ 2 * (cs.length - kds.length) + ws.length + 1 ≤ m) ⟨rfl, kds, ws, rfl, ?_, bf.wt w' (List.mem_append_right _ (List.mem_singleton.mpr rfl)), hm'⟩ ?_ ?_
        · refine ⟨bf.nd, bf.rc, bf.st, fun x hx => bf.wt x (List.mem_append_left _ hx), fun i hi hn j eb db => ?_, bf.vl⟩
          by_cases e : i = w'
          · exact absurd (db e) (Nat.not_lt_zero _)
          · exact bf.cl i hi (fun z => (List.mem_append.mp z).elim hn fun z => e (List.mem_singleton.mp z)) j eb trivial
        · rintro Fc Bc gc t t' es ms F8 H8 σ8 ht ⟨rfl, kds5, ws5, rfl, bf5, hw5, hm5⟩ S8
          have htt : t' = t ∧ t < cs.length := by
            obtain ⟨h1, h2⟩ := List.getElem?_eq_some_iff.mp ht
            rw [List.length_range] at h1
            rw [List.getElem_range] at h2
            exact ⟨h2.symm, h1⟩
          obtain ⟨rfl, htl⟩ := htt
          obtain ⟨c2, hc2⟩ : ∃ c, cs[t']? = some c := ⟨_, List.getElem?_eq_getElem htl⟩
          have ac2 : atI (cs.map ctD) ((t' : Nat) : Int) = some (ctD c2) := atI_nat (by rw [List.getElem?_map, hc2]; rfl)
          refine ⟨_, _, tg_name, fun σ9 S9 => ?_⟩
          have S9 : Sta K Fc Bc [.dat NL, .val (.ref pf), .dat (.int (k' : Nat)), .val (.ref pr), .val (.ref pw), .dat (.int (w' : Nat)), .dat (.int (t' : Nat))] [.lst pw (inD ws5), .dK pr kds5, .lsr pf ((List.range k').map (LedF cs))] F8 H8 σ9 := by
            rw [Nat.zero_add] at S9
            exact S9
          have so := S9.so
          have rw5 : Rch (EG cs) k' w' := bf5.rc _ hw5 |>.elim fun x hx => by
            have : x = w' := by have := Sum.inl.inj hx.1; omega
            exact this ▸ hx.2
          have wk : ∀ {kds6 : List (Key × D)} {ws6 : List Nat}, Bfs cs k' kds6 ws6 (fun i j => i = w' → j < t') (fun _ => True) → (EG cs w' t' → (Sum.inl (t' : Int) : Key) ∈ kds6.map (·.1)) → Bfs cs k' kds6 ws6 (fun i j => i = w' → j < t' + 1) (fun _ => True) := fun b2 hx => ⟨b2.nd, b2.rc, b2.st, b2.wt, fun i hi hn x eb db => by
            by_cases e : i = w' ∧ x = t'
            · rw [e.2]; rw [e.1, e.2] at eb; exact hx eb
            · exact b2.cl i hi hn x eb fun z => by
                have h1 := db z
                have h2 : ¬ x = t' := fun y => e ⟨z, y⟩
                omega, b2.vl⟩
          refine st_if S9 (et_and (et_B (ev_dnin (ev_val so rfl) (ev_var so rfl) (k := .inl (t' : Nat)) (S9.m (j := 1) rfl))) (fun _ => (et_B (ev_call (ea_cons (ev_op (ev_var so rfl) (ev_var so rfl) (r2_ixL ac)) (ea_cons (ev_op (ev_var so rfl) (ev_var so rfl) (r2_ixL ac2)) ea_nil)) ⟨c, c2, rfl, rfl⟩)))) (fun hb F10 H10 S10 => ?_) (fun hb F10 H10 S10 => ?_)
          · have so := S10.so
            rw [Bool.and_eq_true] at hb
            have hj : valD kds5 (.inl (t' : Nat)) = none := by
              cases e : valD kds5 (.inl (t' : Nat)) with
              | none => rfl
              | some _ => rw [e] at hb; cases hb.1
            have ej : EG cs w' t' := ⟨c, c2, hc, hc2, hb.2⟩
            have b2 := bf5.put (z := .bool true) trivial (j := t') (i := w') rw5 ej hj (ws5 ++ [t']) (fun w => by rw [List.mem_append, List.mem_singleton]; exact Or.comm)
            have hlen2 : kds5.length < cs.length := by
              have := b2.len hkl
              rw [putD_new _ hj, List.length_append] at this
              exact this
            refine st_dput (k := .inl (t' : Nat)) (j := 1) S10 (ev_bl true) rfl rfl (ev_var so rfl) (by omega) fun F11 H11 S11 => ?_
            have so := S11.so
            refine st_app (j := 0) S11 rfl rfl (ev_var so rfl) (by rw [List.length_map]; omega) fun F12 H12 S12 => ?_
            refine NX.of (S12.weak (es' := [.dat NL, .val (.ref pf), .dat (.int (k' : Nat)), .val (.ref pr), .val (.ref pw), .dat (.int (w' : Nat)), .un]) (by repeat (first | exact .nil | refine .cons (by first | exact trivial | rfl) ?_))) ⟨rfl, putD kds5 (.inl (t' : Nat)) (.bool true), ws5 ++ [t'], by simp [inD], wk b2 (fun _ => (putD_keys _ _ _ _).mpr (.inl rfl)), (putD_keys _ _ _ _).mpr (.inr hw5), ?_⟩
            rw [putD_new _ hj, List.length_append, List.length_append, List.length_singleton, List.length_singleton]
            omega
          · refine NX.of (S10.weak (es' := [.dat NL, .val (.ref pf), .dat (.int (k' : Nat)), .val (.ref pr), .val (.ref pw), .dat (.int (w' : Nat)), .un]) (by repeat (first | exact .nil | refine .cons (by first | exact trivial | rfl) ?_))) ⟨rfl, kds5, ws5, rfl, wk bf5 (fun eb => ?_), hw5, hm5⟩
            rw [key_in]
            cases e : (valD kds5 (.inl (t' : Nat))).isSome with
            | true => rfl
            | false =>
              rw [e] at hb
              obtain ⟨x, y, hx, hy, hf⟩ := eb
              rw [hc] at hx; cases hx
              rw [hc2] at hy; cases hy
              rw [hf] at hb
              cases hb
        · rintro es ms F8 H8 σ8 ⟨rfl, kds5, ws5, rfl, bf5, hw5, hm5⟩ S8
          refine NX.of (S8.weak (es' := [.dat NL, .val (.ref pf), .dat (.int (k' : Nat)), .val (.ref pr), .val (.ref pw), .un, .un]) (by repeat (first | exact .nil | refine .cons (by first | exact trivial | rfl) ?_))) ⟨m - 1, by omega, rfl, kds5, ws5, rfl, ⟨bf5.nd, bf5.rc, bf5.st, bf5.wt, fun i hi hn x eb _ => ?_, bf5.vl⟩, by omega, by omega⟩
          refine bf5.cl i hi hn x eb fun z => ?_
          obtain ⟨_, y, _, hy, _⟩ := eb
          rw [List.length_range]
          exact (List.getElem?_eq_some_iff.mp hy).1
    · cases ws with
      | cons w ws => cases hb
      | nil =>
        have led := bf.fin hkl (fun _ _ => trivial)
        obtain ⟨kvs, hkv, ex7, S7⟩ := (S6.less (ms' := [.dK pr kds, .lsr pf ((List.range k').map (LedF cs))]) (List.sublist_cons_self _ _)).freezeK
        refine st_appR (j := 0) S7 rfl rfl LedF.ex (er_val S7.so (i := 3) rfl LedF.ex (R := LedF cs k') ⟨pr, kvs, rfl, upd_same, ?_, ?_⟩) (by rw [List.length_map, List.length_range]; omega) fun F8 H8 S8 => ?_
        · rw [hkv.keys]; exact led.1
        · rw [hkv.keys]; exact led.2
        · refine NX.of (S8.weak (es' := [.dat NL, .val (.ref pf), .un, .un, .un, .un, .un]) (by repeat (first | exact .nil | refine .cons (by first | exact trivial | rfl) ?_))) ⟨rfl, ?_⟩
          simp [List.range_succ]
  · rintro es ms F2 H2 σ2 ⟨rfl, rfl⟩ S2
    rw [List.length_range] at S2
    exact st_retLsr (j := 0) S2 rfl rfl fun us F' H' g hf pr => q (.ref pf) F' H' g ⟨pf, us, rfl, hf, pr_map pr⟩
end TT
/-! D_places_of -/
namespace TT
open PySem PySem.Spec PyProof.Rows L2 C8
def sp_places_of (K : PySem.W.Frag) : Sp := SpN K fun ds zs => ∃ r : List Bool, r.length ≤ 1000 ∧ ds = [.str (runS r)] ∧ zs = [.list (inD (pl true r)), .list (inD (pl false r))]
theorem len_places_of {K : PySem.W.Frag} : ∀ vs H Q E, sp_places_of K vs H Q E → vs.length = 1 := spN_len (by rintro _ _ ⟨r, _, rfl, _⟩; rfl)
abbrev N_places_of : List Str := ["run", "one", "place", "letter"]
theorem sc_places_of : FnScope N_places_of ["run"] (C8.fnScope st_places_of) := C8.fnScope_by (by decide +kernel)
theorem c_places_of {P : Program} {w : World} {K : PySem.W.Frag} {mg : Str → Option Value} {base : Heap} (T : Txt K mg) : C8.Cal P w K mg base 1 "places_of" (sp_places_of K) [] := by
  obtain ⟨f, fd, Fd, df⟩ := T.d_places_of
  refine C8.cal0 Fd (Fd.fn.binds df (ps := ["run"]) (fun _ _ _ _ _ _ us hl => match us, hl with | [_], _ => rfl)) .nil sc_places_of len_places_of fun cdv A outer s H vs Q E hr hsp => ?_
  have hu := hu_of hr
  have nd := (sc_places_of).nd
  refine ⟨_, (pss_one (ps_ret (pe_lc (own := [("one", 1)]) (by rfl) nd (pi_str (pe_gc (by rfl) T.g_LETTERS)) (blkOk_by (by kernel_rfl)) (fun _ _ _ _ _ => (pg_name (i := 1) nd (by rfl) (by first | exact Or.inl rfl | exact Or.inr rfl))) (fun _ _ _ _ _ => pts_nil) (fun _ _ _ _ _ => (pe_lc (own := [("place", 2), ("letter", 3)]) (by rfl) nd (pi_enumS (by rfl) (by rfl) T.b_enumerate (pa_cons (pv 0) pa_nil)) (blkOk_by (by kernel_rfl)) (fun _ _ _ _ _ => (kpg_tup (K := K) (n := 2) (by rfl) (by rfl) (pgs_cons (pg_name (i := 2) nd (by rfl) (by first | exact Or.inl rfl | exact Or.inr rfl)) (pgs_cons (pg_name (i := 3) nd (by rfl) (by first | exact Or.inl rfl | exact Or.inr rfl)) pgs_nil)))) (fun _ _ _ _ _ => (pts_one (pt_cmpR op_eq (pv 3) (pv 1) (nomark _)))) (fun _ _ _ _ _ => (pv 2))))))), ?_⟩
  obtain ⟨F, ds, zs, e0, hd, ⟨r, hz, rfl, rfl⟩, q⟩ := hsp
  have S : Sta K F H [.dat (.str (runS r)), .un, .un, .un] [] F H (L2.start N_places_of vs) := Sta.begin 3 e0 hd
  have so := S.so
  refine st_retN S (en_lcA0 [true, false] (fun x => .str (chr (cd x))) so (it_str (ev_str _)) signs_ab (fun x => .list (inD (pl x r))) _ (by show 2 < 100000; decide) (fun _ _ => tg_name) (by decide) fun x _ F1 H1 σ2 g2 so2 => ?_) q
  refine EvD.eq (EvN.toD (en_lcA r.zipIdx (fun p => .tuple [.int (p.2 : Nat), .str (chr (cd p.1))]) so2 (it_enumS (ea_cons (ev_var so2 rfl) ea_nil)) (by rw [runS_signs]; exact enumD_map r _) (fun p => decide (p.1 = x)) (fun p => .int (p.2 : Nat)) _ (by rw [List.length_zipIdx]; omega) (fun _ _ => (tg_tup (tgs_cons tg_name (tgs_cons tg_name tgs_nil)))) (by decide) (fun p _ F3 H3 σ4 g4 so4 => EvT.eq (et_test (ev_op (ev_var so4 rfl) (ev_var so4 rfl) r2_eqS)) (chr_eq _ _)) (fun p _ _ F3 H3 σ4 g4 so4 => (ev_var so4 rfl)))) ?_
  simp [pl, inD]
end TT
/-! D_winners_of -/
namespace TT
open PySem PySem.Spec PyProof.Rows L2 C8
def sp_winners_of (K : PySem.W.Frag) : Sp := SpF K fun ds d => ∃ (a b : Th) (r : List Bool), Vd a ∧ Vd b ∧ RunB a b r ∧ ds = [.tuple ((cons a b).map ctD), .str (runS r)] ∧ d = .str (runS (winL (cons a b) r))
theorem len_winners_of {K : PySem.W.Frag} : ∀ vs H Q E, sp_winners_of K vs H Q E → vs.length = 2 := spF_len (by rintro _ _ ⟨a, b, r, _, _, _, rfl, _⟩; rfl)
theorem win_at {a b : Th} {r : List Bool} (va : Vd a) (vb : Vd b) (R : RunB a b r) {c : Ct} (hc : c ∈ cons a b) : ∃ p q, (pl true r)[c.ae]? = some p ∧ (pl false r)[c.bb]? = some q ∧ (if decide (p > q) = true then 98 else 97) = cd (TM.win r (tri c)) := by
  have ok := cons_ok va vb (tri c) (List.mem_map.mpr ⟨c, hc, rfl⟩)
  have h1 : c.ae < (pl true r).length := by
    rw [pl_len]
    have e : r.count true = a.length := R.ha
    rw [e]
    exact ok.1
  have h2 : c.bb < (pl false r).length := by
    rw [pl_len]
    have e := R.hb
    have o2 : c.be < b.length := ok.2.1
    have o3 := ok.2.2
    have : c.bb ≤ c.be := by
      rcases o3 with ⟨_, h⟩ | ⟨_, h⟩
      · have h : c.bb < c.be := h; omega
      · have h : c.bb = c.be := h; omega
    have e' : r.count false = b.length := e
    omega
  refine ⟨_, _, List.getElem?_eq_getElem h1, List.getElem?_eq_getElem h2, ?_⟩
  obtain ⟨ne, e⟩ := pl_bef (List.getElem?_eq_getElem h1) (List.getElem?_eq_getElem h2)
  show _ = cd (TM.bef r c.ae c.bb)
  rw [e]
  by_cases h : (pl true r)[c.ae] < (pl false r)[c.bb]
  · have h' : ¬ (pl true r)[c.ae] > (pl false r)[c.bb] := by omega
    simp [h, h', cd]
  · have h' : (pl true r)[c.ae] > (pl false r)[c.bb] := by omega
    simp [h, h', cd]
abbrev N_winners_of : List Str := ["some", "run", "own", "its", "contest"]
theorem sc_winners_of : FnScope N_winners_of ["some", "run"] (C8.fnScope st_winners_of) := C8.fnScope_by (by decide +kernel)
theorem c_winners_of {P : Program} {w : World} {K : PySem.W.Frag} {mg : Str → Option Value} {base : Heap} (T : Txt K mg) (c_places_of : C8.Cal P w K mg base 1 "places_of" (sp_places_of K) []) : C8.Cal P w K mg base 2 "winners_of" (sp_winners_of K) [] := by
  obtain ⟨f, fd, Fd, df⟩ := T.d_winners_of
  refine C8.cal0 Fd (Fd.fn.binds df (ps := ["some", "run"]) (fun _ _ _ _ _ _ us hl => match us, hl with | [_, _], _ => rfl)) .nil sc_winners_of len_winners_of fun cdv A outer s H vs Q E hr hsp => ?_
  have hu := hu_of hr
  have nd := (sc_winners_of).nd
  refine ⟨_, (pss_cons (ps_asg (pe_c c_places_of hr (by decide) (by rfl) (pa_cons (pv 1) pa_nil)) (kpg_unl (K := K) (n := 2) (by rfl) (by rfl) (pgs_cons (pg_name (i := 2) nd (by rfl) (by first | exact Or.inl rfl | exact Or.inr rfl)) (pgs_cons (pg_name (i := 3) nd (by rfl) (by first | exact Or.inl rfl | exact Or.inr rfl)) pgs_nil))))
  (pss_one (ps_ret (pe_m1 PySem.F.slot_str_join PySem.F.type_str_join (kmt_join (K := K) (by rfl)) pe_str (pe_lc (own := [("contest", 4)]) (by rfl) nd (kpi_tup (K := K) (by rfl) (pv 0)) (blkOk_by (by kernel_rfl)) (fun _ _ _ _ _ => (pg_name (i := 4) nd (by rfl) (by first | exact Or.inl rfl | exact Or.inr rfl))) (fun _ _ _ _ _ => pts_nil) (fun _ _ _ _ _ => (pe_ix ix_str (pe_gc (by rfl) T.g_LETTERS) (pe_callTy call_int1 (by rfl) T.b_int (by decide +kernel) (pa_cons (pe_cmpR op_gt (pe_ix (kix_list (K := K) (by rfl)) (pv 2) (pe_ix (kix_tup (K := K) (by rfl)) (pv 4) pe_int (fun _ _ => rfl)) (fun _ _ => rfl)) (pe_ix (kix_list (K := K) (by rfl)) (pv 3) (pe_ix (kix_tup (K := K) (by rfl)) (pv 4) pe_int (fun _ _ => rfl)) (fun _ _ => rfl)) (nomark _)) pa_nil)) (fun _ _ => rfl)))))))), ?_⟩
  obtain ⟨F, ds, d, e0, hd, ⟨a, b, r, va, vb, R, rfl, rfl⟩, q⟩ := hsp
  obtain ⟨hl, hl2⟩ := runB_len va vb R
  have hcl := cons_len (a := a) (b := b) (Nat.le_trans va.len (by decide)) (Nat.le_trans vb.len (by decide))
  have S : Sta K F H [.dat (.tuple ((cons a b).map ctD)), .dat (.str (runS r)), .un, .un, .un] [] F H (L2.start N_winners_of vs) := Sta.begin 3 e0 hd
  have so := S.so
  refine st_asg S (EvN.toD (en_call (ea_cons (ev_var so rfl) ea_nil) ⟨r, by omega, rfl, rfl⟩)) (tg_unl (tgs_cons tg_name (tgs_cons tg_name tgs_nil))) fun F1 H1 σ1 S1 => ?_
  have so := S1.so
  refine st_ret S1 (EvD.eq (ev_join (ev_str _) (EvN.toD (EvN.eqN (zs := ((cons a b).map fun c => chr (cd (TM.win r (tri c)))).map PyData.str) (en_lcA0 (cons a b) ctD so (it_tup (ev_var so rfl)) rfl (fun c => .str (chr (cd (TM.win r (tri c))))) _ (by omega) (fun _ _ => tg_name) (by decide) fun c hc F2 H2 σ2 g2 so2 => ?ent) ?eqn)) ?len) ?fin) q
  case eqn => exact (List.map_map (g := PyData.str) (f := fun c => chr (cd (TM.win r (tri c))))).symm
  case len =>
    have : ∀ l : List Ct, ((l.map fun c => chr (cd (TM.win r (tri c)))).map (·.length)).sum = l.length := fun l => by
      induction l with
      | nil => rfl
      | cons c l ih => simp only [List.map_cons, List.sum_cons, ih, List.length_cons]; show 1 + _ = _; omega
    rw [this, show ("" : Str).length = 0 from by decide +kernel]
    omega
  case fin =>
    have : ((cons a b).map fun c => chr (cd (TM.win r (tri c)))) = (winL (cons a b) r).map fun x => chr (cd x) := by
      unfold winL
      rw [List.map_map]
      rfl
    rw [this, join_letters]
  case ent =>
    obtain ⟨p, q', hp, hq, e⟩ := win_at va vb R hc
    have ap : atI (inD (pl true r)) ((c.ae : Nat) : Int) = some (.int (p : Nat)) := atI_nat (by rw [List.getElem?_map, hp]; rfl)
    have aq : atI (inD (pl false r)) ((c.bb : Nat) : Int) = some (.int (q' : Nat)) := atI_nat (by rw [List.getElem?_map, hq]; rfl)
    have ai : atI ("ab" : Str).cps.toList (if decide (((p : Nat) : Int) > ((q' : Nat) : Int)) = true then 1 else 0) = some (cd (TM.win r (tri c))) := by
      rw [← e]
      by_cases h : p > q'
      · have h' : ((p : Nat) : Int) > ((q' : Nat) : Int) := by omega
        simp only [h, h', decide_true, if_true]
        decide +kernel
      · have h' : ¬ ((p : Nat) : Int) > ((q' : Nat) : Int) := by omega
        simp only [h, h', decide_false]
        decide +kernel
    exact (ev_op (ev_str _) (ev_cb (ea_cons (ev_op (ev_op (ev_var so2 rfl) (ev_op (ev_var so2 rfl) (ev_int _) (r2_ixT rfl)) (r2_ixL ap)) (ev_op (ev_var so2 rfl) (ev_op (ev_var so2 rfl) (ev_int _) (r2_ixT rfl)) (r2_ixL aq)) r2_B0) ea_nil) rc_intB) (r2_ixS (by decide +kernel) ai))
end TT
/-! D_is_open_at -/
namespace TT
open PySem PySem.Spec PyProof.Rows L2 C8
theorem len_is_open_at {K : PySem.W.Frag} {C : Addr} : ∀ vs H Q E, sp_is_open_at K C vs H Q E → vs.length = 2 := by rintro vs H Q E ⟨F, v, w, a, b, i, j, rfl, _⟩; rfl
abbrev N_is_open_at : List Str := ["self", "state", "one", "other", "lock"]
theorem sc_is_open_at : FnScope N_is_open_at ["self", "state"] (C8.fnScope st_is_open_at) := C8.fnScope_by (by decide +kernel)
theorem c_is_open_at {P : Program} {w : World} {K : PySem.W.Frag} {mg : Str → Option Value} {base : Heap} {C_ : Addr} (T : Txt K mg) (TP : TxtP K mg C_) : C8.Met P w K mg base 1 C_ "is_open_at" (sp_is_open_at K C_) [] := by
  obtain ⟨f, fd, Me, Fd, df⟩ := TP.d_is_open_at
  refine C8.met0 TP.cl Me Fd (Fd.binds df (ps := ["self", "state"]) (fun _ _ _ _ _ _ us hl => match us, hl with | [_, _], _ => rfl)) sc_is_open_at len_is_open_at fun cdv A outer s H vs Q E hr hsp => ?_
  have hu := hu_of hr
  have nd := (sc_is_open_at).nd
  refine ⟨_, (pss_cons (ps_asg (pe_tup (pa_cons (pe_ix (kix_list (K := K) (by rfl)) (pe_ix (kix_list (K := K) (by rfl)) (kfld (K := K) (by rfl) (pv 0) rfl) pe_int (fun _ _ => rfl)) (pe_ix (kix_tup (K := K) (by rfl)) (pv 1) pe_int (fun _ _ => rfl)) (fun _ _ => rfl)) (pa_cons (pe_ix (kix_list (K := K) (by rfl)) (pe_ix (kix_list (K := K) (by rfl)) (kfld (K := K) (by rfl) (pv 0) rfl) pe_int (fun _ _ => rfl)) (pe_ix (kix_tup (K := K) (by rfl)) (pv 1) pe_int (fun _ _ => rfl)) (fun _ _ => rfl)) pa_nil))) (kpg_tup (K := K) (n := 2) (by rfl) (by rfl) (pgs_cons (pg_name (i := 2) nd (by rfl) (by first | exact Or.inl rfl | exact Or.inr rfl)) (pgs_cons (pg_name (i := 3) nd (by rfl) (by first | exact Or.inl rfl | exact Or.inr rfl)) pgs_nil))))
  (pss_one (ps_ret (pe_callB (kc_all (K := K) (by rfl) (by rfl)) (by rfl) T.b_all (by decide +kernel) (pa_cons (pe_lock (pe_lc (own := [("lock", 4)]) (by rfl) nd (pi_keys (pv 2)) (blkOk_by (by kernel_rfl)) (fun _ _ _ _ _ => (pg_name (i := 4) nd (by rfl) (by first | exact Or.inl rfl | exact Or.inr rfl))) (fun _ _ _ _ _ => (pts_one (pt_cmp (pc_din hu (pv 4) (pv 3))))) (fun _ _ _ _ _ => (pe_and (pe_cmpR op_eq (pe_dget hu (pv 2) (pv 4) (fun _ _ => rfl)) (pe_gc (by rfl) T.g_SHARE) (nomark _)) (pe_one (pe_cmpR op_eq (pe_dget hu (pv 3) (pv 4) (fun _ _ => rfl)) (pe_gc (by rfl) T.g_SHARE) (nomark _))))))) pa_nil))))), ?_⟩
  obtain ⟨F, v, w, a, b, i, j, rfl, e0, pl, kw, va, vb, hi, hj, q⟩ := hsp
  have S : Sta K F H [.rel (PlaneR C_ a b), .dat (.tuple [.int (i : Nat), .int (j : Nat)]), .un, .un, .un] [] F H (L2.start N_is_open_at [v, w]) :=
    ⟨Gr.refl e0, .cons ⟨PlaneR.ex, pl⟩ (.cons kw (.cons trivial (.cons trivial (.cons trivial .nil)))), (fun m hm => nomatch hm), List.nodup_nil⟩
  have so := S.so
  refine st_parCRR (R := fun F v => FD F v (hsAt a i)) (R2 := fun F v => FD F v (hsAt b j)) S (fun F F' v e h => FD.ex e h) (fun F F' v e h => FD.ex e h) (er_held (cl := TP.cl) (na := TP.nH) (t := a) so rfl (.inl ⟨rfl, rfl⟩) hi (ev_op (ev_var so rfl) (ev_int _) (r2_ixT rfl))) (er_held (cl := TP.cl) (na := TP.nH) (t := b) so rfl (.inr ⟨rfl, rfl⟩) hj (ev_op (ev_var so rfl) (ev_int _) (r2_ixT rfl))) fun F1 H1 σ1 S1 => ?_
  have hz := va.len
  exact st_ret S1 (rd_open S1.so (by show i ≤ 1000; omega) rfl rfl rfl) q
end TT
/-! D_holdings -/
namespace TT
open PySem PySem.Spec PyProof.Rows L2 C8
def sp_holdings (K : PySem.W.Frag) : Sp := SpM K fun ds P => ∃ t : Th, Vd t ∧ ds = [thD t] ∧ P = fun mk => mk = fun p => .lsd p (hs t t.length)
theorem len_holdings {K : PySem.W.Frag} : ∀ vs H Q E, sp_holdings K vs H Q E → vs.length = 1 := spM_len (by rintro _ _ ⟨a, _, rfl, _⟩; rfl)
abbrev N_holdings : List Str := ["thread", "found", "word", "name", "kept"]
theorem sc_holdings : FnScope N_holdings ["thread"] (C8.fnScope st_holdings) := C8.fnScope_by (by decide +kernel)
theorem c_holdings {P : Program} {w : World} {K : PySem.W.Frag} {mg : Str → Option Value} {base : Heap} (T : Txt K mg) : C8.Cal P w K mg base 1 "holdings" (sp_holdings K) [] := by
  obtain ⟨f, fd, Fd, df⟩ := T.d_holdings
  refine C8.cal0 Fd (Fd.fn.binds df (ps := ["thread"]) (fun _ _ _ _ _ _ us hl => match us, hl with | [_], _ => rfl)) .nil sc_holdings len_holdings fun cdv A outer s H vs Q E hr hsp => ?_
  have hu := hu_of hr
  have nd := (sc_holdings).nd
  refine ⟨_, (pss_cons (ps_set (i := 1) nd (by rfl) (by first | exact Or.inl rfl | exact Or.inr rfl) (pe_lst (pa_cons pe_dnewK pa_nil)))
  (pss_cons (ps_for PassesOwn.never rfl (kpi_tup (K := K) (by rfl) (pv 0)) (kpg_tup (K := K) (n := 2) (by rfl) (by rfl) (pgs_cons (pg_name (i := 2) nd (by rfl) (by first | exact Or.inl rfl | exact Or.inr rfl)) (pgs_cons (pg_name (i := 3) nd (by rfl) (by first | exact Or.inl rfl | exact Or.inr rfl)) pgs_nil)))
   (pss_cons (ps_set (i := 4) nd (by rfl) (by first | exact Or.inl rfl | exact Or.inr rfl) (pe_callTy call_dictD (by rfl) T.b_dict (by decide +kernel) (pa_cons (pe_ix (kix_list (K := K) (by rfl)) (pv 1) (pe_un un_neg pe_int) (fun _ _ => rfl)) pa_nil)))
  (C8.pss_cut (ps_if (pt_cmpR (kin (K := K) (by rfl)) (pv 2) (pe_tup (pa_cons (pe_gc (by rfl) T.g_LOCK) (pa_cons (pe_gc (by rfl) T.g_SHARE) pa_nil))) (by rfl))
   (pss_one (ps_dput hu (pv 4) (pv 3) (pv 2) rfl))
   pss_nil)
  (C8.pss_cut (ps_if (pt_cmpR op_eq (pv 2) (pe_gc (by rfl) T.g_FREE) (nomark _))
   (pss_one (ps_expr (pe_dpop1 (pv 4) (pv 3) ⟨rfl, rfl, rfl, rfl⟩)))
   pss_nil)
  (pss_one (ps_expr (kbm (K := K) (by rfl) PySem.F.plainAttrs_list PySem.F.slot_list_append PySem.F.type_list_append mt_append (pv 1) (pa_cons (pv 4) pa_nil))))))))
  (pss_one (ps_ret (pv 1))))), ?_⟩
  obtain ⟨F, ds, P, e0, hd, ⟨t, vd, rfl, rfl⟩, q⟩ := hsp
  have S : Sta K F H [.dat (thD t), .un, .un, .un, .un] [] F H (L2.start N_holdings vs) := Sta.begin 4 e0 hd
  have hz := vd.len
  refine st_newDL S fun pf F1 H1 σ1 S1 => ?_
  have so := S1.so
  refine for_A t stD S1 (it_tup (ev_var so rfl)) rfl (fun i es ms => es = [.dat (thD t), .val (.ref pf), .un, .un, .un] ∧ ms = [.lsd pf (hs t i)]) ⟨rfl, rfl⟩ ?_ ?_
  · rintro Fb Bb gb i ⟨w, m⟩ es ms F2 H2 σ2 ht ⟨rfl, rfl⟩ S2
    have hil : i < t.length := (List.getElem?_eq_some_iff.mp ht).1
    refine ⟨_, _, (tg_tup (tgs_cons tg_name (tgs_cons tg_name tgs_nil))), fun σ3 S3 => ?_⟩
    have e : hs t i = (List.range i).map (hsAt t) ++ [hsAt t i] := by simp [hs, List.range_succ]
    rw [e] at S3
    refine st_copyD (j := 0) S3 rfl rfl fun pk F4 H4 σ4 S4 => ?_
    refine st_cut S4 (fun es ms => es = [.dat (thD t), .val (.ref pf), .dat (.str w), .dat (.str m), .val (.ref pk)] ∧ ms = [.dsv pk (hst1 (hsAt t i) w m), .lsd pf ((List.range i).map (hsAt t) ++ [hsAt t i])]) ?_ ?_
    · have so := S4.so
      refine st_if S4 (et_test (ev_op (ev_var so rfl) (ev_tup (ea_cons (ev_str _) (ea_cons (ev_str _) ea_nil))) (r2_inT (ns := ["lock", "share"])))) (fun hb F5 H5 S5 => ?_) (fun hb F5 H5 S5 => ?_)
      · have so := S5.so
        refine st_dputV (j := 0) S5 (ev_var so rfl) rfl rfl (ev_var so rfl) (by show i < 100000; omega) fun F6 H6 S6 => NX.of S6 ⟨rfl, ?_⟩
        rw [show hst1 (hsAt t i) w m = fset (hsAt t i) m w from if_pos hb]
        rfl
      · refine NX.of S5 ⟨rfl, ?_⟩
        rw [show hst1 (hsAt t i) w m = hsAt t i from if_neg (by rw [show isL w = false from hb]; exact Bool.false_ne_true)]
    · rintro es ms F5 H5 σ5 ⟨rfl, rfl⟩ S5
      refine st_cut S5 (fun es ms => es = [.dat (thD t), .val (.ref pf), .dat (.str w), .dat (.str m), .val (.ref pk)] ∧ ms = [.dsv pk (hst2 (hst1 (hsAt t i) w m) w m), .lsd pf ((List.range i).map (hsAt t) ++ [hsAt t i])]) ?_ ?_
      · have so := S5.so
        refine st_if S5 (et_test (ev_op (ev_var so rfl) (ev_str _) r2_eqS)) (fun hb F6 H6 S6 => ?_) (fun hb F6 H6 S6 => ?_)
        · have so := S6.so
          have hf : isF w = true := hb
          have h1 : hst1 (hsAt t i) w m = hsAt t i := if_neg (by rw [lf_not hf]; exact Bool.false_ne_true)
          obtain ⟨x, hx⟩ := Option.isSome_iff_exists.mp (vd.fr i w m ht hf)
          refine st_dpopV (j := 0) (w := x) S6 rfl rfl (ev_var so rfl) (by rw [h1]; exact hx) fun F7 H7 S7 => NX.of S7 ⟨rfl, ?_⟩
          rw [show hst2 (hst1 (hsAt t i) w m) w m = fdel (hst1 (hsAt t i) w m) m from if_pos hf]
          rfl
        · refine NX.of S6 ⟨rfl, ?_⟩
          rw [show hst2 (hst1 (hsAt t i) w m) w m = hst1 (hsAt t i) w m from if_neg (by rw [show isF w = false from hb]; exact Bool.false_ne_true)]
      · rintro es ms F6 H6 σ6 ⟨rfl, rfl⟩ S6
        refine st_appD (f' := hsAt t (i + 1)) S6 rfl rfl (hst_ok ht _ fun _ => rfl) (hst_len _ _ _) (by simp; omega) fun F7 H7 S7 => ?_
        refine NX.of (S7.weak (es' := [.dat (thD t), .val (.ref pf), .un, .un, .un]) (by repeat (first | exact .nil | refine .cons (by first | exact trivial | rfl) ?_))) ⟨rfl, ?_⟩
        simp [hs, List.range_succ]
  · rintro es ms F2 H2 σ2 ⟨rfl, rfl⟩ S2
    exact st_retO (j := 0) S2 rfl rfl rfl fun F' H' g hp m => q _ pf F' H' rfl g hp m
end TT
/-! D_init -/
namespace TT
open PySem PySem.Spec PyProof.Rows L2 C8
theorem len_init {K : PySem.W.Frag} {C : Addr} : ∀ vs H Q E, sp_init K C vs H Q E → vs.length = 2 := by rintro vs H Q E ⟨F, p, dx, v, a, b, rfl, _⟩; rfl
abbrev N_init : List Str := ["self", "pair", "thread"]
theorem sc_init : FnScope N_init ["self", "pair"] (C8.fnScope st_init) := C8.fnScope_by (by decide +kernel)
theorem c_init {P : Program} {w : World} {K : PySem.W.Frag} {mg : Str → Option Value} {base : Heap} {C_ : Addr} (T : Txt K mg) (TP : TxtP K mg C_) (c_holdings : C8.Cal P w K mg base 1 "holdings" (sp_holdings K) []) : C8.Mak P w K mg base 2 "Plane" C_ (sp_init K C_) [] := by
  obtain ⟨f, fd, Me, Fd, df⟩ := TP.d_init
  refine C8.mak0 Me TP.mg_Plane Fd (Fd.binds df (ps := ["self", "pair"]) (fun _ _ _ _ _ _ us hl => match us, hl with | [_, _], _ => rfl)) .nil sc_init len_init fun cdv A outer s H vs Q E hr hsp => ?_
  have hu := hu_of hr
  have nd := (sc_init).nd
  refine ⟨_, (pss_cons (ps_fld (pv 0) (pe_tup (pa_cons (pe_callB (kc_len (K := K) (by rfl)) (by rfl) T.b_len (by decide +kernel) (pa_cons (pe_ix (kix_tup (K := K) (by rfl)) (pv 1) pe_int (fun _ _ => rfl)) pa_nil)) (pa_cons (pe_callB (kc_len (K := K) (by rfl)) (by rfl) T.b_len (by decide +kernel) (pa_cons (pe_ix (kix_tup (K := K) (by rfl)) (pv 1) pe_int (fun _ _ => rfl)) pa_nil)) pa_nil))) rfl)
  (pss_cons (ps_fld (pv 0) (kfld (K := K) (by rfl) (pv 0) rfl) rfl)
  (pss_one (ps_fld (pv 0) (pe_lc (own := [("thread", 2)]) (by rfl) nd (kpi_tup (K := K) (by rfl) (pv 1)) (blkOk_by (by kernel_rfl)) (fun _ _ _ _ _ => (pg_name (i := 2) nd (by rfl) (by first | exact Or.inl rfl | exact Or.inr rfl))) (fun _ _ _ _ _ => pts_nil) (fun _ _ _ _ _ => (pe_c c_holdings hr (by decide) (by rfl) (pa_cons (pv 2) pa_nil)))) rfl)))), ?_⟩
  obtain ⟨F, p, dx, v, a, b, rfl, e0, hf, hp, kv, va, vb, q⟩ := hsp
  have S : Sta K F (del H p) [.val (.ref p), .dat (prD a b), .un] [.ins p C_ dx []] F H (L2.start N_init [.ref p, v]) :=
    ⟨Gr.delStart e0 hf, .cons rfl (.cons kv (.cons trivial .nil)), fun m hm => by
      rw [List.mem_singleton.mp hm]
      exact ⟨⟨hf, (), hp, trivial⟩, del_self⟩, by simp⟩
  have so := S.so
  refine st_fld (j := 0) S (EvD.toR (ev_tup (ea_cons (ev_cb (ea_cons (ev_op (ev_var so rfl) (ev_int _) (r2_ixT rfl)) ea_nil) rc_lenT) (ea_cons (ev_cb (ea_cons (ev_op (ev_var so rfl) (ev_int _) (r2_ixT rfl)) ea_nil) rc_lenT) ea_nil)))) rfl rfl TP.cl TP.nS (by show 0 < 1000; decide) fun v1 F1 H1 g1 k1 S1 => ?_
  refine st_fld (j := 0) S1 (er_fldM (j := 0) S1 rfl rfl TP.cl TP.nS (v := v1) (by rw [lookup_putF, if_pos rfl])) rfl rfl TP.cl TP.nE (by show 1 < 1000; decide) fun v2 F2 H2 g2 k2 S2 => ?_
  have so := S2.so
  have two : (putF "end" v2 (putF "sizes" v1 [])).length < 1000 := by
    show (if ("sizes" : Str) = "end" then [(("sizes" : Str), v2)] else (("sizes" : Str), v1) :: putF "end" v2 []).length < 1000
    split
    · show 1 < 1000; decide
    · show 2 < 1000; decide
  refine st_fld (j := 0) S2 (er_two (R := fun (t : Th) F v => FL F v (hs t t.length)) (x := a) (y := b) (fun t F F' v e h => h.ex e) (en_lcR [a, b] thD (fun t F v => FL F v (hs t t.length)) (fun t F F' v e h => h.ex e) so (it_tup (ev_var so rfl)) rfl _ (by show 2 < 100000; decide) (fun t _ => tg_name) (by decide) fun t ht F3 H3 σ4 g3 so4 => ?_)) rfl rfl TP.cl TP.nH two fun v3 F3 H3 g3 k3 S3 => ?_
  · have vt : Vd t := by
      rcases List.mem_cons.mp ht with rfl | h
      · exact va
      · rw [List.mem_singleton.mp h]; exact vb
    exact er_lsd (ep_call (ea_cons (ev_var so4 rfl) ea_nil) ⟨t, vt, rfl, rfl⟩) (fun mk h => h)
  · obtain ⟨hb, u, w, rfl, h1, h2, h3⟩ := k3
    obtain ⟨l0, us0, rfl, f0, p0⟩ := id h2
    obtain ⟨l1, us1, rfl, f1, p1⟩ := id h3
    refine q F3 _ _ S3.gr (S3.m (j := 0) rfl).1 upd_same ⟨hb, l0, l1, by rw [lookup_putF, if_pos rfl], ?_, h1, h2, h3⟩
    rw [lookup_putF, if_neg (by decide +kernel), lookup_putF, if_neg (by decide +kernel), lookup_putF, if_neg (by decide +kernel)]
    rfl
end TT
/-! D_is_run -/
namespace TT
open PySem PySem.Spec PyProof.Rows L2 C8
def sp_is_run (K : PySem.W.Frag) : Sp := SpF K fun ds d => ∃ (a b : Th) (r : List Bool), Vd a ∧ Vd b ∧ RunB a b r ∧ ds = [prD a b, .str (runS r)] ∧ d = .bool true
theorem len_is_run {K : PySem.W.Frag} : ∀ vs H Q E, sp_is_run K vs H Q E → vs.length = 2 := spF_len (by rintro _ _ ⟨a, b, r, _, _, _, rfl, _⟩; rfl)
abbrev N_is_run : List Str := ["pair", "value", "counts", "plane", "i", "done", "letter", "thread"]
theorem sc_is_run : FnScope N_is_run ["pair", "value"] (C8.fnScope st_is_run) := C8.fnScope_by (by decide +kernel)
theorem c_is_run {P : Program} {w : World} {K : PySem.W.Frag} {mg : Str → Option Value} {base : Heap} (T : Txt K mg) {C_ : Addr} (c_is_open_at : C8.Met P w K mg base 1 C_ "is_open_at" (sp_is_open_at K C_) []) (c_Plane : C8.Mak P w K mg base 2 "Plane" C_ (sp_init K C_) []) : C8.Cal P w K mg base 4 "is_run" (sp_is_run K) [] := by
  obtain ⟨f, fd, Fd, df⟩ := T.d_is_run
  refine C8.cal0 Fd (Fd.fn.binds df (ps := ["pair", "value"]) (fun _ _ _ _ _ _ us hl => match us, hl with | [_, _], _ => rfl)) .nil sc_is_run len_is_run fun cdv A outer s H vs Q E hr hsp => ?_
  have hu := hu_of hr
  have nd := (sc_is_run).nd
  refine ⟨_, (C8.pss_cut (ps_if (PW.pt (pw_or (pt_not (pt_val (pe_callB (kc_isi (K := K) (by rfl)) (by rfl) T.b_isinstance (by decide +kernel) (pa_cons (pv 1) (pa_cons (pe_bltn (v := .ty "str") (by rfl) T.b_str (by decide +kernel) rfl) pa_nil))))) (pw_or1 (pt_cmpR op_ne (kbm (K := K) (by rfl) PySem.F.plainAttrs_str PySem.F.slot_str_strip PySem.F.type_str_strip mt_stripChars (pv 1) (pa_cons (pe_gc (by rfl) T.g_LETTERS) pa_nil)) pe_str (nomark _)))))
   (pss_one (ps_ret pe_bl))
   pss_nil)
  (pss_cons (ps_setLc (i := 2) (own := [("letter", 6)]) (by rfl) nd (by rfl) (by rfl) (sw_true rfl rfl rfl (by decide +kernel)) (pi_str (pe_gc (by rfl) T.g_LETTERS)) (blkOk_by (by kernel_rfl)) (fun _ _ _ _ _ => (pg_name (i := 6) nd (by rfl) (by first | exact Or.inl rfl | exact Or.inr rfl))) (fun _ _ _ _ _ => pts_nil) (fun _ _ _ _ _ => (pe_m1 PySem.F.slot_str_count PySem.F.type_str_count mt_count (pv 1) (pv 6))))
  (C8.pss_cut (ps_if (PW.pt (pw_or (pt_cmpR (kneD (K := K) (by rfl) hr.units) (pv 2) (pe_lc (own := [("thread", 7)]) (by rfl) nd (kpi_tup (K := K) (by rfl) (pv 0)) (blkOk_by (by kernel_rfl)) (fun _ _ _ _ _ => (pg_name (i := 7) nd (by rfl) (by first | exact Or.inl rfl | exact Or.inr rfl))) (fun _ _ _ _ _ => pts_nil) (fun _ _ _ _ _ => (pe_callB (kc_len (K := K) (by rfl)) (by rfl) T.b_len (by decide +kernel) (pa_cons (pv 7) pa_nil)))) (nomark _)) (pw_or1 (pt_cmpR op_ne (pe_callB (kc_len (K := K) (by rfl)) (by rfl) T.b_len (by decide +kernel) (pa_cons (pv 1) pa_nil)) (pe_callB (kc_sum (K := K) (by rfl) (by rfl)) (by rfl) T.b_sum (by decide +kernel) (pa_cons (pv 2) pa_nil)) (nomark _)))))
   (pss_one (ps_ret pe_bl))
   pss_nil)
  (pss_cons (ps_par (i := 3) (j := 4) (by rfl) nd (by rfl) (by rfl) (by decide) (by rfl) (by rfl) (pa_cons (pe_mk c_Plane hr (by decide) (by rfl) (pa_cons (pv 0) pa_nil)) (pa_cons pe_int pa_nil)) (by rfl))
  (pss_cons (ps_for PassesOwn.never rfl (pi_enumS (by rfl) (by rfl) T.b_enumerate (pa_cons (pv 1) pa_nil)) (kpg_tup (K := K) (n := 2) (by rfl) (by rfl) (pgs_cons (pg_name (i := 5) nd (by rfl) (by first | exact Or.inl rfl | exact Or.inr rfl)) (pgs_cons (pg_name (i := 6) nd (by rfl) (by first | exact Or.inl rfl | exact Or.inr rfl)) pgs_nil)))
   (pss_cons (ps_aug (i := 4) nd (by rfl) (by first | exact Or.inl rfl | exact Or.inr rfl) (pe_callTy call_int1 (by rfl) T.b_int (by decide +kernel) (pa_cons (pe_cmpR op_eq (pv 6) (pe_ix ix_str (pe_gc (by rfl) T.g_LETTERS) pe_int (fun _ _ => rfl)) (nomark _)) pa_nil)) ip_add)
  (pss_one (ps_if (pt_not (pt_val (pe_mt c_is_open_at hr (by decide) (pv 3) (pa_cons (pe_tup (pa_cons (pv 4) (pa_cons (pe_op op_sub (pe_op op_add (pv 5) pe_int) (pv 4)) pa_nil))) pa_nil))))
   (pss_one (ps_ret pe_bl))
   pss_nil))))
  (pss_one (ps_ret pe_bl))))))), ?_⟩
  obtain ⟨F, ds, d, e0, hd, ⟨a, b, r, va, vb, R, rfl, rfl⟩, q⟩ := hsp
  obtain ⟨hl, hl2⟩ := runB_len va vb R
  have hz : (runS r).length ≤ 100000 := by rw [runS_len]; omega
  have S : Sta K F H [.dat (prD a b), .dat (.str (runS r)), .un, .un, .un, .un, .un, .un] [] F H (L2.start N_is_run vs) := Sta.begin 6 e0 hd
  have tS : ∀ (v : V) (F : Hp), Dp K F v (.str (runS r)) → flatD (.str (runS r)) = true ∧ ∀ H, TyOf K H v (.type "str") := fun v F h => ⟨rfl, fun H => by rw [dp_str h]; exact .str _⟩
  refine st_cut S (fun es ms => es = [.dat (prD a b), .dat (.str (runS r)), .un, .un, .un, .un, .un, .un] ∧ ms = []) ?_ ?_
  · have so := S.so
    refine st_if S (EvT.eq (c := false) (et_or (et_not (et_B (rc_isi (b := true) tS (by decide +kernel) (ev_ty _) (ev_var so rfl)))) (fun _ => (et_test (ev_op (ev_strip (ev_var so rfl) (ea_cons (ev_str _) ea_nil) hz) (ev_str _) r2_neS)))) (by rw [strip_run]; rfl)) (fun h => nomatch h) (fun _ F1 H1 S1 => NX.of S1 ⟨rfl, rfl⟩)
  rintro es ms F1 H1 σ1 ⟨rfl, rfl⟩ S1
  have so := S1.so
  refine st_set S1 (EvN.toD (en_lcA0 [true, false] (fun x => .str (chr (cd x))) so (it_str (ev_str _)) signs_ab (fun x => .int (r.count x : Nat)) _ (by show 2 < 100000; decide) (fun _ _ => tg_name) (by decide) fun x _ F2 H2 σ2 g2 so2 => EvD.eq (ev_count (ev_var so2 rfl) (ev_var so2 rfl)) (by rw [count_run]))) fun F2 H2 σ2 S2 => ?_
  have S2 : Sta K F H [.dat (prD a b), .dat (.str (runS r)), .dat (.list ([((r.count true : Nat) : Int), ((r.count false : Nat) : Int)].map .int)), .un, .un, .un, .un, .un] [] F2 H2 σ2 := S2
  refine st_cut S2 (fun es ms => es = [.dat (prD a b), .dat (.str (runS r)), .un, .un, .un, .un, .un, .un] ∧ ms = []) ?_ ?_
  · have so := S2.so
    have sh : ∀ m n : Nat, SeqAt.shaped (.list [.int (m : Nat), .int (n : Nat)]) = true := fun m n => (shaped_inD [m, n]).1
    have h1 : (r.count true : Nat) = a.length := R.ha
    have h2 : (r.count false : Nat) = b.length := R.hb
    refine st_if S2 (EvT.eq (c := false) (et_or (et_test (ev_op (ev_var so rfl) (EvN.toD (en_lcA0 [a, b] thD so (it_tup (ev_var so rfl)) rfl (fun t => .int (t.length : Nat)) _ (by show 2 < 100000; decide) (fun _ _ => tg_name) (by decide) fun t _ F3 H3 σ4 g3 so4 => EvD.eq (ev_cb (ea_cons (ev_var so4 rfl) ea_nil) rc_lenT) (by rw [List.length_map]))) (r2_neD (sh _ _) (sh _ _)))) (fun _ => (et_test (ev_op (ev_cb (ea_cons (ev_var so rfl) ea_nil) (rc_lenS hz)) (ev_cb (ea_cons (ev_var so rfl) ea_nil) rc_sum) r2_neI)))) ?_) (fun h => nomatch h) (fun _ F3 H3 S3 => NX.of (S3.weak (by repeat (first | exact .nil | refine .cons (by first | exact trivial | rfl) ?_))) ⟨rfl, rfl⟩)
    simp [PyData.eqv, PyData.eqvAll, runS_len, h1, h2]
    omega
  rintro es ms F3 H3 σ3 ⟨rfl, rfl⟩ S3
  have so := S3.so
  refine st_parRD S3 PlaneR.ex (er_make va vb (ev_var so rfl)) (ev_int _) fun F4 H4 σ4 S4 => ?_
  have so := S4.so
  refine for_A r.zipIdx (fun p => .tuple [.int (p.2 : Nat), .str (chr (cd p.1))]) S4 (it_enumS (ea_cons (ev_var so rfl) ea_nil)) (by rw [runS_signs]; exact enumD_map r _)
    (fun k es ms => es = [.dat (prD a b), .dat (.str (runS r)), .un, .rel (PlaneR C_ a b), .dat (.int (TM.ca (r.take k) : Nat)), .un, .un, .un] ∧ ms = []) ⟨rfl, rfl⟩ ?_ ?_
  · rintro Fb Bb gb k ⟨x, k'⟩ es ms F5 H5 σ5 hk ⟨rfl, rfl⟩ S5
    rw [List.getElem?_zipIdx] at hk
    obtain ⟨x', hx, e⟩ := Option.map_eq_some_iff.mp hk
    simp at e
    obtain ⟨rfl, rfl⟩ := e
    refine ⟨_, _, (tg_tup (tgs_cons tg_name (tgs_cons tg_name tgs_nil))), fun σ6 S6 => ?_⟩
    have so := S6.so
    have eA : ("a" : Str) = chr (cd true) := by decide +kernel
    refine st_augI S6 rfl (ev_cb (ea_cons (ev_op (ev_var so rfl) (ev_op (ev_str _) (ev_int _) (r2_ixS (by decide +kernel) (by decide +kernel : atI ("ab" : Str).cps.toList 0 = some 97))) r2_eqS) ea_nil) rc_intB) fun F7 H7 σ7 S7 => ?_
    have so := S7.so
    have tk : r.take (k + 1) = r.take k ++ [x'] := by rw [List.take_add_one, hx]; rfl
    have hkl : k < r.length := (List.getElem?_eq_some_iff.mp hx).1
    have e1 : (TM.ca (r.take k) : Int) + (if decide (chr (cd x') = (⟨#[97]⟩ : Str)) = true then 1 else 0) = (TM.ca (r.take (k + 1)) : Nat) := by
      rw [tk, TM.ca_app]
      cases x'
      · have : decide (chr (cd false) = (⟨#[97]⟩ : Str)) = false := by decide +kernel
        rw [this]; simp
      · have : decide (chr (cd true) = (⟨#[97]⟩ : Str)) = true := by decide +kernel
        rw [this]; simp
    have hca : TM.ca (r.take (k + 1)) + TM.cb (r.take (k + 1)) = k + 1 := by
      rw [TM.cab_len, List.length_take]; omega
    have e2 : ((k : Nat) : Int) + 1 - (TM.ca (r.take (k + 1)) : Nat) = (TM.cb (r.take (k + 1)) : Nat) := by omega
    have spl : r = r.take (k + 1) ++ r.drop (k + 1) := (List.take_append_drop _ _).symm
    have op := R.o _ _ spl
    have le1 : TM.ca (r.take (k + 1)) ≤ a.length := by have h := R.ha; rw [spl, TM.ca_app] at h; omega
    have le2 : TM.cb (r.take (k + 1)) ≤ b.length := by have h := R.hb; rw [spl, TM.cb_app] at h; omega
    refine st_if S7 (et_not (et_B (EvD.eq (ev_isopen va vb le1 le2 (er_var so rfl) (ea_cons (EvD.eq (ev_tup (ea_cons (ev_var so rfl) (ea_cons (ev_op (ev_op (ev_var so rfl) (ev_int _) r2_I0) (ev_var so rfl) r2_I0) ea_nil))) ?_) ea_nil)) (congrArg PyData.bool op)))) (fun h => nomatch h) (fun _ F8 H8 S8 => NX.of (S8.weak (es' := [.dat (prD a b), .dat (.str (runS r)), .un, .rel (PlaneR C_ a b), .dat (.int (TM.ca (r.take (k + 1)) : Nat)), .un, .un, .un]) ?_) ⟨rfl, rfl⟩)
    · exact (congrArg (fun z => PyData.tuple [.int z, .int (((k : Nat) : Int) + 1 - z)]) e1).trans (by rw [e2])
    · refine .cons rfl (.cons rfl (.cons trivial (.cons rfl (.cons ?_ (.cons trivial (.cons trivial (.cons trivial .nil)))))))
      exact congrArg (fun z => SV.dat (.int z)) e1
  · rintro es ms F5 H5 σ5 ⟨rfl, rfl⟩ S5
    show tRet (tC (V.bl true)) { nx := fun x H' => Q V.non H', rt := Q } σ5 H5
    exact st_ret S5 (ev_bl true) q
end TT
/-! D_check_run -/
namespace TT
open PySem PySem.Spec PyProof.Rows L2 C8
def sp_check_run (K : PySem.W.Frag) : Sp := SpF K fun ds d => ∃ (a b : Th) (r : List Bool), Vd a ∧ Vd b ∧ RunB a b r ∧ ds = [prD a b, .str (runS r)] ∧ d = .none
theorem len_check_run {K : PySem.W.Frag} : ∀ vs H Q E, sp_check_run K vs H Q E → vs.length = 2 := spF_len (by rintro _ _ ⟨a, b, r, _, _, _, rfl, _⟩; rfl)
abbrev N_check_run : List Str := ["pair", "value"]
theorem sc_check_run : FnScope N_check_run ["pair", "value"] (C8.fnScope st_check_run) := C8.fnScope_by (by decide +kernel)
theorem c_check_run {P : Program} {w : World} {K : PySem.W.Frag} {mg : Str → Option Value} {base : Heap} (T : Txt K mg) (c_is_run : C8.Cal P w K mg base 4 "is_run" (sp_is_run K) []) : C8.Cal P w K mg base 5 "check_run" (sp_check_run K) [] := by
  obtain ⟨f, fd, Fd, df⟩ := T.d_check_run
  refine C8.cal0 Fd (Fd.fn.binds df (ps := ["pair", "value"]) (fun _ _ _ _ _ _ us hl => match us, hl with | [_, _], _ => rfl)) .nil sc_check_run len_check_run fun cdv A outer s H vs Q E hr hsp => ?_
  have hu := hu_of hr
  have nd := (sc_check_run).nd
  refine ⟨_, (pss_one (ps_if (pt_not (pt_val (pe_c c_is_run hr (by decide) (by rfl) (pa_cons (pv 0) (pa_cons (pv 1) pa_nil)))))
   (pss_one ps_never)
   pss_nil)), ?_⟩
  obtain ⟨F, ds, d, e0, hd, ⟨a, b, r, va, vb, R, rfl, rfl⟩, q⟩ := hsp
  have S : Sta K F H [.dat (prD a b), .dat (.str (runS r))] [] F H (L2.start N_check_run vs) := Sta.begin 0 e0 hd
  have so := S.so
  exact st_if S (et_not (et_B (ev_call (ea_cons (ev_var so rfl) (ea_cons (ev_var so rfl) ea_nil)) ⟨a, b, r, va, vb, R, rfl, rfl⟩))) (fun h => nomatch h) (fun _ F1 H1 S1 => q .non F1 H1 S1.gr .non)
end TT
/-! D_winners -/
namespace TT
open PySem PySem.Spec PyProof.Rows L2 C8
def sp_winners (K : PySem.W.Frag) : Sp := SpF K fun ds d => ∃ (a b : Th) (r : List Bool), Vd a ∧ Vd b ∧ RunB a b r ∧ ds = [prD a b, .str (runS r)] ∧ d = .str (runS (winL (cons a b) r))
theorem len_winners {K : PySem.W.Frag} : ∀ vs H Q E, sp_winners K vs H Q E → vs.length = 2 := spF_len (by rintro _ _ ⟨a, b, r, _, _, _, rfl, _⟩; rfl)
abbrev N_winners : List Str := ["pair", "run"]
theorem sc_winners : FnScope N_winners ["pair", "run"] (C8.fnScope st_winners) := C8.fnScope_by (by decide +kernel)
theorem c_winners {P : Program} {w : World} {K : PySem.W.Frag} {mg : Str → Option Value} {base : Heap} (T : Txt K mg) (c_winners_of : C8.Cal P w K mg base 2 "winners_of" (sp_winners_of K) []) (c_contests : C8.Cal P w K mg base 3 "contests" (sp_contests K) []) (c_check_run : C8.Cal P w K mg base 5 "check_run" (sp_check_run K) []) : C8.Cal P w K mg base 6 "winners" (sp_winners K) [] := by
  obtain ⟨f, fd, Fd, df⟩ := T.d_winners
  refine C8.cal0 Fd (Fd.fn.binds df (ps := ["pair", "run"]) (fun _ _ _ _ _ _ us hl => match us, hl with | [_, _], _ => rfl)) .nil sc_winners len_winners fun cdv A outer s H vs Q E hr hsp => ?_
  have hu := hu_of hr
  have nd := (sc_winners).nd
  refine ⟨_, (pss_cons (ps_expr (pe_c c_check_run hr (by decide) (by rfl) (pa_cons (pv 0) (pa_cons (pv 1) pa_nil))))
  (pss_one (ps_ret (pe_c c_winners_of hr (by decide) (by rfl) (pa_cons (pe_c c_contests hr (by decide) (by rfl) (pa_cons (pv 0) pa_nil)) (pa_cons (pv 1) pa_nil)))))), ?_⟩
  obtain ⟨F, ds, d, e0, hd, ⟨a, b, r, va, vb, R, rfl, rfl⟩, q⟩ := hsp
  have S : Sta K F H [.dat (prD a b), .dat (.str (runS r))] [] F H (L2.start N_winners vs) := Sta.begin 0 e0 hd
  have so := S.so
  refine st_expr S (ev_call (ea_cons (ev_var so rfl) (ea_cons (ev_var so rfl) ea_nil)) ⟨a, b, r, va, vb, R, rfl, rfl⟩) fun F1 H1 S1 => ?_
  have so := S1.so
  refine st_ret S1 (ev_call (ea_cons (ev_call (ea_cons (ev_var so rfl) ea_nil) ⟨a, b, va, vb, rfl, rfl⟩) (ea_cons (ev_var so rfl) ea_nil)) ⟨a, b, r, va, vb, R, rfl, rfl⟩) q
end TT
/-! D_alike -/
namespace TT
open PySem PySem.Spec PyProof.Rows L2 C8
def sp_alike (K : PySem.W.Frag) : Sp := SpF K fun ds d => ∃ (a b : Th) (r s : List Bool), Vd a ∧ Vd b ∧ RunB a b r ∧ RunB a b s ∧ ds = [prD a b, .str (runS r), .str (runS s)] ∧ d = .bool (decide (winL (cons a b) r = winL (cons a b) s))
theorem len_alike {K : PySem.W.Frag} : ∀ vs H Q E, sp_alike K vs H Q E → vs.length = 3 := spF_len (by rintro _ _ ⟨a, b, r, s, _, _, _, _, rfl, _⟩; rfl)
abbrev N_alike : List Str := ["pair", "run", "other"]
theorem sc_alike : FnScope N_alike ["pair", "run", "other"] (C8.fnScope st_alike) := C8.fnScope_by (by decide +kernel)
theorem c_alike {P : Program} {w : World} {K : PySem.W.Frag} {mg : Str → Option Value} {base : Heap} (T : Txt K mg) (c_winners : C8.Cal P w K mg base 6 "winners" (sp_winners K) []) : C8.Cal P w K mg base 7 "alike" (sp_alike K) [] := by
  obtain ⟨f, fd, Fd, df⟩ := T.d_alike
  refine C8.cal0 Fd (Fd.fn.binds df (ps := ["pair", "run", "other"]) (fun _ _ _ _ _ _ us hl => match us, hl with | [_, _, _], _ => rfl)) .nil sc_alike len_alike fun cdv A outer s H vs Q E hr hsp => ?_
  have hu := hu_of hr
  have nd := (sc_alike).nd
  refine ⟨_, (pss_one (ps_ret (pe_cmpR op_eq (pe_c c_winners hr (by decide) (by rfl) (pa_cons (pv 0) (pa_cons (pv 1) pa_nil))) (pe_c c_winners hr (by decide) (by rfl) (pa_cons (pv 0) (pa_cons (pv 2) pa_nil))) (nomark _)))), ?_⟩
  obtain ⟨F, ds, d, e0, hd, ⟨a, b, r, s, va, vb, R, R', rfl, rfl⟩, q⟩ := hsp
  have S : Sta K F H [.dat (prD a b), .dat (.str (runS r)), .dat (.str (runS s))] [] F H (L2.start N_alike vs) := Sta.begin 0 e0 hd
  have so := S.so
  refine st_ret S (EvD.eq (ev_op (ev_call (ea_cons (ev_var so rfl) (ea_cons (ev_var so rfl) ea_nil)) ⟨a, b, r, va, vb, R, rfl, rfl⟩) (ev_call (ea_cons (ev_var so rfl) (ea_cons (ev_var so rfl) ea_nil)) ⟨a, b, s, va, vb, R', rfl, rfl⟩) r2_eqS) ?_) q
  congr 1
  rw [decide_eq_decide]
  exact ⟨runS_inj, congrArg runS⟩
end TT
/-! D__law_draw -/
namespace TT
open PySem PySem.Spec PyProof.Rows L2 C8
def sp__law_draw (K : PySem.W.Frag) : Sp := SpS K 1 fun ds A => ∃ lim : Nat, 0 < lim ∧ lim ≤ 100000 ∧ ds = [.int (lim : Nat)] ∧ A = fun d => ∃ r : Nat, r < lim ∧ d = .int (r : Nat)
theorem len__law_draw {K : PySem.W.Frag} : ∀ vs H Q E, sp__law_draw K vs H Q E → vs.length = 2 := spS_len (by rintro _ _ ⟨a, _, _, rfl, _⟩; rfl)
theorem fmod_lt {x m : Int} (h : 0 < m) : 0 ≤ x.fmod m ∧ x.fmod m < m := ⟨Int.fmod_nonneg_of_pos x h, Int.fmod_lt_of_pos x h⟩
theorem fmod_nat {x : Int} {m : Nat} (h : 0 < m) : ∃ r : Nat, r < m ∧ x.fmod (m : Int) = (r : Nat) := by
  obtain ⟨h1, h2⟩ := fmod_lt (x := x) (m := (m : Int)) (by omega)
  exact ⟨(x.fmod m).toNat, by omega, by omega⟩
theorem prime_at {k : Nat} (h : k < 7) : ∃ p : Int, ([2147483647, 2147483629, 2147483587, 2147483579, 2147483563, 2147483549, 2147483543] : List Int)[k]? = some p ∧ 2147483543 ≤ p ∧ p ≤ 2147483647 := by
  match k, h with
  | 0, _ => exact ⟨_, rfl, by decide, by decide⟩
  | 1, _ => exact ⟨_, rfl, by decide, by decide⟩
  | 2, _ => exact ⟨_, rfl, by decide, by decide⟩
  | 3, _ => exact ⟨_, rfl, by decide, by decide⟩
  | 4, _ => exact ⟨_, rfl, by decide, by decide⟩
  | 5, _ => exact ⟨_, rfl, by decide, by decide⟩
  | 6, _ => exact ⟨_, rfl, by decide, by decide⟩
abbrev N__law_draw : List Str := ["_law_source", "_law_limit", "_law_digit", "_law_prime", "_law_mixed"]
theorem sc__law_draw : FnScope N__law_draw ["_law_source", "_law_limit"] (C8.fnScope st__law_draw) := C8.fnScope_by (by decide +kernel)
theorem c__law_draw {P : Program} {w : World} {K : PySem.W.Frag} {mg : Str → Option Value} {base : Heap} (T : Txt K mg) : C8.Cal P w K mg base 1 "_law_draw" (sp__law_draw K) [] := by
  obtain ⟨f, fd, Fd, df⟩ := T.d__law_draw
  refine C8.cal0 Fd (Fd.fn.binds df (ps := ["_law_source", "_law_limit"]) (fun _ _ _ _ _ _ us hl => match us, hl with | [_, _], _ => rfl)) .nil sc__law_draw len__law_draw fun cdv A outer s H vs Q E hr hsp => ?_
  have hu := hu_of hr
  have nd := (sc__law_draw).nd
  refine ⟨_, (C8.pss_cut (ps_if (pt_cmpR op_gt (pe_ix (kix_list (K := K) (by rfl)) (pv 0) pe_int (fun _ _ => rfl)) pe_int (nomark _))
   (pss_cons (ps_set (i := 2) nd (by rfl) (by first | exact Or.inl rfl | exact Or.inr rfl) (pe_op op_modN (pe_ix (kix_list (K := K) (by rfl)) (pv 0) pe_int (fun _ _ => rfl)) (pv 1)))
  (pss_cons (ps_asg (pe_op op_fdivN (pe_ix (kix_list (K := K) (by rfl)) (pv 0) pe_int (fun _ _ => rfl)) (pv 1)) (pg_sub (pv 0) pe_int set_list))
  (pss_one (ps_ret (pv 2)))))
   pss_nil)
  (pss_cons (ps_asg (pe_op op_add (pe_ix (kix_list (K := K) (by rfl)) (pv 0) pe_int (fun _ _ => rfl)) pe_int) (pg_sub (pv 0) pe_int set_list))
  (pss_cons (ps_set (i := 3) nd (by rfl) (by first | exact Or.inl rfl | exact Or.inr rfl) (pe_ix (kix_list (K := K) (by rfl)) (pe_lst (pa_cons pe_int (pa_cons pe_int (pa_cons pe_int (pa_cons pe_int (pa_cons pe_int (pa_cons pe_int (pa_cons pe_int pa_nil)))))))) (pe_op op_modN (pe_ix (kix_list (K := K) (by rfl)) (pv 0) pe_int (fun _ _ => rfl)) pe_int) (fun _ _ => rfl)))
  (pss_cons (ps_set (i := 4) nd (by rfl) (by first | exact Or.inl rfl | exact Or.inr rfl) (pe_op op_modN (pe_op op_pow (pe_op op_add (pe_op op_add (pe_ix (kix_list (K := K) (by rfl)) (pv 0) pe_int (fun _ _ => rfl)) (pe_op op_mul (pe_op op_mul pe_int (pe_ix (kix_list (K := K) (by rfl)) (pv 0) pe_int (fun _ _ => rfl))) (pe_ix (kix_list (K := K) (by rfl)) (pv 0) pe_int (fun _ _ => rfl)))) pe_int) pe_int) (pv 3)))
  (pss_one (ps_ret (pe_op op_modN (pe_op op_fdivN (pe_op op_modN (pe_op op_mul (pv 4) (pe_op op_add (pe_op op_modN (pv 4) pe_int) (pe_op op_mul pe_int (pe_ix (kix_list (K := K) (by rfl)) (pv 0) pe_int (fun _ _ => rfl))))) pe_int) pe_int) (pv 1)))))))), ?_⟩
  obtain ⟨F, a, c, us, ds, A, rfl, e0, m0, hc, ks, ⟨lim, hl0, hl1, rfl, rfl⟩, q⟩ := hsp
  have S : Sta K F (del H a) [.val (.ref a), .dat (.int (lim : Nat)), .un, .un, .un] [.src a c] F H (L2.start N__law_draw (.ref a :: us)) := Sta.beginS 3 e0 m0 ks
  obtain ⟨l, g, n, hl, hg, hg2, hn, hn2, S⟩ := S.srcLst
  have hlim : (0 : Int) < (lim : Nat) := by omega
  refine st_cut S (fun es ms => es = [.val (.ref a), .dat (.int (lim : Nat)), .un, .un, .un] ∧ ms = [.lst a [.int l, .int g, .int n]]) ?_ ?_
  · have sop := (S.so.ex S.ex).pk S.ex (S.m (j := 0) rfl) (i := 0) rfl
    refine st_if S (et_peek (et_test (ev_op (ev_op (ev_var sop rfl) (ev_int _) (r2_ixL rfl)) (ev_int _) r2_B0))) (fun hb F1 H1 S1 => ?_) (fun hb F1 H1 S1 => NX.of S1 ⟨rfl, rfl⟩)
    have sop := (S1.so.ex S1.ex).pk S1.ex (S1.m (j := 0) rfl) (i := 0) rfl
    refine st_set S1 (ev_peek (ev_op (ev_op (ev_var sop rfl) (ev_int _) (r2_ixL rfl)) (ev_var sop rfl) (r2_I (by omega)))) fun F2 H2 σ2 S2 => ?_
    have sop := (S2.so.ex S2.ex).pk S2.ex (S2.m (j := 0) rfl) (i := 0) rfl
    refine st_setIx (k := 0) (j := 0) S2 (ev_peek (ev_op (ev_op (ev_var sop rfl) (ev_int _) (r2_ixL rfl)) (ev_var sop rfl) (r2_I ⟨by omega, by omega⟩))) rfl rfl (by show 0 < 3; decide) fun F3 H3 S3 => ?_
    have so := S3.so
    obtain ⟨r, hr, er⟩ := fmod_nat (x := l) hl0
    refine st_ret2 S3 (ev_var so rfl) fun v F' H' kv S4 => ?_
    exact q v _ F' H' (c + 1) S4.gr (src_of (S4.m (j := 0) rfl) (Int.fdiv_nonneg hl (by omega)) hg hg2 hn (by omega)) (Nat.le_refl _) ⟨r, hr, congrArg PyData.int er⟩ kv
  · rintro es ms F1 H1 σ1 ⟨rfl, rfl⟩ S1
    have sop := (S1.so.ex S1.ex).pk S1.ex (S1.m (j := 0) rfl) (i := 0) rfl
    refine st_setIx (k := 2) (j := 0) S1 (ev_peek (ev_op (ev_op (ev_var sop rfl) (ev_int _) (r2_ixL rfl)) (ev_int _) r2_I0)) rfl rfl (by show 2 < 3; decide) fun F2 H2 S2 => ?_
    have S2 : Sta K F (del H a) [.val (.ref a), .dat (.int (lim : Nat)), .un, .un, .un] [.lst a [.int l, .int g, .int (n + 1)]] F2 H2 σ1 := S2
    have sop := (S2.so.ex S2.ex).pk S2.ex (S2.m (j := 0) rfl) (i := 0) rfl
    obtain ⟨k, hk, ek⟩ := fmod_nat (x := n + 1) (m := 7) (by decide)
    obtain ⟨p, hp, p1, p2⟩ := prime_at hk
    have ap : atI (([2147483647, 2147483629, 2147483587, 2147483579, 2147483563, 2147483549, 2147483543] : List Int).map PyData.int) ((n + 1).fmod 7) = some (.int p) := by
      rw [show (7 : Int) = ((7 : Nat) : Int) from rfl, ek]
      exact atI_nat (by rw [List.getElem?_map, hp]; rfl)
    refine st_set S2 (ev_peek (ev_op (ev_lst (ea_cons (ev_int _) (ea_cons (ev_int _) (ea_cons (ev_int _) (ea_cons (ev_int _) (ea_cons (ev_int _) (ea_cons (ev_int _) (ea_cons (ev_int _) ea_nil)))))))) (ev_op (ev_op (ev_var sop rfl) (ev_int _) (r2_ixL rfl)) (ev_int _) (r2_I (by decide))) (r2_ixL ap))) fun F3 H3 σ3 S3 => ?_
    have sop := (S3.so.ex S3.ex).pk S3.ex (S3.m (j := 0) rfl) (i := 0) rfl
    have b1 : (0 : Int) ≤ n + 1 ∧ n + 1 ≤ 100000 := by omega
    have b2 : (0 : Int) ≤ 6700417 * (n + 1) ∧ 6700417 * (n + 1) ≤ 670041700000 := by omega
    have b3 : (0 : Int) ≤ 6700417 * (n + 1) * (n + 1) ∧ 6700417 * (n + 1) * (n + 1) ≤ 67004170000000000 := ⟨Int.mul_nonneg b2.1 b1.1, Int.le_trans (Int.mul_le_mul b2.2 b1.2 b1.1 (by decide)) (by decide)⟩
    refine st_set S3 (ev_peek (ev_op (ev_op (ev_op (ev_op (ev_op (ev_var sop rfl) (ev_int _) (r2_ixL rfl)) (ev_op (ev_op (ev_int _) (ev_op (ev_var sop rfl) (ev_int _) (r2_ixL rfl)) (r2_I (.inl ⟨by decide, by decide⟩))) (ev_op (ev_var sop rfl) (ev_int _) (r2_ixL rfl)) (r2_I (.inl ⟨by omega, by omega⟩))) r2_I0) (ev_int _) r2_I0) (ev_int _) (r2_I ⟨by decide, by decide, by omega⟩)) (ev_var sop rfl) (r2_I (by omega)))) fun F4 H4 σ4 S4 => ?_
    obtain ⟨m1, m2⟩ := fmod_lt (x := (g + 6700417 * (n + 1) * (n + 1) + 19) ^ (3 : Int).toNat) (m := p) (by omega)
    generalize ((g + 6700417 * (n + 1) * (n + 1) + 19) ^ (3 : Int).toNat).fmod p = mx at m1 m2 S4
    have sop := (S4.so.ex S4.ex).pk S4.ex (S4.m (j := 0) rfl) (i := 0) rfl
    obtain ⟨k1, k2⟩ := fmod_lt (x := mx) (m := 10007) (by decide)
    obtain ⟨r, hr, er⟩ := fmod_nat (x := ((mx * (mx.fmod 10007 + 89 * (n + 1))).fmod 2305843009213693921).fdiv 89) hl0
    refine st_ret2 S4 (ev_peek (ev_op (ev_op (ev_op (ev_op (ev_var sop rfl) (ev_op (ev_op (ev_var sop rfl) (ev_int _) (r2_I (by decide))) (ev_op (ev_int _) (ev_op (ev_var sop rfl) (ev_int _) (r2_ixL rfl)) (r2_I (.inl ⟨by decide, by decide⟩))) r2_I0) (r2_I (.inl ⟨by omega, by omega⟩))) (ev_int _) (r2_I (by decide))) (ev_int _) (r2_I ⟨by decide, by decide⟩)) (ev_var sop rfl) (r2_I (by omega)))) fun v F' H' kv S5 => ?_
    exact q v _ F' H' (c + 1) S5.gr (src_of (S5.m (j := 0) rfl) hl hg hg2 (by omega) (by omega)) (Nat.le_refl _) ⟨r, hr, congrArg PyData.int er⟩ kv
end TT
/-! D__law_choice -/
namespace TT
open PySem PySem.Spec PyProof.Rows L2 C8
def sp__law_choice (K : PySem.W.Frag) : Sp := SpS K 1 fun ds A => ∃ xs : List D, 0 < xs.length ∧ xs.length ≤ 100000 ∧ ds = [.list xs] ∧ A = fun d => d ∈ xs
theorem len__law_choice {K : PySem.W.Frag} : ∀ vs H Q E, sp__law_choice K vs H Q E → vs.length = 2 := spS_len (by rintro _ _ ⟨a, _, _, rfl, _⟩; rfl)
abbrev N__law_choice : List Str := ["_law_source", "_law_items"]
theorem sc__law_choice : FnScope N__law_choice ["_law_source", "_law_items"] (C8.fnScope st__law_choice) := C8.fnScope_by (by decide +kernel)
theorem c__law_choice {P : Program} {w : World} {K : PySem.W.Frag} {mg : Str → Option Value} {base : Heap} (T : Txt K mg) (c__law_draw : C8.Cal P w K mg base 1 "_law_draw" (sp__law_draw K) []) : C8.Cal P w K mg base 2 "_law_choice" (sp__law_choice K) [] := by
  obtain ⟨f, fd, Fd, df⟩ := T.d__law_choice
  refine C8.cal0 Fd (Fd.fn.binds df (ps := ["_law_source", "_law_items"]) (fun _ _ _ _ _ _ us hl => match us, hl with | [_, _], _ => rfl)) .nil sc__law_choice len__law_choice fun cdv A outer s H vs Q E hr hsp => ?_
  have hu := hu_of hr
  have nd := (sc__law_choice).nd
  refine ⟨_, (pss_one (ps_ret (pe_ix (kix_list (K := K) (by rfl)) (pv 1) (pe_c c__law_draw hr (by decide) (by rfl) (pa_cons (pv 0) (pa_cons (pe_callB (kc_len (K := K) (by rfl)) (by rfl) T.b_len (by decide +kernel) (pa_cons (pv 1) pa_nil)) pa_nil))) (fun _ _ => rfl)))), ?_⟩
  obtain ⟨F, a, c, us, ds, A, rfl, e0, m0, hc, ks, ⟨xs, hl0, hl1, rfl, rfl⟩, q⟩ := hsp
  have S : Sta K F (del H a) [.val (.ref a), .dat (.list xs)] [.src a c] F H (L2.start N__law_choice (.ref a :: us)) := Sta.beginS 0 e0 m0 ks
  have so := S.so
  refine stS_ret (n := 0 + (0 + 0 + 1)) S (j := 0) rfl (by omega) (es_op (A3 := fun d => d ∈ xs) (es_D (ev_var so rfl)) (es_call (A := fun d => ∃ r : Nat, r < xs.length ∧ d = .int (r : Nat)) (ev_val so rfl) (esa_cons (es_D (ev_cb (ea_cons (ev_var so rfl) ea_nil) rc_lenL)) esa_nil) ?_) ?_) fun v d F' H' c' hc' hd kv S' => q v d F' H' c' S'.gr (S'.m (j := 0) rfl) (by omega) hd kv
  · rintro ds ⟨d, r, rfl, rfl, rfl⟩
    exact ⟨_, ⟨xs.length, hl0, hl1, rfl, rfl⟩, fun d h => h⟩
  · rintro x y F1 H1 rfl ⟨r, hr, rfl⟩
    exact ⟨xs[r], List.getElem_mem hr, r2_ixL (atI_nat (List.getElem?_eq_getElem hr))⟩
end TT
/-! D__law_winners -/
namespace TT
open PySem PySem.Spec PyProof.Rows L2 C8
def sp__law_winners (K : PySem.W.Frag) : Sp := SpF K fun ds d => ∃ (a b : Th) (r : List Bool), Vd a ∧ Vd b ∧ RunB a b r ∧ ds = [prD a b, .str (runS r)] ∧ d = .str (runS (winL (cons a b) r))
theorem len__law_winners {K : PySem.W.Frag} : ∀ vs H Q E, sp__law_winners K vs H Q E → vs.length = 2 := spF_len (by rintro _ _ ⟨a, b, r, _, _, _, rfl, _⟩; rfl)
theorem win_at2 {a b : Th} {r : List Bool} (va : Vd a) (vb : Vd b) (R : RunB a b r) {c : Ct} (hc : c ∈ cons a b) : ∃ p q, (pl true r)[c.ae]? = some p ∧ (pl false r)[c.bb]? = some q ∧ decide (p < q) = TM.win r (tri c) := by
  obtain ⟨p, q, h1, h2, _⟩ := win_at va vb R hc
  exact ⟨p, q, h1, h2, (pl_bef h1 h2).2.symm⟩
abbrev N__law_winners : List Str := ["_law_pair_here", "_law_run", "_law_places", "_law_found", "_law_contest", "_law_one", "_law_at", "_law_letter"]
theorem sc__law_winners : FnScope N__law_winners ["_law_pair_here", "_law_run"] (C8.fnScope st__law_winners) := C8.fnScope_by (by decide +kernel)
theorem c__law_winners {P : Program} {w : World} {K : PySem.W.Frag} {mg : Str → Option Value} {base : Heap} (T : Txt K mg) (c__law_contests : C8.Cal P w K mg base 2 "_law_contests" (sp__law_contests K) []) : C8.Cal P w K mg base 3 "_law_winners" (sp__law_winners K) [] := by
  obtain ⟨f, fd, Fd, df⟩ := T.d__law_winners
  refine C8.cal0 Fd (Fd.fn.binds df (ps := ["_law_pair_here", "_law_run"]) (fun _ _ _ _ _ _ us hl => match us, hl with | [_, _], _ => rfl)) .nil sc__law_winners len__law_winners fun cdv A outer s H vs Q E hr hsp => ?_
  have hu := hu_of hr
  have nd := (sc__law_winners).nd
  refine ⟨_, (pss_cons (ps_setLc (i := 2) (own := [("_law_one", 5)]) (by rfl) nd (by rfl) (by rfl) (sw_true rfl rfl rfl (by decide +kernel)) (pi_str pe_str) (blkOk_by (by kernel_rfl)) (fun _ _ _ _ _ => (pg_name (i := 5) nd (by rfl) (by first | exact Or.inl rfl | exact Or.inr rfl))) (fun _ _ _ _ _ => pts_nil) (fun _ _ _ _ _ => (pe_lc (own := [("_law_at", 6), ("_law_letter", 7)]) (by rfl) nd (pi_enumS (by rfl) (by rfl) T.b_enumerate (pa_cons (pv 1) pa_nil)) (blkOk_by (by kernel_rfl)) (fun _ _ _ _ _ => (kpg_tup (K := K) (n := 2) (by rfl) (by rfl) (pgs_cons (pg_name (i := 6) nd (by rfl) (by first | exact Or.inl rfl | exact Or.inr rfl)) (pgs_cons (pg_name (i := 7) nd (by rfl) (by first | exact Or.inl rfl | exact Or.inr rfl)) pgs_nil)))) (fun _ _ _ _ _ => (pts_one (pt_cmpR op_eq (pv 7) (pv 5) (nomark _)))) (fun _ _ _ _ _ => (pv 6)))))
  (pss_cons (ps_set (i := 3) nd (by rfl) (by first | exact Or.inl rfl | exact Or.inr rfl) pe_str)
  (pss_cons (ps_for PassesOwn.never rfl (kpi_list (K := K) (by rfl) (pe_c c__law_contests hr (by decide) (by rfl) (pa_cons (pv 0) pa_nil))) (pg_name (i := 4) nd (by rfl) (by first | exact Or.inl rfl | exact Or.inr rfl))
   (pss_one (ps_set (i := 3) nd (by rfl) (by first | exact Or.inl rfl | exact Or.inr rfl) (pe_op op_add_str (pv 3) (pe_ifExp (pt_cmpR op_lt (pe_ix (kix_list (K := K) (by rfl)) (pe_ix (kix_list (K := K) (by rfl)) (pv 2) pe_int (fun _ _ => rfl)) (pe_ix (kix_tup (K := K) (by rfl)) (pv 4) pe_int (fun _ _ => rfl)) (fun _ _ => rfl)) (pe_ix (kix_list (K := K) (by rfl)) (pe_ix (kix_list (K := K) (by rfl)) (pv 2) pe_int (fun _ _ => rfl)) (pe_ix (kix_tup (K := K) (by rfl)) (pv 4) pe_int (fun _ _ => rfl)) (fun _ _ => rfl)) (nomark _)) pe_str pe_str)))))
  (pss_one (ps_ret (pv 3)))))), ?_⟩
  obtain ⟨F, ds, d, e0, hd, ⟨a, b, r, va, vb, R, rfl, rfl⟩, q⟩ := hsp
  obtain ⟨hl, hl2⟩ := runB_len va vb R
  have hcl := cons_len (a := a) (b := b) (Nat.le_trans va.len (by decide)) (Nat.le_trans vb.len (by decide))
  have S : Sta K F H [.dat (prD a b), .dat (.str (runS r)), .un, .un, .un, .un, .un, .un] [] F H (L2.start N__law_winners vs) := Sta.begin 6 e0 hd
  have so := S.so
  refine st_set S (EvN.toD (en_lcA0 [true, false] (fun x => .str (chr (cd x))) so (it_str (ev_str "ab")) signs_ab (fun x => .list (inD (pl x r))) _ (by show 2 < 100000; decide) (fun _ _ => tg_name) (by decide) fun x _ F1 H1 σ2 g2 so2 => ?cmp)) fun F1 H1 σ1 S1 => ?_
  case cmp =>
    refine EvD.eq (EvN.toD (en_lcA r.zipIdx (fun p => .tuple [.int (p.2 : Nat), .str (chr (cd p.1))]) so2 (it_enumS (ea_cons (ev_var so2 rfl) ea_nil)) (by rw [runS_signs]; exact enumD_map r _) (fun p => decide (p.1 = x)) (fun p => .int (p.2 : Nat)) _ (by rw [List.length_zipIdx]; omega) (fun _ _ => (tg_tup (tgs_cons tg_name (tgs_cons tg_name tgs_nil)))) (by decide) (fun p _ F3 H3 σ4 g4 so4 => EvT.eq (et_test (ev_op (ev_var so4 rfl) (ev_var so4 rfl) r2_eqS)) (chr_eq _ _)) (fun p _ _ F3 H3 σ4 g4 so4 => (ev_var so4 rfl)))) ?_
    simp [pl, inD]
  have S1 : Sta K F H [.dat (prD a b), .dat (.str (runS r)), .dat (.list [.list (inD (pl true r)), .list (inD (pl false r))]), .un, .un, .un, .un, .un] [] F1 H1 σ1 := S1
  dsimp only
  refine st_set S1 (ev_str "") fun F2 H2 σ2 S2 => ?_
  have so := S2.so
  have e0' : ("" : Str) = runS [] := by decide +kernel
  refine for_A (cons a b) ctD S2 (it_list (EvN.toD (en_call (ea_cons (ev_var so rfl) ea_nil) ⟨a, b, va, vb, rfl, rfl⟩))) rfl
    (fun i es ms => es = [.dat (prD a b), .dat (.str (runS r)), .dat (.list [.list (inD (pl true r)), .list (inD (pl false r))]), .dat (.str (runS ((winL (cons a b) r).take i))), .un, .un, .un, .un] ∧ ms = []) ⟨by rw [e0']; rfl, rfl⟩ ?_ ?_
  · rintro Fb Bb gb i c es ms F3 H3 σ3 hi ⟨rfl, rfl⟩ S3
    refine ⟨_, _, tg_name, fun σ4 S4 => ?_⟩
    have so := S4.so
    obtain ⟨p, q', hp, hq, e⟩ := win_at2 va vb R (List.mem_of_getElem? hi)
    have ap : atI (inD (pl true r)) ((c.ae : Nat) : Int) = some (.int (p : Nat)) := atI_nat (by rw [List.getElem?_map, hp]; rfl)
    have aq : atI (inD (pl false r)) ((c.bb : Nat) : Int) = some (.int (q' : Nat)) := atI_nat (by rw [List.getElem?_map, hq]; rfl)
    have a0 : atI [PyData.list (inD (pl true r)), .list (inD (pl false r))] (0 : Int) = some (.list (inD (pl true r))) := rfl
    have a1 : atI [PyData.list (inD (pl true r)), .list (inD (pl false r))] (1 : Int) = some (.list (inD (pl false r))) := rfl
    refine st_set S4 (ev_op (ev_var so rfl) (ev_if (d := .str (runS [TM.win r (tri c)])) (b := TM.win r (tri c)) (EvT.eq (et_test (ev_op (ev_op (ev_op (ev_var so rfl) (ev_int _) (r2_ixL a0)) (ev_op (ev_var so rfl) (ev_int _) (r2_ixT rfl)) (r2_ixL ap)) (ev_op (ev_op (ev_var so rfl) (ev_int _) (r2_ixL a1)) (ev_op (ev_var so rfl) (ev_int _) (r2_ixT rfl)) (r2_ixL aq)) r2_B0)) ?tq)
      (fun h => EvD.eq (ev_str _) (by rw [h]; exact congrArg PyData.str (by decide +kernel))) (fun h => EvD.eq (ev_str _) (by rw [h]; exact congrArg PyData.str (by decide +kernel)))) (r2_addS (by rw [runS_len, runS_len, List.length_take]; have : (winL (cons a b) r).length = (cons a b).length := List.length_map _; simp; omega))) fun F5 H5 σ5 S5 => ?_
    case tq =>
      rw [← e]
      by_cases h : p < q'
      · simp [h]
      · simp [h]
    have tk : (winL (cons a b) r).take (i + 1) = (winL (cons a b) r).take i ++ [TM.win r (tri c)] := by
      rw [List.take_add_one]
      unfold winL
      rw [List.getElem?_map, hi]
      rfl
    refine NX.of (S5.weak (es' := [.dat (prD a b), .dat (.str (runS r)), .dat (.list [.list (inD (pl true r)), .list (inD (pl false r))]), .dat (.str (runS ((winL (cons a b) r).take (i + 1)))), .un, .un, .un, .un]) ?_) ⟨rfl, rfl⟩
    refine .cons rfl (.cons rfl (.cons rfl (.cons ?_ (.cons trivial (.cons trivial (.cons trivial (.cons trivial .nil)))))))
    rw [tk, ← runS_app]
    rfl
  · rintro es ms F3 H3 σ3 ⟨rfl, rfl⟩ S3
    have so := S3.so
    have el : (winL (cons a b) r).take (cons a b).length = winL (cons a b) r := List.take_of_length_le (by unfold winL; rw [List.length_map]; exact Nat.le_refl _)
    refine st_ret S3 (EvD.eq (ev_var so rfl) (by rw [el])) fun v F' H' g k => q v F' H' g k
end TT
/-! D__law_kept -/
namespace TT
open PySem PySem.Spec PyProof.Rows L2 C8
def sp__law_kept (K : PySem.W.Frag) : Sp := SpM K fun ds P => ∃ (t : Th) (i : Nat), Vd t ∧ i ≤ t.length ∧ ds = [thD t, .int (i : Nat)] ∧ P = fun mk => mk = fun p => .dsv p (hsAt t i)
theorem len__law_kept {K : PySem.W.Frag} : ∀ vs H Q E, sp__law_kept K vs H Q E → vs.length = 2 := spM_len (by rintro _ _ ⟨a, _, _, _, rfl, _⟩; rfl)
abbrev N__law_kept : List Str := ["_law_thread_here", "_law_count", "_law_found", "_law_word", "_law_name"]
theorem sc__law_kept : FnScope N__law_kept ["_law_thread_here", "_law_count"] (C8.fnScope st__law_kept) := C8.fnScope_by (by decide +kernel)
theorem c__law_kept {P : Program} {w : World} {K : PySem.W.Frag} {mg : Str → Option Value} {base : Heap} (T : Txt K mg) : C8.Cal P w K mg base 1 "_law_kept" (sp__law_kept K) [] := by
  obtain ⟨f, fd, Fd, df⟩ := T.d__law_kept
  refine C8.cal0 Fd (Fd.fn.binds df (ps := ["_law_thread_here", "_law_count"]) (fun _ _ _ _ _ _ us hl => match us, hl with | [_, _], _ => rfl)) .nil sc__law_kept len__law_kept fun cdv A outer s H vs Q E hr hsp => ?_
  have hu := hu_of hr
  have nd := (sc__law_kept).nd
  refine ⟨_, (pss_cons (ps_set (i := 2) nd (by rfl) (by first | exact Or.inl rfl | exact Or.inr rfl) pe_dnewK)
  (pss_cons (ps_for PassesOwn.never rfl (kpi_tup (K := K) (by rfl) (pe_slice (ksl_tup (K := K) (by rfl)) (pv 0) po_none (po_some (pv 1)))) (kpg_tup (K := K) (n := 2) (by rfl) (by rfl) (pgs_cons (pg_name (i := 3) nd (by rfl) (by first | exact Or.inl rfl | exact Or.inr rfl)) (pgs_cons (pg_name (i := 4) nd (by rfl) (by first | exact Or.inl rfl | exact Or.inr rfl)) pgs_nil)))
   (C8.pss_cut (ps_if (pt_cmpR (kin (K := K) (by rfl)) (pv 3) (pe_tup (pa_cons pe_str (pa_cons pe_str pa_nil))) (by rfl))
   (pss_one (ps_dput hu (pv 2) (pv 4) (pv 3) rfl))
   pss_nil)
  (pss_one (ps_if (pt_cmpR op_eq (pv 3) pe_str (nomark _))
   (pss_one (ps_expr (pe_dpop1 (pv 2) (pv 4) ⟨rfl, rfl, rfl, rfl⟩)))
   pss_nil))))
  (pss_one (ps_ret (pv 2))))), ?_⟩
  obtain ⟨F, ds, P, e0, hd, ⟨t, n, vd, hn, rfl, rfl⟩, q⟩ := hsp
  have S : Sta K F H [.dat (thD t), .dat (.int (n : Nat)), .un, .un, .un] [] F H (L2.start N__law_kept vs) := Sta.begin 3 e0 hd
  have hz := vd.len
  refine st_setM S em_newSV fun pf F1 H1 σ1 S1 => ?_
  have so := S1.so
  have hl : (t.take n).length = n := by rw [List.length_take]; omega
  refine for_A (t.take n) stD S1 (it_tup (EvD.eq (ev_slT (ev_var so rfl) eo_none (eo_some (ev_var so rfl))) (by rw [cutA_take, List.map_take]))) rfl (fun i es ms => es = [.dat (thD t), .dat (.int (n : Nat)), .val (.ref pf), .un, .un] ∧ ∃ g : FS, ms = [.dsv pf g] ∧ (∀ m, g.1 m = held t i m) ∧ g.2 ≤ i) ⟨rfl, f0, rfl, fun _ => rfl, Nat.le_refl _⟩ ?_ ?_
  · rintro Fb Bb gb i ⟨w, m⟩ es ms F2 H2 σ2 ht' ⟨rfl, g, rfl, hg, hg2⟩ S2
    have ht : t[i]? = some (w, m) := by
      rw [List.getElem?_take] at ht'
      split at ht'
      · exact ht'
      · cases ht'
    have hil : i < t.length := (List.getElem?_eq_some_iff.mp ht).1
    refine ⟨_, _, (tg_tup (tgs_cons tg_name (tgs_cons tg_name tgs_nil))), fun σ3 S3 => ?_⟩
    refine st_cut S3 (fun es ms => es = [.dat (thD t), .dat (.int (n : Nat)), .val (.ref pf), .dat (.str w), .dat (.str m)] ∧ ms = [.dsv pf (hst1 g w m)]) ?_ ?_
    · have so := S3.so
      refine st_if S3 (et_test (ev_op (ev_var so rfl) (ev_tup (ea_cons (ev_str _) (ea_cons (ev_str _) ea_nil))) (r2_inT (ns := ["lock", "share"])))) (fun hb F5 H5 S5 => ?_) (fun hb F5 H5 S5 => ?_)
      · have so := S5.so
        refine st_dputV (j := 0) S5 (ev_var so rfl) rfl rfl (ev_var so rfl) (by omega) fun F6 H6 S6 => NX.of S6 ⟨rfl, ?_⟩
        rw [show hst1 g w m = fset g m w from if_pos hb]
        rfl
      · refine NX.of S5 ⟨rfl, ?_⟩
        rw [show hst1 g w m = g from if_neg (by rw [show isL w = false from hb]; exact Bool.false_ne_true)]
    · rintro es ms F5 H5 σ5 ⟨rfl, rfl⟩ S5
      have so := S5.so
      refine st_if S5 (et_test (ev_op (ev_var so rfl) (ev_str _) r2_eqS)) (fun hb F6 H6 S6 => ?_) (fun hb F6 H6 S6 => ?_)
      · have so := S6.so
        have hf : isF w = true := hb
        have h1 : hst1 g w m = g := if_neg (by rw [lf_not hf]; exact Bool.false_ne_true)
        obtain ⟨x, hx⟩ := Option.isSome_iff_exists.mp (vd.fr i w m ht hf)
        refine st_dpopV (j := 0) (w := x) S6 rfl rfl (ev_var so rfl) (by rw [h1, hg]; exact hx) fun F7 H7 S7 => ?_
        refine NX.of (S7.weak (es' := [.dat (thD t), .dat (.int (n : Nat)), .val (.ref pf), .un, .un]) (by repeat (first | exact .nil | refine .cons (by first | exact trivial | rfl) ?_))) ⟨rfl, hst2 (hst1 g w m) w m, ?_, fun k => (hst_ok ht g hg k).symm, Nat.le_trans (hst_len _ _ _) (by omega)⟩
        rw [show hst2 (hst1 g w m) w m = fdel (hst1 g w m) m from if_pos hf]
        rfl
      · refine NX.of (S6.weak (es' := [.dat (thD t), .dat (.int (n : Nat)), .val (.ref pf), .un, .un]) (by repeat (first | exact .nil | refine .cons (by first | exact trivial | rfl) ?_))) ⟨rfl, hst2 (hst1 g w m) w m, ?_, fun k => (hst_ok ht g hg k).symm, Nat.le_trans (hst_len _ _ _) (by omega)⟩
        rw [show hst2 (hst1 g w m) w m = hst1 g w m from if_neg (by rw [show isF w = false from hb]; exact Bool.false_ne_true)]
  · rintro es ms F2 H2 σ2 ⟨rfl, g, rfl, hg, hg2⟩ S2
    rw [hl] at hg hg2
    refine st_retO (j := 0) S2 rfl rfl rfl fun F' H' gr hp m => q _ pf F' H' rfl gr hp ?_
    obtain ⟨m1, kvs, m2, m3⟩ := m
    exact ⟨m1, kvs, m2, m3.weak (fun k => (hg k).symm) hg2⟩
end TT
/-! D__law_is_open -/
namespace TT
open PySem PySem.Spec PyProof.Rows L2 C8
def sp__law_is_open (K : PySem.W.Frag) : Sp := SpF K fun ds d => ∃ (a b : Th) (i j : Nat), Vd a ∧ Vd b ∧ i ≤ a.length ∧ j ≤ b.length ∧ ds = [prD a b, .tuple [.int (i : Nat), .int (j : Nat)]] ∧ d = .bool (openB (held a i) (held b j))
theorem len__law_is_open {K : PySem.W.Frag} : ∀ vs H Q E, sp__law_is_open K vs H Q E → vs.length = 2 := spF_len (by rintro _ _ ⟨a, b, i, j, _, _, _, _, rfl, _⟩; rfl)
abbrev N__law_is_open : List Str := ["_law_pair_here", "_law_state", "_law_one", "_law_other", "_law_name"]
theorem sc__law_is_open : FnScope N__law_is_open ["_law_pair_here", "_law_state"] (C8.fnScope st__law_is_open) := C8.fnScope_by (by decide +kernel)
theorem c__law_is_open {P : Program} {w : World} {K : PySem.W.Frag} {mg : Str → Option Value} {base : Heap} (T : Txt K mg) (c__law_kept : C8.Cal P w K mg base 1 "_law_kept" (sp__law_kept K) []) : C8.Cal P w K mg base 2 "_law_is_open" (sp__law_is_open K) [] := by
  obtain ⟨f, fd, Fd, df⟩ := T.d__law_is_open
  refine C8.cal0 Fd (Fd.fn.binds df (ps := ["_law_pair_here", "_law_state"]) (fun _ _ _ _ _ _ us hl => match us, hl with | [_, _], _ => rfl)) .nil sc__law_is_open len__law_is_open fun cdv A outer s H vs Q E hr hsp => ?_
  have hu := hu_of hr
  have nd := (sc__law_is_open).nd
  refine ⟨_, (pss_cons (ps_asg (pe_tup (pa_cons (pe_c c__law_kept hr (by decide) (by rfl) (pa_cons (pe_ix (kix_tup (K := K) (by rfl)) (pv 0) pe_int (fun _ _ => rfl)) (pa_cons (pe_ix (kix_tup (K := K) (by rfl)) (pv 1) pe_int (fun _ _ => rfl)) pa_nil))) (pa_cons (pe_c c__law_kept hr (by decide) (by rfl) (pa_cons (pe_ix (kix_tup (K := K) (by rfl)) (pv 0) pe_int (fun _ _ => rfl)) (pa_cons (pe_ix (kix_tup (K := K) (by rfl)) (pv 1) pe_int (fun _ _ => rfl)) pa_nil))) pa_nil))) (kpg_tup (K := K) (n := 2) (by rfl) (by rfl) (pgs_cons (pg_name (i := 2) nd (by rfl) (by first | exact Or.inl rfl | exact Or.inr rfl)) (pgs_cons (pg_name (i := 3) nd (by rfl) (by first | exact Or.inl rfl | exact Or.inr rfl)) pgs_nil))))
  (pss_one (ps_ret (pe_callB (kc_all (K := K) (by rfl) (by rfl)) (by rfl) T.b_all (by decide +kernel) (pa_cons (pe_lock (pe_lc (own := [("_law_name", 4)]) (by rfl) nd (pi_keys (pv 2)) (blkOk_by (by kernel_rfl)) (fun _ _ _ _ _ => (pg_name (i := 4) nd (by rfl) (by first | exact Or.inl rfl | exact Or.inr rfl))) (fun _ _ _ _ _ => (pts_one (pt_cmp (pc_din hu (pv 4) (pv 3))))) (fun _ _ _ _ _ => (pe_and (pe_cmpR op_eq (pe_dget hu (pv 2) (pv 4) (fun _ _ => rfl)) pe_str (nomark _)) (pe_one (pe_cmpR op_eq (pe_dget hu (pv 3) (pv 4) (fun _ _ => rfl)) pe_str (nomark _))))))) pa_nil))))), ?_⟩
  obtain ⟨F, ds, d, e0, hd, ⟨a, b, i, j, va, vb, hi, hj, rfl, rfl⟩, q⟩ := hsp
  have S : Sta K F H [.dat (prD a b), .dat (.tuple [.int (i : Nat), .int (j : Nat)]), .un, .un, .un] [] F H (L2.start N__law_is_open vs) := Sta.begin 3 e0 hd
  have so := S.so
  have hz := va.len
  refine st_parCRR (R := fun F v => FD F v (hsAt a i)) (R2 := fun F v => FD F v (hsAt b j)) S (fun F F' v e h => FD.ex e h) (fun F F' v e h => FD.ex e h) (er_dsv (f := hsAt a i) (ep_call (ea_cons (ev_op (ev_var so rfl) (ev_int _) (r2_ixT rfl)) (ea_cons (ev_op (ev_var so rfl) (ev_int _) (r2_ixT rfl)) ea_nil)) ⟨a, i, va, hi, rfl, rfl⟩) (fun mk h => h)) (er_dsv (f := hsAt b j) (ep_call (ea_cons (ev_op (ev_var so rfl) (ev_int _) (r2_ixT rfl)) (ea_cons (ev_op (ev_var so rfl) (ev_int _) (r2_ixT rfl)) ea_nil)) ⟨b, j, vb, hj, rfl, rfl⟩) (fun mk h => h)) fun F1 H1 σ1 S1 => ?_
  exact st_ret S1 (rd_open S1.so (by show i ≤ 1000; omega) rfl rfl rfl) q
end TT
/-! D__law_every_run -/
namespace TT
open PySem PySem.Spec PyProof.Rows L2 C8
def sp__law_every_run (K : PySem.W.Frag) : Sp := SpN K fun ds zs => ∃ a b : Th, Vd a ∧ Vd b ∧ ds = [prD a b] ∧ zs = (RL a b).map fun r => .str (runS r)
theorem len__law_every_run {K : PySem.W.Frag} : ∀ vs H Q E, sp__law_every_run K vs H Q E → vs.length = 1 := spN_len (by rintro _ _ ⟨a, b, _, _, rfl, _⟩; rfl)
abbrev N__law_every_run : List Str := ["_law_pair_here", "_law_found", "_law_turn", "_law_longer", "_law_text", "_law_i", "_law_j"]
theorem sc__law_every_run : FnScope N__law_every_run ["_law_pair_here"] (C8.fnScope st__law_every_run) := C8.fnScope_by (by decide +kernel)
theorem c__law_every_run {P : Program} {w : World} {K : PySem.W.Frag} {mg : Str → Option Value} {base : Heap} (T : Txt K mg) (c__law_is_open : C8.Cal P w K mg base 2 "_law_is_open" (sp__law_is_open K) []) : C8.Cal P w K mg base 3 "_law_every_run" (sp__law_every_run K) [] := by
  obtain ⟨f, fd, Fd, df⟩ := T.d__law_every_run
  refine C8.cal0 Fd (Fd.fn.binds df (ps := ["_law_pair_here"]) (fun _ _ _ _ _ _ us hl => match us, hl with | [_], _ => rfl)) .nil sc__law_every_run len__law_every_run fun cdv A outer s H vs Q E hr hsp => ?_
  have hu := hu_of hr
  have nd := (sc__law_every_run).nd
  refine ⟨_, (pss_cons (ps_set (i := 1) nd (by rfl) (by first | exact Or.inl rfl | exact Or.inr rfl) (pe_lst (pa_cons (pe_tup (pa_cons pe_str (pa_cons pe_int (pa_cons pe_int pa_nil)))) pa_nil)))
  (pss_cons (ps_for PassesOwn.never rfl (pi_range1 (by rfl) T.b_range (pa_cons (pe_op op_add (pe_callB (kc_len (K := K) (by rfl)) (by rfl) T.b_len (by decide +kernel) (pa_cons (pe_ix (kix_tup (K := K) (by rfl)) (pv 0) pe_int (fun _ _ => rfl)) pa_nil)) (pe_callB (kc_len (K := K) (by rfl)) (by rfl) T.b_len (by decide +kernel) (pa_cons (pe_ix (kix_tup (K := K) (by rfl)) (pv 0) pe_int (fun _ _ => rfl)) pa_nil))) pa_nil)) (pg_name (i := 2) nd (by rfl) (by first | exact Or.inl rfl | exact Or.inr rfl))
   (pss_cons (ps_set (i := 3) nd (by rfl) (by first | exact Or.inl rfl | exact Or.inr rfl) (pe_lst pa_nil))
  (pss_cons (ps_for PassesOwn.never rfl (kpi_list (K := K) (by rfl) (pv 1)) (kpg_tup (K := K) (n := 3) (by rfl) (by rfl) (pgs_cons (pg_name (i := 4) nd (by rfl) (by first | exact Or.inl rfl | exact Or.inr rfl)) (pgs_cons (pg_name (i := 5) nd (by rfl) (by first | exact Or.inl rfl | exact Or.inr rfl)) (pgs_cons (pg_name (i := 6) nd (by rfl) (by first | exact Or.inl rfl | exact Or.inr rfl)) pgs_nil))))
   (C8.pss_cut (ps_if (PW.pt (pw_and (pt_cmpR op_lt (pv 5) (pe_callB (kc_len (K := K) (by rfl)) (by rfl) T.b_len (by decide +kernel) (pa_cons (pe_ix (kix_tup (K := K) (by rfl)) (pv 0) pe_int (fun _ _ => rfl)) pa_nil)) (nomark _)) (pw_and1 (pt_val (pe_c c__law_is_open hr (by decide) (by rfl) (pa_cons (pv 0) (pa_cons (pe_tup (pa_cons (pe_op op_add (pv 5) pe_int) (pa_cons (pv 6) pa_nil))) pa_nil)))))))
   (pss_one (ps_expr (kbm (K := K) (by rfl) PySem.F.plainAttrs_list PySem.F.slot_list_append PySem.F.type_list_append mt_append (pv 3) (pa_cons (pe_tup (pa_cons (pe_op op_add_str (pv 4) pe_str) (pa_cons (pe_op op_add (pv 5) pe_int) (pa_cons (pv 6) pa_nil)))) pa_nil))))
   pss_nil)
  (pss_one (ps_if (PW.pt (pw_and (pt_cmpR op_lt (pv 6) (pe_callB (kc_len (K := K) (by rfl)) (by rfl) T.b_len (by decide +kernel) (pa_cons (pe_ix (kix_tup (K := K) (by rfl)) (pv 0) pe_int (fun _ _ => rfl)) pa_nil)) (nomark _)) (pw_and1 (pt_val (pe_c c__law_is_open hr (by decide) (by rfl) (pa_cons (pv 0) (pa_cons (pe_tup (pa_cons (pv 5) (pa_cons (pe_op op_add (pv 6) pe_int) pa_nil))) pa_nil)))))))
   (pss_one (ps_expr (kbm (K := K) (by rfl) PySem.F.plainAttrs_list PySem.F.slot_list_append PySem.F.type_list_append mt_append (pv 3) (pa_cons (pe_tup (pa_cons (pe_op op_add_str (pv 4) pe_str) (pa_cons (pv 5) (pa_cons (pe_op op_add (pv 6) pe_int) pa_nil)))) pa_nil))))
   pss_nil))))
  (pss_one (ps_set (i := 1) nd (by rfl) (by first | exact Or.inl rfl | exact Or.inr rfl) (pv 3))))))
  (pss_one (ps_ret (pe_callB (kc_sortedL (K := K) (by rfl) hr.units) (by rfl) T.b_sorted (by decide +kernel) (pa_cons (pe_lc (own := [("_law_text", 4), ("_law_i", 5), ("_law_j", 6)]) (by rfl) nd (kpi_list (K := K) (by rfl) (pv 1)) (blkOk_by (by kernel_rfl)) (fun _ _ _ _ _ => (kpg_tup (K := K) (n := 3) (by rfl) (by rfl) (pgs_cons (pg_name (i := 4) nd (by rfl) (by first | exact Or.inl rfl | exact Or.inr rfl)) (pgs_cons (pg_name (i := 5) nd (by rfl) (by first | exact Or.inl rfl | exact Or.inr rfl)) (pgs_cons (pg_name (i := 6) nd (by rfl) (by first | exact Or.inl rfl | exact Or.inr rfl)) pgs_nil))))) (fun _ _ _ _ _ => pts_nil) (fun _ _ _ _ _ => (pv 4))) pa_nil)))))), ?_⟩
  obtain ⟨F, ds, zs, e0, hd, ⟨a, b, va, vb, rfl, rfl⟩, q⟩ := hsp
  have S : Sta K F H [.dat (prD a b), .un, .un, .un, .un, .un, .un] [] F H (L2.start N__law_every_run vs) := Sta.begin 6 e0 hd
  have ha := va.len
  have hb := vb.len
  have eE : ("" : Str) = runS [] := by decide +kernel
  have eA : ("a" : Str) = runS [true] := by decide +kernel
  have eB : ("b" : Str) = runS [false] := by decide +kernel
  have so := S.so
  refine st_set S (EvD.eq (x := .list ((lvl a b 0).map itD)) (ev_lst (ea_cons (ev_tup (ea_cons (ev_str _) (ea_cons (ev_int _) (ea_cons (ev_int _) ea_nil)))) ea_nil)) (by rw [eE]; rfl)) fun F1 H1 σ1 S1 => ?_
  have so := S1.so
  refine for_A (List.range (a.length + b.length)) (fun k => .int ((0 + k : Nat) : Int)) S1 (it_rng1 (n := a.length + b.length) (ea_cons (EvD.eq (ev_op (ev_cb (ea_cons (ev_op (ev_var so rfl) (ev_int _) (r2_ixT rfl)) ea_nil) rc_lenT) (ev_cb (ea_cons (ev_op (ev_var so rfl) (ev_int _) (r2_ixT rfl)) ea_nil) rc_lenT) r2_I0) (by rw [List.length_map, List.length_map]; exact congrArg PyData.int (by omega))) ea_nil) (by omega)) rfl
    (fun k es ms => es = [.dat (prD a b), .dat (.list ((lvl a b k).map itD)), .un, .un, .un, .un, .un] ∧ ms = []) ⟨rfl, rfl⟩ ?_ ?_
  · rintro Fb Bb gb k k' es ms F2 H2 σ2 hk ⟨rfl, rfl⟩ S2
    have hkl : k < a.length + b.length := by have := (List.getElem?_eq_some_iff.mp hk).1; rw [List.length_range] at this; exact this
    have h2k : (2 : Nat) ^ (k + 1) ≤ 4096 := Nat.le_trans (Nat.pow_le_pow_right (by decide) (show k + 1 ≤ 12 by omega)) (by decide)
    have hlen := lvl_len a b k
    have hlen1 := lvl_len a b (k + 1)
    refine ⟨_, _, tg_name, fun σ3 S3 => ?_⟩
    refine st_setN S3 (en_lst ea_nil) fun p F4 H4 σ4 S4 => ?_
    have S4 := S4.weak (es' := [.dat (prD a b), .dat (.list ((lvl a b k).map itD)), .un, .val (.ref p), .un, .un, .un]) (by repeat (first | exact .nil | refine .cons (by first | exact trivial | rfl) ?_))
    have so := S4.so
    refine for_A (lvl a b k) itD S4 (it_list (ev_var so rfl)) rfl
      (fun t es ms => es = [.dat (prD a b), .dat (.list ((lvl a b k).map itD)), .un, .val (.ref p), .un, .un, .un] ∧ ms = [.lst p ((stepL a b ((lvl a b k).take t)).map itD)]) ?_ ?_ ?_
    · exact ⟨rfl, by simp [stepL]⟩
    · rintro Fc Bc gc t r es ms F5 H5 σ5 ht ⟨rfl, rfl⟩ S5
      have hr := List.mem_of_getElem? ht
      obtain ⟨l1, l2, l3, _⟩ := lvl_mem.mp hr
      have bnd : (stepL a b ((lvl a b k).take t)).length + 1 < 100000 := by
        have := stepL_len a b ((lvl a b k).take t)
        have : ((lvl a b k).take t).length ≤ (lvl a b k).length := by rw [List.length_take]; omega
        have : (2:Nat) ^ k ≤ 2 ^ (k + 1) := Nat.pow_le_pow_right (by decide) (by omega)
        omega
      have zA : (runS r).length + ("a" : Str).length ≤ 100000 := by rw [runS_len, show ("a" : Str).length = 1 from by decide +kernel]; omega
      have zB : (runS r).length + ("b" : Str).length ≤ 100000 := by rw [runS_len, show ("b" : Str).length = 1 from by decide +kernel]; omega
      refine ⟨_, _, (tg_tup (tgs_cons tg_name (tgs_cons tg_name (tgs_cons tg_name tgs_nil)))), fun σ6 S6 => ?_⟩
      let A1 : List (List Bool) := if TM.ca r < a.length ∧ openB (held a (TM.ca r + 1)) (held b (TM.cb r)) = true then [r ++ [true]] else []
      let A2 : List (List Bool) := if TM.cb r < b.length ∧ openB (held a (TM.ca r)) (held b (TM.cb r + 1)) = true then [r ++ [false]] else []
      refine st_cut S6 (fun es ms => es = [.dat (prD a b), .dat (.list ((lvl a b k).map itD)), .un, .val (.ref p), .dat (.str (runS r)), .dat (.int (TM.ca r : Nat)), .dat (.int (TM.cb r : Nat))] ∧ ms = [.lst p ((stepL a b ((lvl a b k).take t) ++ A1).map itD)]) ?_ ?_
      · have so := S6.so
        refine st_if S6 (et_and (et_test (ev_op (ev_var so rfl) (ev_cb (ea_cons (ev_op (ev_var so rfl) (ev_int _) (r2_ixT rfl)) ea_nil) rc_lenT) r2_B0)) (fun h => (et_B (ev_call (ea_cons (ev_var so rfl) (ea_cons (ev_tup (ea_cons (ev_op (ev_var so rfl) (ev_int _) r2_I0) (ea_cons (ev_var so rfl) ea_nil))) ea_nil)) ⟨a, b, TM.ca r + 1, TM.cb r, va, vb, (by have := of_decide_eq_true h; rw [List.length_map] at this; omega), l3, rfl, rfl⟩)))) (fun hb F7 H7 S7 => ?_) (fun hb F7 H7 S7 => ?_)
        · have so := S7.so
          rw [Bool.and_eq_true, decide_eq_true_iff, List.length_map] at hb
          have c : TM.ca r < a.length ∧ openB (held a (TM.ca r + 1)) (held b (TM.cb r)) = true := ⟨by omega, hb.2⟩
          refine st_app (j := 0) S7 rfl rfl (ev_tup (ea_cons (ev_op (ev_var so rfl) (ev_str _) (r2_addS zA)) (ea_cons (ev_op (ev_var so rfl) (ev_int _) r2_I0) (ea_cons (ev_var so rfl) ea_nil)))) (by rw [List.length_map]; omega) fun F8 H8 S8 => ?_
          refine NX.of (S8.weak (es' := [.dat (prD a b), .dat (.list ((lvl a b k).map itD)), .un, .val (.ref p), .dat (.str (runS r)), .dat (.int (TM.ca r : Nat)), .dat (.int (TM.cb r : Nat))]) (by repeat (first | exact .nil | refine .cons (by first | exact trivial | rfl) ?_))) ⟨rfl, ?_⟩
          show [MO.lst p _] = [MO.lst p ((stepL a b ((lvl a b k).take t) ++ A1).map itD)]
          rw [show A1 = [r ++ [true]] from if_pos c, eA, runS_app]
          simp [itD]
        · refine NX.of (S7.weak (es' := [.dat (prD a b), .dat (.list ((lvl a b k).map itD)), .un, .val (.ref p), .dat (.str (runS r)), .dat (.int (TM.ca r : Nat)), .dat (.int (TM.cb r : Nat))]) (by repeat (first | exact .nil | refine .cons (by first | exact trivial | rfl) ?_))) ⟨rfl, ?_⟩
          have c : ¬ (TM.ca r < a.length ∧ openB (held a (TM.ca r + 1)) (held b (TM.cb r)) = true) := fun z => by
            rw [z.2, Bool.and_true, decide_eq_false_iff_not, List.length_map] at hb
            exact hb (by have := z.1; omega)
          rw [show A1 = [] from if_neg c, List.append_nil]
      · rintro es ms F7 H7 σ7 ⟨rfl, rfl⟩ S7
        have so := S7.so
        have a1 : A1.length ≤ 1 := by show (if _ then _ else _ : List (List Bool)).length ≤ 1; split <;> simp
        have fin : (stepL a b ((lvl a b k).take t) ++ A1) ++ A2 = stepL a b ((lvl a b k).take (t + 1)) := by
          rw [stepL_snoc ht, List.append_assoc]
          rfl
        refine st_if S7 (et_and (et_test (ev_op (ev_var so rfl) (ev_cb (ea_cons (ev_op (ev_var so rfl) (ev_int _) (r2_ixT rfl)) ea_nil) rc_lenT) r2_B0)) (fun h => (et_B (ev_call (ea_cons (ev_var so rfl) (ea_cons (ev_tup (ea_cons (ev_var so rfl) (ea_cons (ev_op (ev_var so rfl) (ev_int _) r2_I0) ea_nil))) ea_nil)) ⟨a, b, TM.ca r, TM.cb r + 1, va, vb, l2, (by have := of_decide_eq_true h; rw [List.length_map] at this; omega), rfl, rfl⟩)))) (fun hb F8 H8 S8 => ?_) (fun hb F8 H8 S8 => ?_)
        · have so := S8.so
          rw [Bool.and_eq_true, decide_eq_true_iff, List.length_map] at hb
          have c : TM.cb r < b.length ∧ openB (held a (TM.ca r)) (held b (TM.cb r + 1)) = true := ⟨by omega, hb.2⟩
          refine st_app (j := 0) S8 rfl rfl (ev_tup (ea_cons (ev_op (ev_var so rfl) (ev_str _) (r2_addS zB)) (ea_cons (ev_var so rfl) (ea_cons (ev_op (ev_var so rfl) (ev_int _) r2_I0) ea_nil)))) (by rw [List.length_map, List.length_append]; omega) fun F9 H9 S9 => ?_
          refine NX.of (S9.weak (es' := [.dat (prD a b), .dat (.list ((lvl a b k).map itD)), .un, .val (.ref p), .un, .un, .un]) (by repeat (first | exact .nil | refine .cons (by first | exact trivial | rfl) ?_))) ⟨rfl, ?_⟩
          rw [← fin, show A2 = [r ++ [false]] from if_pos c, eB, runS_app]
          simp [itD]
        · refine NX.of (S8.weak (es' := [.dat (prD a b), .dat (.list ((lvl a b k).map itD)), .un, .val (.ref p), .un, .un, .un]) (by repeat (first | exact .nil | refine .cons (by first | exact trivial | rfl) ?_))) ⟨rfl, ?_⟩
          have c : ¬ (TM.cb r < b.length ∧ openB (held a (TM.ca r)) (held b (TM.cb r + 1)) = true) := fun z => by
            rw [z.2, Bool.and_true, decide_eq_false_iff_not, List.length_map] at hb
            exact hb (by have := z.1; omega)
          rw [← fin, show A2 = [] from if_neg c, List.append_nil]
    · rintro es ms F5 H5 σ5 ⟨rfl, rfl⟩ S5
      rw [List.take_length] at S5
      obtain ⟨vs6, S6, d6⟩ := S5.freeze
      have so := S6.so.put (i := 3) (S6.so.val rfl) d6
      refine st_set S6 (ev_var (i := 3) so rfl) fun F7 H7 σ7 S7 => ?_
      exact NX.of (S7.weak (es' := [.dat (prD a b), .dat (.list ((lvl a b (k + 1)).map itD)), .un, .un, .un, .un, .un]) (by repeat (first | exact .nil | refine .cons (by first | exact trivial | rfl) ?_))) ⟨rfl, rfl⟩
  · rintro es ms F2 H2 σ2 ⟨rfl, rfl⟩ S2
    rw [List.length_range] at S2
    have so := S2.so
    have hlen := lvl_len a b (a.length + b.length)
    have h2k : (2 : Nat) ^ (a.length + b.length) ≤ 4096 := Nat.le_trans (Nat.pow_le_pow_right (by decide) (show a.length + b.length ≤ 12 by omega)) (by decide)
    refine st_retN S2 (EvN.eqN (en_cb (ea_cons (EvN.toD (en_lcA0 (lvl a b (a.length + b.length)) itD so (it_list (ev_var so rfl)) rfl (fun r => .str (runS r)) _ (by omega) (fun _ _ => (tg_tup (tgs_cons tg_name (tgs_cons tg_name (tgs_cons tg_name tgs_nil))))) (by decide) (fun r _ F3 H3 σ4 g4 so4 => (ev_var so4 rfl)))) ea_nil) (rcn_sort (all_of (fun x y => by simp [PySem.W.alike]) _) (.inr fun d hd => ?_) (dep_of (fun x => by simp [PyData.depth]) _))) (sortD_map _ _)) q
    obtain ⟨x, _, rfl⟩ := List.mem_map.mp hd
    exact ⟨fun h => (nomatch h), fun xs h => (nomatch h)⟩
end TT
/-! SetT -/
/-! Sets of texts: made, sorted. -/
namespace TT
open PySem PySem.Spec PyProof.Rows L2
def keyT (e : Int × Value) : Str := match e.2 with | .str k _ => k | _ => ""
def GoodT (w : World) (e : Int × Value) : Prop := ∃ (k : Str) (tk : Tok), e.2 = Value.str k tk ∧ e.1 = hashStr w k
theorem mix_str (P : Program) (w : World) (k : Str) (tk : Tok) : (mixKind P w).is (.inr k) (.str k tk) = true := kV_is (k := .inr k) ⟨tk, rfl⟩

/-- the set of ints at a: S its members, n their number; its table rises and can be walked -/
def SetT (w : World) (h : Heap) (a : Addr) (S : Str → Bool) (n : Nat) : Prop :=
  ∃ o es ep t, h.get? a = some o ∧ o.ExactSet ∧ o.data = .set es ep t ∧ (∀ e ∈ es.toList, GoodT w e) ∧ (es.toList.map keyT).Nodup ∧ (∀ k, S k = true ↔ k ∈ es.toList.map keyT) ∧
    es.size < scanBound ∧ t.fits es.size = true ∧ es.size = n ∧ Ris t.place.toList ∧ (w.params.followText "set-order" = true ∨ t.led = true)

section
variable {P : Program} {w : World} {h h' : Heap} {a : Addr} {S : Str → Bool} {n : Nat}

theorem SetT.at (R : SetT w h a S n) (k : ∀ o, h.get? a = some o → h'.get? a = some o) : SetT w h' a S n := by
  obtain ⟨o, es, ep, t, ho, r⟩ := R
  exact ⟨o, es, ep, t, k o ho, r⟩
theorem SetT.lt (R : SetT w h a S n) : a < h.objs.size := by
  obtain ⟨o, es, ep, t, ho, r⟩ := R
  exact Heap.lt_size ho
theorem SetT.congr {S' : Str → Bool} (R : SetT w h a S n) (e : ∀ k, S' k = S k) : SetT w h a S' n := by
  have q : S' = S := funext e
  rw [q]; exact R
theorem goodt_elems {l : List (Int × Value)} (g : ∀ e ∈ l, GoodT w e) : ElemsOf (mixKind P w) l := fun e he => by
  obtain ⟨k, tk, h1, h2⟩ := g e he
  exact ⟨⟨.inr k, by rw [h1]; exact mix_str P w k tk, h2⟩, by rw [h1] <;> rfl⟩
theorem goodt_is {e : Int × Value} (g : GoodT w e) (k : Str) : (mixKind P w).is (.inr k) e.2 = true ↔ keyT e = k := by
  obtain ⟨k0, tk, h1, _⟩ := g
  unfold keyT
  rw [h1]
  show (match Value.str k0 tk with | .str y _ => y == k | _ => false) = true ↔ k0 = k
  exact beq_iff_eq
theorem goodt_mem {l : List (Int × Value)} (g : ∀ e ∈ l, GoodT w e) (k : Str) : k ∈ l.map keyT ↔ ∃ e ∈ l, (mixKind P w).is (.inr k) e.2 = true := by
  rw [List.mem_map]
  constructor
  · rintro ⟨e, he, q⟩
    exact ⟨e, he, (goodt_is (g e he) k).2 q⟩
  · rintro ⟨e, he, q⟩
    exact ⟨e, he, (goodt_is (g e he) k).1 q⟩
end

section
variable {P : Program} {w : World} {A : Around} {E : Value → Shared → Prop} {s : Shared} {a : Addr} {S : Str → Bool} {n : Nat}

/-! ### add -/
theorem store_atT {h : Heap} {a : Addr} {o : Obj} {es es' : Array (Int × Value)} {ep : Nat} {t t' : SetTable} (ho : h.get? a = some o) (hd : o.data = .set es ep t) :
    (h.update a (Obj.putSet es' t')).get? a = some { o with data := .set es' (ep + 1) t' } := by
  have q := Heap.get?_update_self (Obj.putSet es' t') ho (by rw [putSet_of es' t' hd]; rfl)
  rw [putSet_of es' t' hd] at q
  exact q

theorem setT_add_tail {g : Bool → Sem Unit} (hg : ∀ (b : Bool) (s₁ : Shared) (Q' : Unit → Shared → Prop), Q' () s₁ → wpAny (model P w) A (g b) Q' E s₁)
    {o : Obj} {es : Array (Int × Value)} {ep : Nat} {t : SetTable} (ho : s.heap.get? a = some o) (hex : o.ExactSet) (hd : o.data = .set es ep t)
    {es1 : Array (Int × Value)} {t2 : SetTable} {S' : Str → Bool} (g1 : ∀ e ∈ es1.toList, GoodT w e) (nd1 : (es1.toList.map keyT).Nodup) (m1 : ∀ k, S' k = true ↔ k ∈ es1.toList.map keyT)
    (hb1 : es1.size < scanBound) (hf2 : t2.fits es1.size = true) (hr : Ris t2.place.toList) (hl : w.params.followText "set-order" = true ∨ t2.led = true) {wasDummy : Bool} {R : Option Bool → Shared → Prop}
    (hR : ∀ h', Heap.SameBut a s.heap h' → SetT w h' a S' es1.size → R (some true) { s with heap := h' }) :
    wpAny (model P w) A (do
        storeSet a es1 t2
        if (!wasDummy && t2.tooFull) = true then do
            g (relayAll t2 es1 (SetTable.grown es1.size)).2.2
            storeSet a (relayAll t2 es1 (SetTable.grown es1.size)).1 (relayAll t2 es1 (SetTable.grown es1.size)).2.1
            pure (some true)
          else pure (some true)) R E s := by
  refine wpAny_bind (wpAny_storeSet_of ho hd ?_ (fits_of_scanBound hb1))
  have ho1 := store_atT (es' := es1) (t' := t2) ho hd
  have sb1 := Heap.SameBut.update s.heap a (Obj.putSet es1 t2)
  split
  · have pm := relayAll_perm t2 es1 (SetTable.grown es1.size)
    have hf3 := relayAll_fits t2 es1 (SetTable.grown es1.size)
    have hr3 := relayAll_ris t2 es1 (SetTable.grown es1.size)
    have hl3 := relayAll_led t2 es1 (SetTable.grown es1.size)
    generalize relayAll t2 es1 (SetTable.grown es1.size) = Z at pm hf3 hr3 hl3 ⊢
    obtain ⟨es2, t3, gave⟩ := Z
    dsimp only at pm hf3 hr3 hl3 ⊢
    have hsz : es2.size = es1.size := by rw [← Array.length_toList, pm.length_eq, Array.length_toList]
    have hb2 : es2.size < scanBound := by rw [hsz]; exact hb1
    refine wpAny_bind (hg _ _ _ ?_)
    refine wpAny_bind (wpAny_storeSet_of ho1 rfl ?_ (fits_of_scanBound hb2))
    have ho2 := store_atT (es' := es2) (t' := t3) ho1 rfl
    refine wpAny_pure (hR _ (sb1.trans (Heap.SameBut.update _ a _)) ?_)
    exact ⟨_, es2, _, t3, ho2, hex, rfl, fun e he => g1 e (pm.mem_iff.mp he), (pm.map keyT).nodup_iff.mpr nd1, fun k => (m1 k).trans (pm.map keyT).mem_iff.symm, hb2, hf3, hsz, hr3,
      hl.imp id fun z => by rw [hl3]; exact z⟩
  · exact wpAny_pure (hR _ sb1 ⟨_, es1, _, t2, ho1, hex, rfl, g1, nd1, m1, hb1, hf2, rfl, hr, hl⟩)

theorem setT_add_hashed {k : Str} {tk : Tok} {Q : Bool → Shared → Prop} (R : SetT w s.heap a S n) (room : n + 1 < scanBound)
    (hQ : ∀ h', Heap.SameBut a s.heap h' → SetT w h' a (fun j => S j || decide (j = k)) (if S k = true then n else n + 1) → Q (!S k) { s with heap := h' }) :
    wpAny (model P w) A (setAddHashed a (.str k tk) ((mixKind P w).hash (.inr k))) Q E s := by
  obtain ⟨o, es, ep, t, ho, hex, hd, g, nd, hm, hb, hf, hn, hr, hl⟩ := R
  have hkey : (mixKind P w).is (.inr k) (.str k tk) = true := mix_str P w k tk
  have hsc : (Value.str k tk).scannable = true := rfl
  have hel : ElemsOf (mixKind P w) es.toList := goodt_elems g
  unfold setAddHashed setAddHashedIn
  refine wpAny_holding (wpAny_bind (wpAny_setState_of ho hd hf ?_))
  dsimp only
  rw [byScan_of hsc hb hel]
  simp only [↓reduceIte]
  unfold setAddByScan
  refine wpAny_bind ?_
  refine wpAny_bind (wpAny_rule ?_)
  refine wpAny_bind (wpAny_setScan_of hkey ho hd hf hel ?_)
  cases hfi : List.findIdx? (fun e => (mixKind P w).is (.inr k) e.2) es.toList with
  | some j =>
    dsimp only
    obtain ⟨hj, pj, _⟩ := List.findIdx?_eq_some_iff_getElem.mp hfi
    have hSk : S k = true := (hm k).2 ((goodt_mem (P := P) (w := w) g k).2 ⟨es.toList[j], List.getElem_mem hj, pj⟩)
    refine wpAny_pure (wpAny_pure ?_)
    have q := hQ s.heap (Heap.SameBut.refl a s.heap) ⟨o, es, ep, t, ho, hex, hd, g, nd, fun i => by
      rw [Bool.or_eq_true, decide_eq_true_eq, ← hm i]
      exact ⟨fun z => z.elim id (fun e => e ▸ hSk), .inl⟩, hb, hf, by rw [if_pos hSk]; exact hn, hr, hl⟩
    rw [hSk] at q
    exact q
  | none =>
    dsimp only
    have hnk : k ∉ es.toList.map keyT := fun z => by
      obtain ⟨e, he, q⟩ := (goodt_mem (P := P) (w := w) g k).1 z
      have c := List.findIdx?_eq_none_iff.mp hfi e he
      rw [q] at c
      cases c
    have hSk : S k = false := by
      cases q : S k with
      | false => rfl
      | true => exact absurd ((hm k).1 q) hnk
    have hgw : ∀ (b : Bool) {s₁ : Shared} {Q' : Unit → Shared → Prop}, Q' () s₁ → wpAny (model P w) A (match b with | true => rule "set.scan.the-table-gave-way" | false => pure ()) Q' E s₁ :=
      fun b s₁ Q' q => by cases b <;> first | exact wpAny_pure q | exact wpAny_rule q
    have pm := layNew_perm t es ((mixKind P w).hash (.inr k)) (.str k tk)
    have hf1 := layNew_fits t es ((mixKind P w).hash (.inr k)) (.str k tk)
    have hr1 := layNew_ris t es ((mixKind P w).hash (.inr k)) (.str k tk) hr
    have hl1 := layNew_led t es ((mixKind P w).hash (.inr k)) (.str k tk)
    generalize layNew t es ((mixKind P w).hash (.inr k)) (.str k tk) = Z at pm hf1 hr1 hl1 ⊢
    obtain ⟨es1, t1, wasDummy, gave⟩ := Z
    dsimp only at pm hf1 hr1 hl1 ⊢
    rw [Array.toList_push] at pm
    have pc : es1.toList.Perm (((mixKind P w).hash (.inr k), Value.str k tk) :: es.toList) := pm.trans (List.perm_append_singleton _ _)
    have pk : (es1.toList.map keyT).Perm (k :: es.toList.map keyT) := pc.map keyT
    have g1 : ∀ e ∈ es1.toList, GoodT w e := fun e he => by
      rcases List.mem_cons.mp (pc.mem_iff.mp he) with z | z
      · rw [z]; exact ⟨k, tk, rfl, rfl⟩
      · exact g e z
    have nd1 : (es1.toList.map keyT).Nodup := pk.nodup_iff.mpr (List.nodup_cons.mpr ⟨hnk, nd⟩)
    have m1 : ∀ i, (S i || decide (i = k)) = true ↔ i ∈ es1.toList.map keyT := fun i => by
      rw [Bool.or_eq_true, decide_eq_true_eq, hm i, pk.mem_iff, List.mem_cons]
      exact Or.comm
    have hsz : es1.size = n + 1 := by rw [← Array.length_toList, pc.length_eq, List.length_cons, Array.length_toList, hn]
    have hb1 : es1.size < scanBound := by rw [hsz]; exact room
    have hled : w.params.followText "set-order" = true ∨ t1.led = true := hl.imp id fun z => by rw [hl1]; exact z
    have fin : ∀ h', Heap.SameBut a s.heap h' → SetT w h' a (fun j => S j || decide (j = k)) es1.size → Q true { s with heap := h' } := fun h' sb r => by
      have q := hQ h' sb
      rw [hSk] at q
      rw [hsz] at r
      exact q r
    refine wpAny_bind (hgw _ ?_)
    split
    · refine wpAny_bind ?_
      rw [hashByValue_scannable 8 hsc]
      refine wpAny_pure ?_
      refine setT_add_tail ?_ ho hex hd g1 nd1 m1 hb1 ?_ ?_ ?_ ?_
      · intro b s₁ Q' q; cases b <;> first | exact wpAny_pure q | exact wpAny_rule q
      · first | (split <;> first | exact hf1 | exact SetTable.fits_plain_off hf1) | exact hf1
      · first | (split <;> exact hr1) | exact hr1
      · first | (split <;> exact hled) | exact hled
      · intro h' sb r; dsimp only; exact wpAny_pure (fin h' sb r)
    · refine wpAny_bind (wpAny_pure ?_)
      simp only [↓reduceIte]
      refine setT_add_tail ?_ ho hex hd g1 nd1 m1 hb1 hf1 hr1 hled ?_
      · intro b s₁ Q' q; cases b <;> first | exact wpAny_pure q | exact wpAny_rule q
      · intro h' sb r; dsimp only; exact wpAny_pure (fin h' sb r)
end
theorem setT_new_at {w : World} {h : Heap} {a : Addr} {ns : List Str} (ho : h.get? a = some { cls := .type "set", dict := none, data := .set #[] 0 (.fresh 0 0 (!w.params.followText "set-order")) }) : SetT w h a (fun j => decide (j ∈ ns.take 0)) 0 :=
  ⟨_, #[], 0, _, ho, ⟨rfl, rfl, rfl⟩, rfl, (fun e he => by simp at he), (by simp), (fun k => by simp), (by decide), (by rfl), rfl, List.Pairwise.nil, by
    show _ ∨ (!w.params.followText "set-order") = true
    cases w.params.followText "set-order"
    · exact .inr rfl
    · exact .inl rfl⟩
section
variable {P : Program} {w : World} {A : Around} {E : Value → Shared → Prop} {s : Shared}
theorem set_update_strs {I : Addr} {fp wr : List Addr} {G : Array GenState → Array GenState → Prop} {n : Nat} {Pv : Nat → Value → Prop} {St : Nat → Shared → Prop} {R : Result → Shared → Prop}
    (W : WalksS P w A.in1 I fp wr G n Pv St) (S : Addr) (hSf : S ∉ fp) (ns : List Str) (hn : n = ns.length) (hb : ns.length + 1 < scanBound) (hval : ∀ i v, Pv i v → ∃ k t, ns[i]? = some k ∧ v = .str k t) :
    ∀ (k i : Nat) (s : Shared), n - i = k → i ≤ n → St i s → (∃ c, c ≤ i ∧ SetT w s.heap S (fun j => decide (j ∈ ns.take i)) c) →
      (∀ s' c, Moved (S :: wr) G s s' → c ≤ n → SetT w s'.heap S (fun j => decide (j ∈ ns)) c → R (.ok (.ret .none)) s') →
      codeAny (model P w) A (.builtin "set.update.loop" ⟨[.ref S, .ref I], []⟩) R s := by
  have hSw : S ∉ wr := fun h => hSf (W.sub _ h)
  have hsub : ∀ b ∈ wr, b ∈ S :: wr := fun b hb => List.mem_cons_of_mem _ hb
  intro k
  induction k with
  | zero =>
    intro i s hk' hi hst ⟨c, hc, hS⟩ hR
    have hin : i = n := by omega
    subst hin
    refine codeAny_builtin F.entry_set_update_loop ?_
    rw [Around.under_plainId F.plain_set_update_loop _]
    show wpAny _ A.in1 (pyNext (.ref I) >>= _) _ _ s
    refine wpAny_bind (W.done s _ _ hst fun s' hm => ?_)
    show wpAny _ A.in1 (ret Value.none) _ _ s'
    have e : ns.take i = ns := List.take_of_length_le (by omega)
    rw [e] at hS
    exact wpAny_pure (hR s' c (hm.mono hsub) hc (hS.at fun o e => hm.heap S o hSw e))
  | succ k ih =>
    intro i s hk' hi hst ⟨c, hc, hS⟩ hR
    have hlt : i < n := by omega
    refine codeAny_builtin F.entry_set_update_loop ?_
    rw [Around.under_plainId F.plain_set_update_loop _]
    show wpAny _ A.in1 (pyNext (.ref I) >>= _) _ _ s
    refine wpAny_bind (W.item i s _ _ hlt hst fun v s' hP hst' hm => ?_)
    obtain ⟨z, t, hz, rfl⟩ := hval i v hP
    have hS' : SetT w s'.heap S (fun j => decide (j ∈ ns.take i)) c := hS.at fun o e => hm.heap S o hSw e
    show wpAny _ A.in1 (holding [Value.str z t] (setAdd S (.str z t)) >>= _) _ _ s'
    refine wpAny_bind (wpAny_holding ?_)
    unfold setAdd
    refine wpAny_holding ?_
    refine wpAny_bind ((mixKind P w).pyHash (k := .inr z) (mix_str _ _ _ _) ?_)
    refine setT_add_hashed (s := { s' with toks := s'.toks + 1 }) hS' (by omega) fun h' hsb hS2 => ?_
    have hS3 : SetT w h' S (fun j => decide (j ∈ ns.take (i + 1))) (if decide (z ∈ ns.take i) = true then c else c + 1) := hS2.congr fun j => by
      rw [List.take_add_one, hz]
      simp [List.mem_append]
    have hc3 : (if decide (z ∈ ns.take i) = true then c else c + 1) ≤ i + 1 := by
      split <;> omega
    refine wpAny_pure ⟨plainId_quiet F.plain_set_update_loop _, ih (i + 1) _ (by omega) hlt (W.frame _ s' _ _ hst' (Nat.le_succ _) fun b hb o e => ?_) ⟨_, hc3, hS3⟩ fun s'' c2 hm'' hc'' hS'' => ?_⟩
    · rw [hsb.2 b (fun h : b = S => hSf (by rw [← h]; exact hb))]; exact e
    · refine hR s'' c2 (Moved.trans W.gtrans ((hm.mono hsub).then_heap (Nat.le_succ _) fun b o hb e => ?_) hm'') hc'' hS''
      rw [hsb.2 b (fun h : b = S => hb (by rw [h]; exact List.mem_cons_self))]; exact e

theorem code_set_led2 (a : Value) {Q₁ : Value → Shared → Prop}
    (h : Q₁ (.ref s.heap.objs.size) { s with heap := s.heap.push { cls := .type "set", dict := none, data := .set #[] 0 (.fresh 0 0 (!w.params.followText "set-order")) } }) :
    codeAny (model P w) A (.call (.builtin "set.__new__") ⟨[.type "set", a], []⟩) (wants Q₁ E) s := by
  refine codeAny_of_tree ?_
  show wpAny _ A.in1 (do checkBuiltinCall "set.__new__" ⟨[.type "set", a], []⟩; again (.builtin "set.__new__" ⟨[.type "set", a], []⟩)) _ _ s
  refine wpAny_bind (wpAny_of_eq (F.newCall_set_1 a) (wpAny_pure ⟨plainId_quiet F.plain_set_new _, codeAny_builtin F.entry_set_new ?_⟩))
  rw [Around.under_plainId F.plain_set_new _]
  unfold Builtin.«set.__new__» Builtin.Frozenset.newClass
  have hsub := sub_set_self
  obtain ⟨hp, g, d, tk, os⟩ := s
  dsimp only
  wp_walk
  refine wpAny_askSetting (wpAny_pure ?_)
  dsimp only
  simp only [newObj]
  refine wpAny_bind (wpAny_alloc (wpAny_pure ?_))
  exact wpAny_pure h

set_option maxRecDepth 100000 in
set_option maxHeartbeats 3200000 in
theorem call_set_lstS {l : Addr} {items : Array Value} (ns : List Str) {Q : Value → Shared → Prop} (hh : A.handled = none) (hl : s.heap.IsList l items) (hit : items.toList.length = ns.length ∧ ∀ (i : Nat) v, items[i]? = some v → ∃ k t, ns[i]? = some k ∧ v = .str k t) (hb : ns.length + 1 < scanBound)
    (h : ∀ (h' : Heap) (tk c : Nat), SetT w h' s.heap.objs.size (fun j => decide (j ∈ ns)) c → c ≤ ns.length → (∀ b o, s.heap.get? b = some o → h'.get? b = some o) → Q (.ref s.heap.objs.size) { s with heap := h', toks := tk }) :
    wpAny (model P w) A (call (.type "set") [.ref l]) Q E s := by
  have hisz : items.size = ns.length := by
    have q := hit.1
    rw [Array.length_toList] at q
    exact q
  obtain ⟨c, tl, hmro⟩ := F.called_set.mro
  have hmade := F.called_set.made
  have hsub := F.called_set.sub
  refine wpAny_call (codeAny_of_tree ?_)
  show wpAny _ _ (callAny (.type "set") _) _ _ _
  refine wpAny_pure ⟨Code.quiet_builtin _ (by decide +kernel), codeAny_builtin F.entry_type_call ?_⟩
  rw [Around.under_plain (weight_type_call_type "set" [.ref l] []) rfl]
  have h1 := F.called_set.notType
  have h2 := F.called_set.canCreate
  have hct := F.typeCall_set_1 (.ref l)
  repeat (any_goals (first | assumption | wp_step))

  refine codeAny_mono (code_set_led2 (.ref l) (E := E) (Q₁ := fun obj s₁ => obj = .ref s.heap.objs.size ∧ s₁ = { s with heap := s.heap.push { cls := .type "set", dict := none, data := .set #[] 0 (.fresh 0 0 (!w.params.followText "set-order")) } }) ⟨rfl, rfl⟩) fun r s₁ hr => ?_
  cases r with
  | error e => exact hr
  | ok fl =>
    cases fl with
    | ret obj =>
      obtain ⟨rfl, rfl⟩ := hr
      have hS : (s.heap.push { cls := .type "set", dict := none, data := .set #[] 0 (.fresh 0 0 (!w.params.followText "set-order")) }).get? s.heap.objs.size = some { cls := .type "set", dict := none, data := .set #[] 0 (.fresh 0 0 (!w.params.followText "set-order")) } := Heap.get?_push_size _ rfl
      have hT : Shared.TypeIs { s with heap := s.heap.push { cls := .type "set", dict := none, data := .set #[] 0 (.fresh 0 0 (!w.params.followText "set-order")) } } (.ref s.heap.objs.size) "set" := ⟨_, hS, rfl⟩
      have hli := F.called_set.init.lookup
      have hbi := F.called_set.init.bind (.ref s.heap.objs.size)
      repeat (any_goals (first | assumption | wp_step))

      refine codeAny_mono (codeAny_call_builtin (R := wants (fun r s₂ => r = .none ∧ ∃ h' tk c, s₂ = { s with heap := h', toks := tk } ∧ SetT w h' s.heap.objs.size (fun j => decide (j ∈ ns)) c ∧ c ≤ ns.length ∧
          (∀ b o, s.heap.get? b = some o → h'.get? b = some o)) E) F.called_set.init.plain F.entry_set_init (check_set_init_1 hT ?_)) fun r₂ s₂ hr₂ => ?_
      · obtain ⟨ol, hol, hcl, nl, hdl⟩ := hl
        obtain ⟨ocls, odict, odata, oslots⟩ := ol
        simp only at hcl hdl
        subst hcl; subst hdl
        have hol' : (s.heap.push { cls := .type "set", dict := none, data := .set #[] 0 (.fresh 0 0 (!w.params.followText "set-order")) }).get? l = some { cls := .type "list", dict := odict, data := .seq items nl, slots := oslots } := Heap.get?_push_of_some _ hol
        have hsls := F.sub_list_set
        have hslf := F.sub_list_frozenset
        have hne : (Value.type "list" == Value.type "dict") = false := by decide
        have hl1 : (s.heap.push { cls := .type "set", dict := none, data := .set #[] 0 (.fresh 0 0 (!w.params.followText "set-order")) }).IsList l items := ⟨_, hol', rfl, nl, rfl⟩
        unfold Builtin.«set.__init__» noKeywords Builtin.Frozenset.updateFrom
        generalize hPI : pyIter = PI
        wp_walk
        subst hPI

        refine wpAny_pyIter_list hl1 ?_
        refine wpAny_bind (wpAny_runValue ?_)
        have hlS : l < s.heap.objs.size := Heap.lt_size hol
        have hh3 : A.in1.in1.in1.handled = none := by simp [hh]
        have hz1 : (s.heap.push { cls := .type "set", dict := none, data := .set #[] 0 (.fresh 0 0 (!w.params.followText "set-order")) }).objs.size = s.heap.objs.size + 1 := Heap.size_push ..
        have hneI : l ≠ (s.heap.push { cls := .type "set", dict := none, data := .set #[] 0 (.fresh 0 0 (!w.params.followText "set-order")) }).objs.size := by
          rw [Heap.size_push]; exact Nat.ne_of_lt (Nat.lt_succ_of_lt hlS)
        have hSf : s.heap.objs.size ∉ [(s.heap.push { cls := .type "set", dict := none, data := .set #[] 0 (.fresh 0 0 (!w.params.followText "set-order")) }).objs.size, l] := by
          rw [Heap.size_push]; simp only [List.mem_cons, List.mem_singleton, List.not_mem_nil, or_false, not_or]
          exact ⟨Nat.ne_of_lt (Nat.lt_succ_self _), Nat.ne_of_gt hlS⟩
        have hval := hit.2
        refine set_update_strs ((Walks.list hh3 _ l hneI items).toS) s.heap.objs.size
          hSf ns hisz hb hval (items.size - 0) 0 _ (by omega) (Nat.zero_le _)
          ⟨⟨_, Heap.get?_push_size _ rfl, rfl, rfl⟩, (hl1.push _)⟩ ?hS0 ?hR
        case hS0 =>
          have hget : ((s.heap.push { cls := .type "set", dict := none, data := .set #[] 0 (.fresh 0 0 (!w.params.followText "set-order")) }).push { cls := .type "list_iterator", data := .fields #[.ref l, .int 0 0] }).get? s.heap.objs.size
              = some { cls := .type "set", dict := none, data := .set #[] 0 (.fresh 0 0 (!w.params.followText "set-order")) } := Heap.get?_push_of_some _ hS
          exact ⟨0, Nat.le_refl 0, setT_new_at hget⟩
        case hR =>
          intro s' c' hm hc' hS'
          obtain ⟨h', g2, d', tk', os'⟩ := s'
          have eg : g2 = s.gens := hm.gens
          have ed : d' = s.drawn := hm.drawn
          have eo : os' = s.os := hm.os
          subst eg; subst ed; subst eo
          show wpAny _ _ _ _ _ _
          refine wpAny_pure ?_
          show wpAny _ _ (ret Value.none) _ _ _
          rw [hisz] at hc'
          refine wpAny_pure ⟨rfl, h', tk', c', rfl, hS', hc', fun b o e => ?_⟩
          have hb0 : b < s.heap.objs.size := Heap.lt_size e
          have hb1 : b ≠ s.heap.objs.size := Nat.ne_of_lt hb0
          have hb2 : b ≠ (s.heap.push { cls := .type "set", dict := none, data := .set #[] 0 (.fresh 0 0 (!w.params.followText "set-order")) }).objs.size := by
            rw [Heap.size_push]; exact Nat.ne_of_lt (Nat.lt_succ_of_lt hb0)
          exact hm.heap b o (by simp only [List.mem_cons, List.mem_singleton, List.not_mem_nil, or_false, not_or]; exact ⟨hb1, hb2⟩) (Heap.get?_push_of_some _ (Heap.get?_push_of_some _ e))

      · cases r₂ with
        | error e => exact hr₂
        | ok fl₂ =>
          cases fl₂ with
          | ret r =>
            obtain ⟨rfl, h', tk, c', rfl, hS', hc', hk'⟩ := hr₂
            repeat (any_goals (first | assumption | wp_step))
            exact h _ _ _ hS' hc' hk'
          | _ => exact hr₂.elim
    | _ => exact hr.elim

end
end TT
/-! LVal -/
/-! list(d.values()) -/
namespace TT
open PySem PySem.Spec PyProof.Rows L2
def valuesO (p d : Addr) : HO := .ext fun h => h.IsValuesView p d
theorem valuesO_ok {P : Program} {w : World} {H : Hp} {h : Heap} {p d : Addr} (e : h.get? p = some { cls := .type "dict_values", data := .fields #[.ref d] }) : ObjOk P w H h p (valuesO p d) :=
  ⟨⟨_, e, rfl, rfl⟩, ⟨_, e⟩, fun h1 h2 x k => let ⟨o, ho, r⟩ := x; ⟨o, k o ho, r⟩⟩
section
variable {X : Cx}
def rVals : V → List V → Hp → VK → Prop := fun x xs H Q => ∃ (a : Addr) (kvs : List (L2.Key × V)), x = .ref a ∧ xs = [] ∧ H a = some (.dK kvs) ∧ ∀ p, H p = none → Q (.ref p) (upd H p (valuesO p a))
theorem mt_vals : MtR X "dict.values" rVals := by
  intro pins s σ H x xs v us Q I rx rxs h
  obtain ⟨a, kvs, rfl, rfl, ha, q⟩ := h
  cases rx
  cases rxs
  obtain ⟨z, hd, vs, rel, dd⟩ := dk_of I.hok ha
  refine call_meetsIn PySem.F.slot_dict_values dd.typeIs PySem.F.entry_dict_values (PySem.F.args_dict_values_1 _) (meets_dict_values (mixKind X.prog X.w) a hd) ⟨⟨vs, dd⟩, ?_⟩
  have hf : H s.heap.objs.size = none := I.hok.fresh (Nat.le_refl _)
  exact ⟨.ref s.heap.objs.size, upd H s.heap.objs.size (valuesO s.heap.objs.size a), I.laid (t' := s.toks) (fun b u e => Heap.get?_push_of_some _ e) (Nat.le_refl _) (valuesO_ok (Heap.get?_push_size _ rfl)), rfl, q _ hf⟩
def rListV : List V → Hp → VK → Prop := fun xs H Q => ∃ p a kvs, xs = [.ref p] ∧ H p = some (valuesO p a) ∧ H a = some (.dK kvs) ∧ ∀ q, H q = none → Q (.ref q) (upd H q (.lst (kvs.map fun kv => kv.2)))
theorem call_list_vals (hc : X.calm = true) : CallR X (.type "list") rListV := by
  intro pins s σ H xs us Q I r h
  obtain ⟨p, a, kvs, rfl, hp, ha, q⟩ := h
  obtain rfl := Vals.ref1 r
  have view : s.heap.IsValuesView p a := (show ObjOk X.prog X.w H s.heap p (valuesO p a) from I.hok p _ hp).1
  obtain ⟨z, lo, vs, rk, hd⟩ := dk_of I.hok ha
  obtain ⟨ep, hat⟩ := hd.dictAt
  have hl : kvs.length = vs.length := Paired.length rk
  refine PySem.W.kdl_call (PySem.W.kdl_values (knd := mixKind X.prog X.w) (kvs := vs) (ep := ep)) (I.ok.hd hc) ⟨view, hat⟩ (by rw [← hl]; exact z) fun h' tk acc' c' hkeep hS hacc => ?_
  have ev : acc'.toList = vs.map (·.2) := PySem.W.kdl_vals_eq (kvs := vs) acc'.toList (by rw [Array.length_toList]; exact hacc.1) fun j v e => hacc.2 j v (by rw [← Array.getElem?_toList]; exact e)
  have rv : ∀ {l : List (L2.Key × V)} {m : List (L2.Key × Value)}, KV l m → Vals (l.map fun kv => kv.2) (m.map (·.2)) := by
    intro l m q
    unfold KV at q
    induction q with
    | nil => exact .nil
    | cons h t ih => exact .cons h.2 ih
  refine ⟨.ref s.heap.objs.size, upd H s.heap.objs.size (.lst (kvs.map fun kv => kv.2)), I.laid hkeep (Nat.le_refl _) (show ObjOk X.prog X.w _ _ _ (.lst (kvs.map fun kv => kv.2)) from ⟨by rw [List.length_map]; exact z, acc'.toList, c', ?_, ?_⟩), rfl, q _ (I.hok.fresh (Nat.le_refl _))⟩
  · rw [ev]; exact rv rk
  · rw [Array.toArray_toList]; exact hS
end
end TT
/-! SetU -/
/-! set(list of texts), sorted(set of texts) by values. -/
namespace TT
open PySem PySem.Spec PyProof.Rows L2
def setTO (w : World) (p : Addr) (S : Str → Bool) (n : Nat) : HO := .ext fun h => SetT w h p S n
theorem setTO_ok {w : World} {P : Program} {H : Hp} {h : Heap} {p : Addr} {S : Str → Bool} {n : Nat} (R : SetT w h p S n) : ObjOk P w H h p (setTO w p S n) := by
  obtain ⟨o, es, ep, t, ho, r⟩ := id R
  exact ⟨R, ⟨o, ho⟩, fun h1 h2 p k => SetT.at p k⟩
theorem vals_strs : ∀ {ns : List Str} {us : List Value}, Vals (ns.map V.str) us → us.length = ns.length ∧ ∀ (i : Nat) v, us[i]? = some v → ∃ k t, ns[i]? = some k ∧ v = .str k t
  | [], _, .nil => ⟨rfl, fun i v h => by simp at h⟩
  | n :: ns, _, .cons r t => by
    obtain ⟨h1, h2⟩ := vals_strs t
    obtain ⟨tk, rfl⟩ := r
    refine ⟨by simp [h1], fun i v e => ?_⟩
    cases i with
    | zero =>
      have e : Value.str n tk = v := by simpa using e
      exact ⟨n, tk, rfl, e.symm⟩
    | succ i => exact h2 i v (by simpa using e)
section
variable {X : Cx}
def rSetS (K : PySem.W.Frag) (w : World) : List V → Hp → VK → Prop := fun vs H Q => ∃ (l : Addr) (ns : List Str), vs = [.ref l] ∧ SqL K H l (ns.map V.str) ∧ ns.length + 1 < scanBound ∧
  ∀ p c, H p = none → c ≤ ns.length → Q (.ref p) (upd H p (setTO w p (fun j => decide (j ∈ ns)) c))
theorem call_setS0 (hc : X.calm = true) : CallR X (.type "set") (rSetS X.K X.w) := by
  intro pins s σ H vs us Q I r h
  obtain ⟨l, ns, rfl, hs, hz, q⟩ := h
  obtain rfl := Vals.ref1 r
  obtain ⟨its, rv, hl, _⟩ := I.list hs
  obtain ⟨e1, e2⟩ := vals_strs rv
  refine call_set_lstS ns (I.ok.hd hc) hl.isList ⟨by simpa using e1, fun i v e => e2 i v (by simpa using e)⟩ hz fun h' tk c R hc' hk => ?_
  exact ⟨.ref s.heap.objs.size, _, I.laid (t' := tk) (o := setTO X.w s.heap.objs.size (fun j => decide (j ∈ ns)) c) hk (Nat.le_refl _) (setTO_ok R), rfl, q _ c (I.hok.fresh (Nat.le_refl _)) hc'⟩
/-- sorted(set of texts) -/
def rSortSe (w : World) : List V → Hp → VK → Prop := fun vs H Q => ∃ (p : Addr) (S : Str → Bool) (n : Nat), vs = [.ref p] ∧ H p = some (setTO w p S n) ∧
  ∀ (K : PySem.W.Frag) (F : Hp) (q : Addr) (us : List V) (ys : List Str), ys.Nodup → (∀ k, k ∈ ys ↔ S k = true) → H q = none → DpAll K F us (sortD (ys.map .str)) → Q (.ref q) (upd H q (.lst us))
theorem vals_of_good {w : World} : ∀ {vs : List Value}, (∀ v ∈ vs, ∃ (k : Str) (tk : Tok), v = .str k tk) → ∃ ys : List Str, Vals (ys.map fun k => kV (.inr k)) vs ∧ ys = vs.map (fun v => match v with | .str k _ => k | _ => "")
  | [], _ => ⟨[], .nil, rfl⟩
  | v :: vs, h => by
    obtain ⟨ys, r, e⟩ := vals_of_good (w := w) fun u hu => h u (List.mem_cons_of_mem _ hu)
    obtain ⟨k, tk, rfl⟩ := h v List.mem_cons_self
    exact ⟨k :: ys, .cons ⟨tk, rfl⟩ r, by rw [List.map_cons, ← e]⟩
theorem call_sortedSe0 (hcalm : X.calm = true) (hu : X.A.units + 64 < cLine) : CallR X (.builtin "sorted") (rSortSe X.w) := by
  intro pins s σ H xs us Q I r q
  obtain ⟨a, S, n, rfl, hd, q⟩ := q
  obtain rfl := Vals.ref1 r
  have R : SetT X.w s.heap a S n := (show ObjOk X.prog X.w H s.heap a (setTO X.w a S n) from I.hok a _ hd).1
  obtain ⟨o, es, ep, t, ho, hex, hdat, g, nd, hm, hb, hf, hn, hr, hl⟩ := R
  refine Calls.call_function_entry PyProof.Rows.kind_sorted PyProof.Rows.plain_sorted PyProof.Rows.entry_sorted (PyProof.Rows.args_sorted1 _) ?_
  unfold Builtin.«sorted»
  refine wpAny_bind (m := checkCount "sorted" 1 1 _) (wpAny_pure ?_)
  refine wpAny_bind (collect_set (A := X.A.in1) (I.ok.hd hcalm) ⟨o, ho, hex.1, hdat⟩ hf hb hr hl fun s1 vs k1 hz g1 o1 pm => ?_)
  have hvl : vs.length = es.size := by rw [pm.length_eq, List.length_map, Array.length_toList]
  obtain ⟨ys, hv, ey⟩ := vals_of_good (w := X.w) (vs := vs) fun v hv => by
    obtain ⟨e, he, q⟩ := List.mem_map.mp (pm.mem_iff.mp hv)
    obtain ⟨k, tk, h1, _⟩ := g e he
    exact ⟨k, tk, by rw [← q]; exact h1⟩
  have pk : ys.Perm (es.toList.map keyT) := by
    rw [ey]
    have q := pm.map (fun v => match v with | .str k _ => k | _ => ("" : Str))
    rw [List.map_map] at q
    exact q
  have hz0 : ys.length ≤ sizeLine := by
    rw [pk.length_eq, List.length_map, Array.length_toList]
    exact Nat.le_trans (Nat.le_of_lt hb) (by decide)
  have hyl : ys.length = vs.length := by rw [ey, List.length_map]
  have hv : Vals ((ys.map fun k => (Sum.inr k : L2.Key)).map kV) vs := by rw [List.map_map]; exact hv
  have ek : (ys.map fun k => (Sum.inr k : L2.Key)).map keyD = ys.map PyData.str := by rw [List.map_map]; rfl
  refine wpAny_bind (wpAny_newList ?_ (by rw [← hyl]; exact hz0))
  have hoL : (s1.heap.push (seqObj "list" vs.toArray 0)).get? s1.heap.objs.size = some (seqObj "list" vs.toArray 0) := Heap.get?_push_size _ rfl
  refine wpAny_bind (wpAny_holding (PySem.W.list_sort_data (R := RV X.K H) (enc := id) (bs := ys.map PyData.str) (s := { s1 with heap := s1.heap.push (seqObj "list" vs.toArray 0) }) hoL (by rw [← ek]; exact each_of (keysD_dp _) hv)
    (by rw [← ek]; exact (reads_keys hv).mono fun v b ⟨as, h1, h2⟩ => ⟨as, h1, h2 _⟩) (by rw [List.map_id]; exact all_of (fun a b => by simp [PySem.W.alike]) ys) (.inr fun d hd' => ?_) (by rw [List.length_map]; exact hz0) (fun d hd' => ?_) fun out ho' eo => ?_))
  · rw [List.map_id] at hd'
    obtain ⟨k, _, rfl⟩ := List.mem_map.mp hd'
    exact ⟨fun h => (nomatch h), fun xs h => (nomatch h)⟩
  · obtain ⟨k, _, rfl⟩ := List.mem_map.mp hd'
    have : (PyData.str k).depth = 0 := by simp [PyData.depth]
    show X.A.units + 1 + 1 + (PyData.str k).depth < cLine
    omega
  · obtain ⟨zs, v1, d1⟩ := each_to eo
    obtain ⟨e', he'⟩ := PyProof.Rows.sortedHeap_at (vs := vs) (out := out.toArray) hoL
    have hlen : zs.length ≤ sizeLine := by
      rw [d1.len, List.length_mergeSort, List.length_map]
      exact hz0
    have hk : ∀ b u, s.heap.get? b = some u → (PyProof.Rows.sortedHeap (s1.heap.push (seqObj "list" vs.toArray 0)) s1.heap.objs.size vs out.toArray).get? b = some u := fun b u e => by
      have e1 := k1 b u e
      have hb : b < s1.heap.objs.size := Heap.lt_size e1
      rw [PyProof.Rows.sortedHeap_old (Nat.ne_of_lt hb) (by rw [size_push']; exact Nat.lt_succ_of_lt hb)]
      exact Heap.get?_push_of_some _ e1
    have hf : H s1.heap.objs.size = none := I.hok.fresh hz
    have J : Inv X pins σ (upd H s1.heap.objs.size (.lst zs)) { s with heap := PyProof.Rows.sortedHeap (s1.heap.push (seqObj "list" vs.toArray 0)) s1.heap.objs.size vs out.toArray, gens := s1.gens, drawn := s1.drawn, toks := s1.toks } :=
      I.call (ch := []) (Un.laid hk hz hf) (I.hok.laid hk hz ⟨hlen, out, e', v1, he'⟩) (by rw [g1]; exact I.bare) (fun _ z => nomatch z)
    have es1 : ({ s1 with heap := PyProof.Rows.sortedHeap (s1.heap.push (seqObj "list" vs.toArray 0)) s1.heap.objs.size vs out.toArray } : Shared) = { s with heap := PyProof.Rows.sortedHeap (s1.heap.push (seqObj "list" vs.toArray 0)) s1.heap.objs.size vs out.toArray, gens := s1.gens, drawn := s1.drawn, toks := s1.toks } := by
      cases s1
      cases s
      cases o1
      rfl
    refine wpAny_pure ⟨_, rfl, ?_⟩
    show EP X pins σ Q (.ref s1.heap.objs.size) { s1 with heap := PyProof.Rows.sortedHeap (s1.heap.push (seqObj "list" vs.toArray 0)) s1.heap.objs.size vs out.toArray }
    rw [es1]
    exact ⟨.ref s1.heap.objs.size, _, J, rfl, q X.K H _ zs ys (pk.nodup_iff.mpr nd) (fun k => by rw [pk.mem_iff, ← hm k]) hf d1⟩
end
end TT
/-! Rt -/
/-! Frozen dicts with texts as keys: made from pairs, read. -/
namespace TT
open PySem PySem.Spec PyProof.Rows L2
/-- a frozen dict that holds kds -/
def DicF (K : PySem.W.Frag) (kds : List (Key × D)) (F : Hp) (v : V) : Prop := ∃ q kvs, v = .ref q ∧ F q = some (.dK kvs) ∧ KD K F kvs kds
theorem DicF.ex {K : PySem.W.Frag} {kds : List (Key × D)} (F F' : Hp) (v : V) (e : Ex F F') (h : DicF K kds F v) : DicF K kds F' v := by
  obtain ⟨q, kvs, h1, h2, h3⟩ := h
  exact ⟨q, kvs, h1, e _ _ h2, h3.ex e⟩
theorem mergeK_new : ∀ (l acc : List (Key × V)), ((acc ++ l).map (·.1)).Nodup → mergeK acc l = acc ++ l
  | [], acc, _ => by simp [mergeK]
  | p :: l, acc, h => by
    have hn : valV acc p.1 = none := by
      rw [List.map_append, List.map_cons, List.nodup_append] at h
      cases e : valV acc p.1 with
      | none => rfl
      | some x =>
        unfold valV at e
        obtain ⟨y, hy, _⟩ := Option.map_eq_some_iff.mp e
        have h1 := List.find?_some hy
        have h2 := List.mem_of_find?_eq_some hy
        exact absurd (of_decide_eq_true h1) (h.2.2 _ (List.mem_map.mpr ⟨y, h2, rfl⟩) _ (by simp))
    show mergeK (putK acc p.1 p.2) l = _
    rw [putK_new p.2 hn, mergeK_new l (acc ++ [(p.1, p.2)]) (by rw [List.append_assoc]; exact h), List.append_assoc]
    rfl
section
variable {K : PySem.W.Frag} {σ : L2.St} {F B F' B' F0 B0 H : Hp} {ta te td : TE}
theorem pairs_of {F : Hp} : ∀ {kds : List (Key × D)} {vs : List V}, DpAll K F vs (kds.map fun kv => .tuple [keyD kv.1, kv.2]) → ∃ (ps : List Addr) (kvs : List (Key × V)), vs = ps.map .ref ∧ Paired (fun p kv => SqT K F p [kV kv.1, kv.2]) ps kvs ∧ KD K F kvs kds
  | [], vs, h => ⟨[], [], dpa_nil h, .nil, .nil⟩
  | kd :: kds, vs, h => by
    obtain ⟨v, us, rfl, h1, h2⟩ := dpa_cons h
    obtain ⟨a, xs, rfl, q1, q2⟩ := dp_tup h1
    obtain ⟨x, ys, rfl, q3, q4⟩ := dpa_cons q2
    obtain ⟨y, zs, rfl, q5, q6⟩ := dpa_cons q4
    rw [dpa_nil q6] at q1
    obtain ⟨ps, kvs, rfl, k1, k2⟩ := pairs_of (kds := kds) h2
    exact ⟨a :: ps, (kd.1, y) :: kvs, rfl, .cons (by rw [← dp_key q3]; exact q1) k1, .cons ⟨rfl, q5⟩ k2⟩
theorem er_dictP {kds : List (Key × D)} (h : EvN K te σ F B (kds.map fun kv => .tuple [keyD kv.1, kv.2])) (hn : (kds.map (·.1)).Nodup) : EvR (tCB (rDictP K) (tCons te tNil)) σ F B (DicF K kds) := fun F1 H1 g Q q =>
  h F1 H1 g _ fun p vs F2 H2 g2 hp hf h2 kv => by
    obtain ⟨ps, kvs, rfl, k1, k2⟩ := pairs_of kv
    refine ⟨p, ps, kvs, rfl, SqL.of h2, Paired.mapP k1 fun _ _ z => ex_t g2.fh z, fun l hl => ?_⟩
    rw [mergeK_new kvs [] (by rw [List.nil_append, k2.keys]; exact hn), List.nil_append]
    have g3 := Gr.new (o := .dK kvs) g2.fh hl
    exact q _ _ _ (g2.trans g3) ⟨l, kvs, rfl, upd_same, k2.ex g3.ff⟩
theorem ev_dgetR {R : Hp → V → Prop} {k : Key} {d : D} (hd : EvR td σ F B R) (hm : ∀ F F' v, Ex F F' → R F v → R F' v) (hR : ∀ F v, R F v → ∃ kds, DicF K kds F v ∧ valD kds k = some d) (hk : EvD K te σ F B (keyD k)) : EvD K (tDGet td te) σ F B d := fun F1 H1 g Q q =>
  hd F1 H1 g _ fun x F2 H2 g2 r => hk F2 H2 (g.trans g2) _ fun v F3 H3 g3 hv => by
    obtain ⟨kds, ⟨p, kvs, rfl, h1, h2⟩, e⟩ := hR F3 x (hm _ _ _ g3.ff r)
    obtain ⟨w, e1, e2⟩ := h2.some e
    exact ⟨p, w, rfl, .inl ⟨kvs, k, .inl (g3.fh p _ h1), dp_key hv, e1.symm⟩, q w F3 H3 (g2.trans g3) e2⟩
theorem en_sortR {R : Hp → V → Prop} {zs : List D} (hd : EvR te σ F B R) (hR : ∀ F v, R F v → ∃ kds, DicF K kds F v ∧ PySem.W.AllAlike (kds.map fun kv => keyD kv.1) ∧ sortD (kds.map fun kv => keyD kv.1) = zs) (hz : ∀ d ∈ zs, ∃ k, d = keyD k) : EvN K (tCB rSortK (tCons te tNil)) σ F B zs := fun F1 H1 g Q q =>
  hd F1 H1 g _ fun x F2 H2 g2 r => by
    obtain ⟨kds, ⟨p, kvs, rfl, h1, h2⟩, hal, hs⟩ := hR F2 x r
    have ek : (kvs.map fun kv => keyD kv.1) = kds.map fun kv => keyD kv.1 := by
      have e := congrArg (List.map keyD) h2.keys
      rw [List.map_map, List.map_map] at e
      exact e
    refine ⟨p, kvs, rfl, .inl (g2.fh p _ h1), by rw [ek]; exact hal, fun K' F' l us hl hu => ?_⟩
    rw [ek, hs] at hu
    exact q l us F2 _ (g2.trans (Gr.mut g2.fh hl)) (g2.hh.free hl) (g2.fh.free hl) upd_same (flat_all hz hu)
theorem kd_vals {F : Hp} : ∀ {kvs : List (Key × V)} {kds : List (Key × D)}, KD K F kvs kds → DpAll K F (kvs.map fun kv => kv.2) (kds.map fun kv => kv.2)
  | _, _, .nil => .nil
  | _, _, .cons h t => .cons h.2 (kd_vals t)
theorem en_valsR {kds : List (Key × D)} (hd : EvR td σ F B (DicF K kds)) : EvN K (tCB rListV (tCons (tBM0 K "dict" rVals td) tNil)) σ F B (kds.map fun kv => kv.2) := fun F1 H1 g Q q =>
  hd F1 H1 g _ fun x F2 H2 g2 r => by
    obtain ⟨p, kvs, rfl, h1, h2⟩ := r
    have h1' := g2.fh p _ h1
    refine ⟨.inr (.inr (.inl ⟨rfl, .inl ⟨kvs, h1'⟩⟩)), p, kvs, rfl, rfl, h1', fun l hl => ?_⟩
    have g3 : Gr F2 H2 F2 (upd H2 l (valuesO l p)) := Gr.mut g2.fh hl
    refine ⟨l, p, kvs, rfl, upd_same, g3.hh p _ h1', fun b hb => ?_⟩
    have g4 : Gr F2 (upd H2 l (valuesO l p)) F2 (upd (upd H2 l (valuesO l p)) b (.lst (kvs.map fun kv => kv.2))) := Gr.mut g3.fh hb
    have g24 := (g2.trans g3).trans g4
    exact q b _ F2 _ g24 ((g2.trans g3).hh.free hb) (g3.fh.free hb) upd_same (kd_vals h2)
theorem en_sortSet {w : World} {ns : List Str} {zs : List D} (h : EvN K te σ F B (ns.map .str)) (hb : ns.length + 1 < scanBound) (hz : ∀ ys : List Str, ys.Nodup → (∀ k, k ∈ ys ↔ k ∈ ns) → sortD (ys.map .str) = zs) (hk : ∀ d ∈ zs, ∃ k, d = keyD k) :
    EvN K (tCB (rSortSe w) (tCons (tCB (rSetS K w) (tCons te tNil)) tNil)) σ F B zs := fun F1 H1 g Q q =>
  h F1 H1 g _ fun p vs F2 H2 g2 hp hf h2 kv => by
    have e := dpa_strs kv
    subst e
    refine ⟨p, ns, rfl, SqL.of h2, hb, fun l c hl hc => ?_⟩
    have g3 : Gr F2 H2 F2 (upd H2 l (setTO w l (fun j => decide (j ∈ ns)) c)) := Gr.mut g2.fh hl
    refine ⟨l, _, c, rfl, upd_same, fun K' F' b us ys hn hm hb2 hu => ?_⟩
    have g4 : Gr F2 (upd H2 l (setTO w l (fun j => decide (j ∈ ns)) c)) F2 (upd (upd H2 l (setTO w l (fun j => decide (j ∈ ns)) c)) b (.lst us)) := Gr.mut g3.fh hb2
    rw [hz ys hn fun k => by rw [hm k, decide_eq_true_eq]] at hu
    exact q b us F2 _ ((g2.trans g3).trans g4) ((g2.trans g3).hh.free hb2) (g3.fh.free hb2) upd_same (flat_all hk hu)
end
end TT
/-! Rt2 -/
/-! The plain facts behind the last check. -/
namespace TT
open PySem PySem.Spec PyProof.Rows L2
abbrev fR (r : List Bool) : D := .str (runS r)
theorem fR_inj {r s : List Bool} (h : fR r = fR s) : r = s := by
  unfold fR at h
  injection h with h
  exact runS_inj h
theorem fR_tok (r s : List Bool) (h : PySem.W.keyToks (fR r) = PySem.W.keyToks (fR s)) : r = s := by
  simp [fR, PySem.W.keyToks] at h
  exact runS_inj (cps_inj (congrArg Array.toList h))
theorem keys_runs {a b : Th} : ∀ {ks : List Key}, (∀ x ∈ ks, ∃ r, RunB a b r ∧ x = rk r) → ∃ ns : List (List Bool), ks = ns.map rk ∧ ∀ r ∈ ns, RunB a b r
  | [], _ => ⟨[], rfl, fun r h => by cases h⟩
  | k :: ks, h => by
    obtain ⟨ns, e, h2⟩ := keys_runs (ks := ks) fun x hx => h x (List.mem_cons_of_mem _ hx)
    obtain ⟨r, hr, rfl⟩ := h k List.mem_cons_self
    refine ⟨r :: ns, by rw [e]; rfl, fun s hs => ?_⟩
    rcases List.mem_cons.mp hs with rfl | hs
    · exact hr
    · exact h2 s hs
theorem nodup_of_map {α β : Type} {f : α → β} : ∀ {l : List α}, (l.map f).Nodup → l.Nodup
  | [], _ => List.nodup_nil
  | a :: l, h => by
    rw [List.map_cons, List.nodup_cons] at h
    exact List.nodup_cons.mpr ⟨fun hm => h.1 (List.mem_map.mpr ⟨a, hm, rfl⟩), nodup_of_map h.2⟩
theorem RL_sort {a b : Th} {ns : List (List Bool)} (nd : ns.Nodup) (hm : ∀ r, r ∈ ns ↔ RunB a b r) : sortD (ns.map fR) = (RL a b).map fR := by
  have p : ns.Perm (RL a b) := (List.perm_ext_iff_of_nodup nd (RL_nodup a b)).mpr fun r => by rw [hm r, RL_mem]
  rw [sortD_map, sortBy_eq fR_tok (p.trans (sortBy_perm _ _))]
  rfl
theorem cls_sort {a b : Th} {kds : List (Key × D)} (oi : OI a b (RL a b).length kds) : PySem.W.AllAlike (kds.map fun kv => keyD kv.1) ∧ sortD (kds.map fun kv => keyD kv.1) = (RL a b).map fR := by
  obtain ⟨ns, e, h⟩ := keys_runs oi.ks
  have e2 : (kds.map fun kv => keyD kv.1) = ns.map fR := by
    have := congrArg (List.map keyD) e
    rw [List.map_map, List.map_map] at this
    exact this
  rw [e2]
  refine ⟨all_of (fun a b => by simp [PySem.W.alike]) ns, RL_sort (nodup_of_map (f := rk) (by rw [← e]; exact oi.nd)) fun r => ⟨h r, fun hr => ?_⟩⟩
  have : rk r ∈ kds.map (·.1) := (oi.mem r hr).mpr ⟨r, by rw [List.take_length]; exact RL_mem.mpr hr, rfl⟩
  rw [e] at this
  obtain ⟨s, hs, e3⟩ := List.mem_map.mp this
  exact rk_inj e3 ▸ hs
end TT
/-! Rt3 -/
/-! What the last check needs: counts, first runs, equal lists; readings of dicts behind relations. -/
namespace TT
open PySem PySem.Spec PyProof.Rows L2
theorem RL_len2 {a b : Th} (va : Vd a) (vb : Vd b) : (RL a b).length + 1 < scanBound := by
  have l1 := va.len
  have l2 := vb.len
  refine Nat.lt_of_lt_of_le (m := 4096) ?_ (by decide)
  by_cases h : a.length + b.length = 12
  · have e1 : a.length = 6 := by omega
    have e2 : b.length = 6 := by omega
    have ct : ∀ r ∈ RL a b, r.count true = 6 := fun r hr => by
      have := (RL_mem.mp hr).ha
      rw [e1] at this
      exact this
    have n1 : (List.replicate 12 true) ∉ RL a b := fun h => by have := ct _ h; simp at this
    have n2 : (List.replicate 12 false) ∉ RL a b := fun h => by have := ct _ h; simp at this
    have := sub_len (l := List.replicate 12 true :: List.replicate 12 false :: RL a b) (m := allL 12) ?_ ?_
    · rw [allL_len] at this
      simp at this
      omega
    · refine List.nodup_cons.mpr ⟨fun h => ?_, List.nodup_cons.mpr ⟨n2, RL_nodup a b⟩⟩
      rcases List.mem_cons.mp h with h | h
      · revert h; decide
      · exact n1 h
    · intro x hx
      rw [allL_mem]
      rcases List.mem_cons.mp hx with rfl | hx
      · simp
      · rcases List.mem_cons.mp hx with rfl | hx
        · simp
        · rw [(runB_len va vb (RL_mem.mp hx)).1, h]
  · have := sub_len (m := allL (a.length + b.length)) (RL_nodup a b) fun x hx => by rw [allL_mem, (runB_len va vb (RL_mem.mp hx)).1]
    rw [allL_len] at this
    have h2 : (2 : Nat) ^ (a.length + b.length) ≤ 2 ^ 11 := Nat.pow_le_pow_right (by decide) (by omega)
    omega
theorem RL_pos {a b : Th} (va : Vd a) (vb : Vd b) : 0 < (RL a b).length := by
  obtain ⟨r, R, _⟩ := TM.closed_run (w := fun _ => true) (cons_ok va vb) fun _ _ _ _ _ _ => rfl
  exact List.length_pos_of_mem (RL_mem.mpr ((run_iff va vb).mpr R))
/-! the first run with these winners -/
structure FB (a b : Th) (k : Nat) (kds : List (Key × D)) : Prop where
  vl : ∀ w : List Bool, valD kds (rk w) = (((RL a b).take k).find? fun s => decide (winL (cons a b) s = w)).map fR
  ln : kds.length ≤ k
theorem FB.start (a b : Th) : FB a b 0 [] := ⟨fun w => by simp [valD], Nat.le_refl _⟩
theorem FB.put {a b : Th} {k : Nat} {kds : List (Key × D)} {p : List Bool} (h : FB a b k kds) (hp : (RL a b)[k]? = some p) :
    FB a b (k + 1) (putD kds (rk (winL (cons a b) p)) ((valD kds (rk (winL (cons a b) p))).getD (fR p))) := by
  refine ⟨fun w => ?_, Nat.le_trans (putD_len _ _ _) (by have := h.ln; omega)⟩
  have tk : (RL a b).take (k + 1) = (RL a b).take k ++ [p] := by rw [List.take_add_one, hp]; rfl
  rw [valD_putD, tk, List.find?_append, h.vl]
  by_cases e : w = winL (cons a b) p
  · subst e
    rw [if_pos rfl, List.find?_cons_of_pos (by simp)]
    cases ((RL a b).take k).find? fun s => decide (winL (cons a b) s = winL (cons a b) p) <;> rfl
  · rw [if_neg (fun z => e (rk_inj z)), h.vl, List.find?_cons_of_neg (by simpa using fun z => e z.symm)]
    simp
theorem FB.full {a b : Th} {kds : List (Key × D)} (h : FB a b (RL a b).length kds) (r : List Bool) : valD kds (rk (winL (cons a b) r)) = (cls a b (RL a b) r).map fR := by
  rw [h.vl, List.take_length]
  rfl
/-! the classes -/
theorem cls_some {a b : Th} {r : List Bool} (hr : r ∈ RL a b) : ∃ s, cls a b (RL a b) r = some s ∧ winL (cons a b) s = winL (cons a b) r := by
  unfold cls
  cases e : (RL a b).find? fun s => decide (winL (cons a b) s = winL (cons a b) r) with
  | none =>
    rw [List.find?_eq_none] at e
    exact absurd (decide_eq_true rfl) (e r hr)
  | some s => exact ⟨s, rfl, of_decide_eq_true (List.find?_some (p := fun s => decide (winL (cons a b) s = winL (cons a b) r)) e)⟩
theorem cls_due {a b : Th} {r t s u : List Bool} (h1 : cls a b (RL a b) r = some s) (h2 : cls a b (RL a b) t = some u) (e1 : winL (cons a b) s = winL (cons a b) r) (e2 : winL (cons a b) u = winL (cons a b) t) :
    decide (runS s = runS u) = decide (winL (cons a b) r = winL (cons a b) t) := by
  refine decide_eq_decide.mpr ⟨fun h => by rw [← e1, ← e2, runS_inj h], fun h => ?_⟩
  unfold cls at h1 h2
  rw [h, h2] at h1
  cases h1
  rfl
theorem cls_get {K : PySem.W.Frag} {a b : Th} {r s : List Bool} {F : Hp} {v : V} (hr : r ∈ RL a b) (hs : cls a b (RL a b) r = some s) (h : ClsF K a b F v) : ∃ kds, DicF K kds F v ∧ valD kds (rk r) = some (fR s) := by
  obtain ⟨q, kvs, kds, rfl, h1, h2, oi⟩ := h
  refine ⟨kds, ⟨q, kvs, rfl, h1, h2⟩, ?_⟩
  have R := RL_mem.mp hr
  have hk := (oi.mem r R).mpr ⟨r, by rw [List.take_length]; exact hr, rfl⟩
  rw [key_in] at hk
  cases e : valD kds (rk r) with
  | none => rw [e] at hk; cases hk
  | some d =>
    obtain ⟨s', e1, e2⟩ := oi.vl r R d e
    rw [hs] at e1
    cases e1
    rw [e2]
theorem cls_sorted {K : PySem.W.Frag} {a b : Th} {F : Hp} {v : V} (h : ClsF K a b F v) : ∃ kds, DicF K kds F v ∧ PySem.W.AllAlike (kds.map fun kv => keyD kv.1) ∧ sortD (kds.map fun kv => keyD kv.1) = (RL a b).map fR := by
  obtain ⟨q, kvs, kds, rfl, h1, h2, oi⟩ := h
  exact ⟨kds, ⟨q, kvs, rfl, h1, h2⟩, cls_sort oi⟩
/-! the winners by runs -/
noncomputable def byD (a b : Th) : List (Key × D) := (RL a b).map fun r => (rk r, fR (winL (cons a b) r))
theorem byD_nodup (a b : Th) : ((byD a b).map (·.1)).Nodup := by
  unfold byD
  rw [List.map_map]
  exact nodup_map_on (fun x _ y _ e => rk_inj e) (RL_nodup a b)
theorem valD_mem {k : Key} {d : D} : ∀ {l : List (Key × D)}, (l.map (·.1)).Nodup → (k, d) ∈ l → valD l k = some d
  | [], _, h => by cases h
  | x :: l, nd, h => by
    rw [List.map_cons, List.nodup_cons] at nd
    unfold valD
    rcases List.mem_cons.mp h with e | h
    · subst e
      rw [List.find?_cons_of_pos (by simp)]
      rfl
    · have ne : ¬ x.1 = k := fun z => nd.1 (List.mem_map.mpr ⟨(k, d), h, z.symm⟩)
      rw [List.find?_cons_of_neg (by simpa using ne)]
      exact valD_mem nd.2 h
theorem byD_get {a b : Th} {r : List Bool} (hr : r ∈ RL a b) : valD (byD a b) (rk r) = some (fR (winL (cons a b) r)) := valD_mem (byD_nodup a b) (List.mem_map.mpr ⟨r, hr, rfl⟩)
/-! equal lists -/
theorem eqv_fR (l : List (List Bool)) : PyData.eqv (.list (l.map fR)) (.list (l.map fR)) = true := by
  have e : l.map fR = (l.map runS).map .str := by rw [List.map_map]; rfl
  rw [e, PyData.eqv, eqvAll_strs]
  simp
theorem eqv_inD (l : List Nat) : PyData.eqv (.tuple (inD l)) (.tuple (inD l)) = true := by
  rw [inD_eq, PyData.eqv, eqvAll_ints]
  simp
theorem shaped_fR (ws : List (List Bool)) : SeqAt.shaped (.list (ws.map fR)) = true := by
  have e : ws.map fR = (ws.map runS).map .str := by rw [List.map_map]; rfl
  rw [e]
  refine (shaped_strs fun s hs => ?_).1
  obtain ⟨r, _, rfl⟩ := List.mem_map.mp hs
  unfold PyData.strOk runS SX.S
  simp [Array.all_eq_true]
  exact ⟨fun _ => by decide, fun _ => by decide⟩
theorem alike_fR (l : List (List Bool)) : PySem.W.AllAlike (l.map fR) := all_of (fun a b => by simp [PySem.W.alike]) l
theorem depth_fR (l : List (List Bool)) : ∀ d ∈ l.map fR, d.depth ≤ 60 := dep_of (fun a => by simp [PyData.depth]) l
/-- the winners that occur, sorted, are the closed letters, sorted -/
theorem win_sort {a b : Th} (va : Vd a) (vb : Vd b) {ys : List Str} (nd : ys.Nodup) (hm : ∀ k, k ∈ ys ↔ k ∈ (RL a b).map fun r => runS (winL (cons a b) r)) : sortD (ys.map .str) = (sortBy fR (goodL (cons a b))).map fR := by
  obtain ⟨ls, rfl⟩ : ∃ ls : List (List Bool), ys = ls.map runS := by
    have : ∀ ys : List Str, (∀ k ∈ ys, k ∈ (RL a b).map fun r => runS (winL (cons a b) r)) → ∃ ls : List (List Bool), ys = ls.map runS := by
      intro ys
      induction ys with
      | nil => intro _; exact ⟨[], rfl⟩
      | cons y ys ih =>
        intro h
        obtain ⟨ls, e⟩ := ih fun k hk => h k (List.mem_cons_of_mem _ hk)
        obtain ⟨r, _, e2⟩ := List.mem_map.mp (h y List.mem_cons_self)
        exact ⟨winL (cons a b) r :: ls, by rw [List.map_cons, e, e2]⟩
    exact this ys fun k hk => (hm k).mp hk
  have p : ls.Perm (goodL (cons a b)) := (List.perm_ext_iff_of_nodup (nodup_of_map nd) (good_nodup _)).mpr fun l => by
    rw [good_win va vb]
    constructor
    · intro h
      obtain ⟨r, hr, e⟩ := List.mem_map.mp ((hm (runS l)).mp (List.mem_map.mpr ⟨l, h, rfl⟩))
      exact ⟨r, hr, runS_inj e⟩
    · rintro ⟨r, hr, rfl⟩
      obtain ⟨l, hl, e⟩ := List.mem_map.mp ((hm _).mpr (List.mem_map.mpr ⟨r, hr, rfl⟩))
      exact runS_inj e ▸ hl
  have e : (ls.map runS).map PyData.str = ls.map fR := by rw [List.map_map]; rfl
  rw [e, sortD_map, sortBy_eq fR_tok p]
theorem led_sort {cs : List Ct} {k : Nat} {ks : List Key} (nd : ks.Nodup) (h : ∀ x, x ∈ ks ↔ ∃ j : Nat, x = .inl (j : Nat) ∧ j ∈ led cs k) : PySem.W.AllAlike (ks.map keyD) ∧ sortD (ks.map keyD) = inD (led cs k) := by
  have : ∀ ks : List Key, (∀ x ∈ ks, ∃ j : Nat, x = .inl (j : Nat) ∧ j ∈ led cs k) → ∃ ns : List Nat, ks = ns.map fun j : Nat => (Sum.inl (j : Int) : Key) := by
    intro ks
    induction ks with
    | nil => intro _; exact ⟨[], rfl⟩
    | cons x ks ih =>
      intro h
      obtain ⟨ns, e⟩ := ih fun y hy => h y (List.mem_cons_of_mem _ hy)
      obtain ⟨j, rfl, _⟩ := h x List.mem_cons_self
      exact ⟨j :: ns, by rw [e]; rfl⟩
  obtain ⟨ns, rfl⟩ := this ks fun x hx => (h x).mp hx
  have e : (ns.map fun j : Nat => (Sum.inl (j : Int) : Key)).map keyD = inD ns := by rw [List.map_map]; rfl
  rw [e]
  refine ⟨all_of (fun a b => by simp [PySem.W.alike]) ns, sort_rise ((List.perm_ext_iff_of_nodup (nodup_of_map nd) (led_nodup cs k)).mpr fun j => ?_) (led_sorted cs k)⟩
  constructor
  · intro hj
    obtain ⟨i, e, hi⟩ := (h _).mp (List.mem_map.mpr ⟨j, hj, rfl⟩)
    have : j = i := by have := Sum.inl.inj e; omega
    rw [this]; exact hi
  · intro hj
    obtain ⟨i, hi, e⟩ := List.mem_map.mp ((h (.inl (j : Nat))).mpr ⟨j, rfl, hj⟩)
    have : i = j := by have := Sum.inl.inj e; omega
    rw [← this]; exact hi
section
variable {K : PySem.W.Frag} {σ : L2.St} {es : List SV} {F B F0 B0 H : Hp} {ta te td tx : TE} {d x : D} {k : Key} {p : Addr} {kds : List (Key × D)} {zs : List D}
theorem ev_dget2 (hd : EvV td σ F B (.ref p)) (hk : EvD K te σ F B (keyD k)) (hx : EvD K tx σ F B x) (m : MOk K F B (.dK p kds)) : EvD K (tDGet2 td te tx) σ F B ((valD kds k).getD x) := fun F1 H1 g Q q =>
  hd F1 H1 g _ fun F2 H2 g2 => by
    obtain ⟨_, kvs, h1, _⟩ := m.gr (g.trans g2)
    refine ⟨p, rfl, .inl ⟨kvs, .inl h1⟩, hk F2 H2 (g.trans g2) _ fun v F3 H3 g3 hv => hx F3 H3 ((g.trans g2).trans g3) _ fun z F4 H4 g4 hz => ?_⟩
    obtain ⟨_, kvs4, h4, k4⟩ := m.gr (((g.trans g2).trans g3).trans g4)
    refine ⟨_, .inl ⟨kvs4, k, .inl h4, dp_key hv, rfl⟩, q _ F4 H4 ((g2.trans g3).trans g4) ?_⟩
    rcases k4.get k with ⟨e1, e2⟩ | ⟨d, v, e1, e2, e3⟩
    · rw [e1, e2]; exact hz
    · rw [e1, e2]; exact e3
/-- sorted(d), by its keys alone -/
theorem en_sortKs {R : Hp → V → Prop} (hd : EvR te σ F B R) (hR : ∀ F v, R F v → ∃ q kvs, v = .ref q ∧ F q = some (.dK kvs) ∧ PySem.W.AllAlike (kvs.map fun kv => keyD kv.1) ∧ sortD (kvs.map fun kv => keyD kv.1) = zs) (hz : ∀ d ∈ zs, ∃ k, d = keyD k) : EvN K (tCB rSortK (tCons te tNil)) σ F B zs := fun F1 H1 g Q q =>
  hd F1 H1 g _ fun x F2 H2 g2 r => by
    obtain ⟨p, kvs, rfl, h1, hal, hs⟩ := hR F2 x r
    refine ⟨p, kvs, rfl, .inl (g2.fh p _ h1), hal, fun K' F' l us hl hu => ?_⟩
    rw [hs] at hu
    exact q l us F2 _ (g2.trans (Gr.mut g2.fh hl)) (g2.hh.free hl) (g2.fh.free hl) upd_same (flat_all hz hu)
theorem ledF_sorted {cs : List Ct} {k : Nat} {F : Hp} {v : V} (h : LedF cs k F v) : ∃ q kvs, v = .ref q ∧ F q = some (.dK kvs) ∧ PySem.W.AllAlike (kvs.map fun kv => keyD kv.1) ∧ sortD (kvs.map fun kv => keyD kv.1) = inD (led cs k) := by
  obtain ⟨q, kvs, rfl, h1, nd, hk⟩ := h
  have := led_sort nd hk
  rw [List.map_map] at this
  exact ⟨q, kvs, rfl, h1, this⟩
/-- led[at] -/
theorem er_ixLed {cs : List Ct} {i : Nat} (hd : EvR td σ F B (LedL cs)) (hi : EvD K te σ F B (.int (i : Nat))) (h : i < cs.length) : EvR (tOp (rIxL K) td te) σ F B (LedF cs i) := fun F1 H1 g Q q =>
  hd F1 H1 g _ fun x F2 H2 g2 r => hi F2 H2 (g.trans g2) _ fun y F3 H3 g3 hy => by
    obtain ⟨l, us, rfl, fl, pr⟩ := LedL.ex _ _ _ g3.ff r
    obtain ⟨v, hv, lf⟩ := pr_get pr (i := i) (b := i) (by rw [List.getElem?_range h])
    exact ⟨l, us, (i : Int), v, rfl, dp_int hy, SqL.of (g3.fh _ _ fl), atI_nat hv, q v F3 H3 (g2.trans g3) lf⟩
end
end TT
/-! D__law_thread -/
namespace TT
open PySem PySem.Spec PyProof.Rows L2 C8
def sp__law_thread (K : PySem.W.Frag) : Sp := SpS K 30 fun ds A => ∃ (lo va : List Str) (n m : Nat), NamesOk n lo ∧ n ≤ 4 ∧ NamesOk m va ∧ 0 < m ∧ m ≤ 4 ∧ ds = [.list (lo.map .str), .list (va.map .str), .int 6] ∧ A = fun d => ∃ t, Vd t ∧ d = thD t
theorem len__law_thread {K : PySem.W.Frag} : ∀ vs H Q E, sp__law_thread K vs H Q E → vs.length = 4 := spS_len (by rintro _ _ ⟨a, b, n, m, _, _, _, _, _, rfl, _⟩; rfl)
theorem strs_shaped {n : Nat} {xs : List Str} (h : ∀ x ∈ xs, PyData.strOk x = true) : SeqAt.shaped (.list (xs.map .str)) = true := (shaped_strs h).1
abbrev N__law_thread : List Str := ["_law_source", "_law_locks", "_law_variables", "_law_most", "_law_found", "_law_kept_here", "_law_turn", "_law_way", "_law_free", "_law_name", "_law_word"]
theorem sc__law_thread : FnScope N__law_thread ["_law_source", "_law_locks", "_law_variables", "_law_most"] (C8.fnScope st__law_thread) := C8.fnScope_by (by decide +kernel)
theorem c__law_thread {P : Program} {w : World} {K : PySem.W.Frag} {mg : Str → Option Value} {base : Heap} (T : Txt K mg) (c__law_draw : C8.Cal P w K mg base 1 "_law_draw" (sp__law_draw K) []) (c__law_choice : C8.Cal P w K mg base 2 "_law_choice" (sp__law_choice K) []) : C8.Cal P w K mg base 3 "_law_thread" (sp__law_thread K) [] := by
  obtain ⟨f, fd, Fd, df⟩ := T.d__law_thread
  refine C8.cal0 Fd (Fd.fn.binds df (ps := ["_law_source", "_law_locks", "_law_variables", "_law_most"]) (fun _ _ _ _ _ _ us hl => match us, hl with | [_, _, _, _], _ => rfl)) .nil sc__law_thread len__law_thread fun cdv A outer s H vs Q E hr hsp => ?_
  have hu := hu_of hr
  have nd := (sc__law_thread).nd
  refine ⟨_, (pss_cons (ps_asg (pe_tup (pa_cons (pe_lst pa_nil) (pa_cons (pe_lst pa_nil) pa_nil))) (kpg_tup (K := K) (n := 2) (by rfl) (by rfl) (pgs_cons (pg_name (i := 4) nd (by rfl) (by first | exact Or.inl rfl | exact Or.inr rfl)) (pgs_cons (pg_name (i := 5) nd (by rfl) (by first | exact Or.inl rfl | exact Or.inr rfl)) pgs_nil))))
  (pss_cons (ps_for PassesOwn.never rfl (pi_range1 (by rfl) T.b_range (pa_cons (pe_c c__law_draw hr (by decide) (by rfl) (pa_cons (pv 0) (pa_cons (pe_op op_add (pv 3) pe_int) pa_nil))) pa_nil)) (pg_name (i := 6) nd (by rfl) (by first | exact Or.inl rfl | exact Or.inr rfl))
   (pss_cons (ps_par (i := 7) (j := 8) (by rfl) nd (by rfl) (by rfl) (by decide) (by rfl) (by rfl) (pa_cons (pe_c c__law_draw hr (by decide) (by rfl) (pa_cons (pv 0) (pa_cons pe_int pa_nil))) (pa_cons (pe_lc (own := [("_law_name", 9)]) (by rfl) nd (kpi_list (K := K) (by rfl) (pv 1)) (blkOk_by (by kernel_rfl)) (fun _ _ _ _ _ => (pg_name (i := 9) nd (by rfl) (by first | exact Or.inl rfl | exact Or.inr rfl))) (fun _ _ _ _ _ => (pts_one (pt_cmpR (knin (K := K) (by rfl)) (pv 9) (pv 5) (by rfl)))) (fun _ _ _ _ _ => (pv 9))) pa_nil)) (by rfl))
  (pss_one (ps_if (PW.pt (pw_and (pt_cmpR op_lt (pv 7) pe_int (nomark _)) (pw_and (pt_cmpR (kneD (K := K) (by rfl) hr.units) (pv 8) (pe_lst pa_nil) (nomark _)) (pw_and1 (pt_cmpR op_le (pe_op op_add (pe_op op_add (pe_callB (kc_len (K := K) (by rfl)) (by rfl) T.b_len (by decide +kernel) (pa_cons (pv 4) pa_nil)) (pe_callB (kc_len (K := K) (by rfl)) (by rfl) T.b_len (by decide +kernel) (pa_cons (pv 5) pa_nil))) pe_int) (pv 3) (nomark _))))))
   (pss_cons (ps_expr (kbm (K := K) (by rfl) PySem.F.plainAttrs_list PySem.F.slot_list_append PySem.F.type_list_append mt_append (pv 5) (pa_cons (pe_c c__law_choice hr (by decide) (by rfl) (pa_cons (pv 0) (pa_cons (pv 8) pa_nil))) pa_nil)))
  (pss_one (ps_expr (kbm (K := K) (by rfl) PySem.F.plainAttrs_list PySem.F.slot_list_append PySem.F.type_list_append mt_append (pv 4) (pa_cons (pe_tup (pa_cons (pe_c c__law_choice hr (by decide) (by rfl) (pa_cons (pv 0) (pa_cons (pe_lst (pa_cons pe_str (pa_cons pe_str (pa_cons pe_str (pa_cons pe_str pa_nil))))) pa_nil))) (pa_cons (pe_ix (kix_list (K := K) (by rfl)) (pv 5) (pe_un un_neg pe_int) (fun _ _ => rfl)) pa_nil))) pa_nil)))))
   (pss_one (ps_if (PW.pt (pw_and (pt_cmpR op_lt (pv 7) pe_int (nomark _)) (pw_and1 (pt_cmpR (kneD (K := K) (by rfl) hr.units) (pv 5) (pe_lst pa_nil) (nomark _)))))
   (pss_cons (ps_set (i := 9) nd (by rfl) (by first | exact Or.inl rfl | exact Or.inr rfl) (pe_c c__law_choice hr (by decide) (by rfl) (pa_cons (pv 0) (pa_cons (pv 5) pa_nil))))
  (pss_cons (ps_expr (kbm (K := K) (by rfl) PySem.F.plainAttrs_list PySem.F.slot_list_remove PySem.F.type_list_remove mt_removeS (pv 5) (pa_cons (pv 9) pa_nil)))
  (pss_one (ps_expr (kbm (K := K) (by rfl) PySem.F.plainAttrs_list PySem.F.slot_list_append PySem.F.type_list_append mt_append (pv 4) (pa_cons (pe_tup (pa_cons pe_str (pa_cons (pv 9) pa_nil))) pa_nil))))))
   (pss_one (ps_if (pt_cmpR op_le (pe_op op_add (pe_op op_add (pe_callB (kc_len (K := K) (by rfl)) (by rfl) T.b_len (by decide +kernel) (pa_cons (pv 4) pa_nil)) (pe_callB (kc_len (K := K) (by rfl)) (by rfl) T.b_len (by decide +kernel) (pa_cons (pv 5) pa_nil))) pe_int) (pv 3) (nomark _))
   (pss_cons (ps_set (i := 10) nd (by rfl) (by first | exact Or.inl rfl | exact Or.inr rfl) (pe_c c__law_choice hr (by decide) (by rfl) (pa_cons (pv 0) (pa_cons (pe_lst (pa_cons pe_str (pa_cons pe_str (pa_cons pe_str (pa_cons pe_str pa_nil))))) pa_nil))))
  (pss_one (ps_expr (kbm (K := K) (by rfl) PySem.F.plainAttrs_list PySem.F.slot_list_append PySem.F.type_list_append mt_append (pv 4) (pa_cons (pe_tup (pa_cons (pv 10) (pa_cons (pe_c c__law_choice hr (by decide) (by rfl) (pa_cons (pv 0) (pa_cons (pv 2) pa_nil))) pa_nil))) pa_nil)))))
   pss_nil))))))))
  (pss_one (ps_ret (pe_op (kcatT (K := K) (by rfl)) (pe_callTy (kc_tuple (K := K) (by rfl)) (by rfl) T.b_tuple (by decide +kernel) (pa_cons (pv 4) pa_nil)) (pe_callTy (kc_tuple (K := K) (by rfl)) (by rfl) T.b_tuple (by decide +kernel) (pa_cons (pe_lc (own := [("_law_name", 9)]) (by rfl) nd (kpi_list (K := K) (by rfl) (pv 5)) (blkOk_by (by kernel_rfl)) (fun _ _ _ _ _ => (pg_name (i := 9) nd (by rfl) (by first | exact Or.inl rfl | exact Or.inr rfl))) (fun _ _ _ _ _ => pts_nil) (fun _ _ _ _ _ => (pe_tup (pa_cons pe_str (pa_cons (pv 9) pa_nil))))) pa_nil))))))), ?_⟩
  obtain ⟨F, a, c, us, ds, A, rfl, e0, m0, hc, ks, ⟨lo, va, nl, nv, hlo, hnl, hva, hv0, hv4, rfl, rfl⟩, q⟩ := hsp
  have S : Sta K F (del H a) [.val (.ref a), .dat (.list (lo.map .str)), .dat (.list (va.map .str)), .dat (.int 6), .un, .un, .un, .un, .un, .un, .un] [.src a c] F H (L2.start N__law_thread (.ref a :: us)) := Sta.beginS 7 e0 m0 ks
  refine st_parCMM S (EvN.toM (en_lst ea_nil)) (EvN.toM (en_lst ea_nil)) fun pf pk F1 H1 σ1 S1 => ?_
  have so := S1.so
  refine for_rngS (n := 0 + 0 + 1) (A := fun d => ∃ r : Nat, r < 7 ∧ d = .int (r : Nat)) S1 (j := 2) rfl (by omega) (es_call (ev_val so rfl) (esa_cons (es_D (ev_op (ev_var so rfl) (ev_int _) r2_I0)) esa_nil) ?_) (fun d ⟨r, _, e⟩ => ⟨r, e⟩) fun r c2 F2 H2 hc2 hr S2 => ?_
  · rintro ds ⟨d, r, rfl, rfl, rfl⟩
    exact ⟨_, ⟨7, by decide, by decide, rfl, rfl⟩, fun d h => h⟩
  obtain ⟨r', hr', er⟩ := hr
  have hr7 : r < 7 := by injection er with er; omega
  refine for_A (List.range r) (fun k => .int ((0 + k : Nat) : Int)) S2 (it_rng1 (n := r) (ea_cons (ev_int _) ea_nil) (by omega)) rfl
    (fun k es ms => es = [.val (.ref a), .dat (.list (lo.map .str)), .dat (.list (va.map .str)), .dat (.int 6), .val (.ref pf), .val (.ref pk), .un, .un, .un, .un, .un] ∧ ∃ t hs c', ms = [.lst pk (hs.map .str), .lst pf (t.map stD), .src a c'] ∧ VI t hs ∧ t.length + hs.length ≤ 6 ∧ (∀ x ∈ hs, PyData.strOk x = true) ∧ c' ≤ c + 1 + 4 * k) ⟨rfl, [], [], c2, rfl, VI.start, by decide, (fun x hx => nomatch hx), by omega⟩ ?_ ?_
  · rintro Fb Bb gb k k' es ms F3 H3 σ3 hk ⟨rfl, t, hs, c', rfl, vi, hl, hok, hc'⟩ S3
    have hkr : k < 6 := by
      obtain ⟨h1, h2⟩ := List.getElem?_eq_some_iff.mp hk
      rw [List.length_range] at h1
      omega
    refine ⟨_, _, tg_name, fun σ4 S4 => ?_⟩
    have so := S4.so
    let fr : List Str := lo.filter fun x => !decide (x ∈ hs)
    have frd : (lo.filter fun x => !decide (x ∈ hs)).map PyData.str = fr.map .str := rfl
    refine st_parSD (n := 0 + 0 + 1) (A := fun d => ∃ r : Nat, r < 8 ∧ d = .int (r : Nat)) (d2 := .list (fr.map .str)) S4 (j := 2) rfl (by omega) (es_call (ev_val so rfl) (esa_cons (es_D (ev_int 8)) esa_nil) ?_) (fun F5 H5 c5 S5 => ?fre) fun d F5 H5 σ5 c5 hc5 hd S5 => ?_
    · rintro ds ⟨d, r, rfl, rfl, rfl⟩
      exact ⟨_, ⟨8, by decide, by decide, rfl, rfl⟩, fun d h => h⟩
    case fre =>
      have sop := (S5.so.ex S5.ex).pk S5.ex (S5.m (j := 0) rfl) (i := 5) rfl
      refine EvN.toD (en_peek (en_lcA lo (fun x => .str x) sop (it_list (ev_var sop rfl)) rfl (fun x => !decide (x ∈ hs)) (fun x => .str x) _ (by rw [hlo.1]; omega) (fun _ _ => tg_name) (by decide) (fun x _ F6 H6 σ6 g6 so6 => (et_test (ev_op (ev_var so6 rfl) (ev_var so6 rfl) r2_ninL))) (fun x _ _ F6 H6 σ6 g6 so6 => (ev_var so6 rfl))) (fun d hd => ?_))
      obtain ⟨x, _, rfl⟩ := List.mem_map.mp hd
      rfl
    obtain ⟨way, hway, rfl⟩ := hd
    have S5 : Sta K Fb Bb [.val (.ref a), .dat (.list (lo.map .str)), .dat (.list (va.map .str)), .dat (.int 6), .val (.ref pf), .val (.ref pk), .dat (.int ((0 + k' : Nat) : Int)), .dat (.int (way : Nat)), .dat (.list (fr.map .str)), .un, .un] [.lst pk (hs.map .str), .lst pf (t.map stD), .src a c5] F5 H5 σ5 := S5
    have frok : ∀ x ∈ fr, PyData.strOk x = true ∧ x ∉ hs := fun x hx => by
      obtain ⟨h1, h2⟩ := List.mem_filter.mp hx
      exact ⟨hlo.2.2 x h1, by simpa using h2⟩
    have frl : fr.length ≤ 4 := Nat.le_trans (List.length_filter_le _ _) (by rw [hlo.1]; exact hnl)
    have so1 := (S5.so.ex S5.ex).pk S5.ex (S5.m (j := 0) rfl) (i := 5) rfl
    have so2 := so1.put (i := 4) (S5.so.val (i := 4) rfl) (d := .list (t.map stD)) (by
      obtain ⟨hf, vs, h1, h2⟩ := S5.m (j := 1) rfl
      exact .lst (SqL.of h1) (h2.ex S5.ex))
    have frs : SeqAt.shaped (.list (fr.map .str)) = true := strs_shaped (n := 0) fun x hx => (frok x hx).1
    have hss : SeqAt.shaped (.list (hs.map .str)) = true := strs_shaped (n := 0) hok
    let es9 : List SV := [.val (.ref a), .dat (.list (lo.map .str)), .dat (.list (va.map .str)), .dat (.int 6), .val (.ref pf), .val (.ref pk), .un, .un, .un, .un, .un]
    refine st_if S5 (et_peek (et_and (et_test (ev_op (ev_var so2 rfl) (ev_int _) r2_B0)) (fun _ => (et_and (et_test (ev_op (ev_var so2 rfl) (ev_lst ea_nil) (r2_neD frs rfl))) (fun _ => (et_test (ev_op (ev_op (ev_op (ev_cb (ea_cons (ev_var so2 rfl) ea_nil) rc_lenL) (ev_cb (ea_cons (ev_var so2 rfl) ea_nil) rc_lenL) r2_I0) (ev_int _) r2_I0) (ev_var so2 rfl) r2_B0))))))) (fun hb F6 H6 S6 => ?_) (fun hb F6 H6 S6 => ?_)
    · -- a lock
      rw [Bool.and_eq_true, Bool.and_eq_true, ne_nilD] at hb
      obtain ⟨_, hb2, hb3⟩ := hb
      have hb3 := of_decide_eq_true hb3
      rw [List.length_map, List.length_map] at hb3
      have hfr : 0 < fr.length := by
        cases e : fr with
        | nil => rw [e] at hb2; simp at hb2
        | cons x l => simp
      have hroom : t.length + hs.length + 2 ≤ 6 := by omega
      have so := S6.so
      refine stS_app (n := 0 + 0 + 1) (A := fun d => ∃ s ∈ fr, d = .str s) S6 (j := 2) (j2 := 0) rfl (by omega) rfl rfl (by decide) (es_call (ev_val so rfl) (esa_cons (es_D (ev_var so rfl)) esa_nil) ?_) (by rw [List.length_map]; omega) fun d F7 H7 c7 hc7 hd S7 => ?_
      · rintro ds ⟨d, r, rfl, rfl, rfl⟩
        refine ⟨_, ⟨fr.map .str, by rw [List.length_map]; exact hfr, by rw [List.length_map]; omega, rfl, rfl⟩, fun d h => ?_⟩
        obtain ⟨s, hs, rfl⟩ := List.mem_map.mp h
        exact ⟨s, hs, rfl⟩
      obtain ⟨s, hsm, rfl⟩ := hd
      obtain ⟨sok, snot⟩ := frok s hsm
      have S7 : Sta K Fb Bb [.val (.ref a), .dat (.list (lo.map .str)), .dat (.list (va.map .str)), .dat (.int 6), .val (.ref pf), .val (.ref pk), .dat (.int ((0 + k' : Nat) : Int)), .dat (.int (way : Nat)), .dat (.list (fr.map .str)), .un, .un] [.lst pk ((hs ++ [s]).map .str), .lst pf (t.map stD), .src a c7] F7 H7 σ5 := by
        rw [List.map_append]
        exact S7
      have so := S7.so
      let W : List Str := ["lock", "lock", "lock", "share"]
      have last : atI ((hs ++ [s]).map PyData.str) (-1) = some (.str s) := by
        unfold atI ixN
        rw [if_neg (by decide), if_pos (by rw [List.length_map, List.length_append]; simp; omega)]
        show ((hs ++ [s]).map PyData.str)[_]? = _
        rw [List.length_map, List.length_append, List.length_singleton, show (-1 + ((hs.length + 1 : Nat) : Int)).toNat = hs.length by omega]
        simp
      have so7 := S7.pkd (j := 2) (i := 5) (i2 := 0) rfl rfl rfl (by decide)
      refine stS_app (n := 0 + 0 + 1 + (0 + 0)) (A := fun d => ∃ w ∈ W, d = .tuple [.str w, .str s]) S7 (j := 2) (j2 := 1) rfl (by omega) rfl rfl (by decide)
        (EvS.weak (es_tup (esa_cons (es_call (A := fun d => ∃ w ∈ W, d = .str w) (ev_val so rfl) (esa_cons (es_D (ev_lst (ea_cons (ev_str _) (ea_cons (ev_str _) (ea_cons (ev_str _) (ea_cons (ev_str _) ea_nil)))))) esa_nil) ?_) (esa_cons (es_D (ev_peek (ev_op (ev_var so7 rfl) (ev_neg (ev_int 1)) (r2_ixL last)))) esa_nil)) ?_) (Nat.le_refl _) ?_) (by rw [List.length_map]; omega) fun d F8 H8 c8 hc8 hd S8 => ?_
      · rintro ds ⟨d, r, rfl, rfl, rfl⟩
        refine ⟨_, ⟨W.map .str, by decide, by decide, rfl, rfl⟩, fun d h => ?_⟩
        obtain ⟨s, hs, rfl⟩ := List.mem_map.mp h
        exact ⟨s, hs, rfl⟩
      · rintro ds ⟨d, r, rfl, _, d', r', rfl, _, rfl⟩
        show 2 ≤ 100
        decide
      · rintro d ⟨ds, ⟨d1, r1, rfl, ⟨w, hw, rfl⟩, d2, r2, rfl, rfl, rfl⟩, rfl⟩
        exact ⟨w, hw, rfl⟩
      obtain ⟨w, hw, rfl⟩ := hd
      have wl : isL w = true ∧ PyData.strOk w = true := by
        have hw' : w ∈ (["lock", "lock", "lock", "share"] : List Str) := hw
        simp only [List.mem_cons, List.not_mem_nil, or_false] at hw'
        rcases hw' with rfl | rfl | rfl | rfl <;> exact ⟨by decide +kernel, by decide +kernel⟩
      refine NX.of (S8.weak (es' := es9) (by repeat (first | exact .nil | refine .cons (by first | exact trivial | rfl) ?_))) ⟨rfl, t ++ [(w, s)], hs ++ [s], c8, by simp, vi.lock wl.1 snot wl.2 sok, by simp; omega, fun x hx => ?_, by omega⟩
      rcases List.mem_append.mp hx with hx | hx
      · exact hok x hx
      · rw [List.mem_singleton.mp hx]; exact sok
    · have so1 := (S6.so.ex S6.ex).pk S6.ex (S6.m (j := 0) rfl) (i := 5) rfl
      have so2 := so1.put (i := 4) (S6.so.val (i := 4) rfl) (d := .list (t.map stD)) (by
        obtain ⟨hf, vs, h1, h2⟩ := S6.m (j := 1) rfl
        exact .lst (SqL.of h1) (h2.ex S6.ex))
      refine st_if S6 (et_peek (et_and (et_test (ev_op (ev_var so2 rfl) (ev_int _) r2_B0)) (fun _ => (et_test (ev_op (ev_var so2 rfl) (ev_lst ea_nil) (r2_neD hss rfl)))))) (fun hb2 F7 H7 S7 => ?_) (fun hb2 F7 H7 S7 => ?_)
      · -- a free
        rw [Bool.and_eq_true, ne_nilD] at hb2
        have hh : 0 < hs.length := by
          cases e : hs with
          | nil => rw [e] at hb2; simp at hb2
          | cons x l => simp
        refine stS_set (n := 0 + 0 + 1) (A := fun d => ∃ s ∈ hs, d = .str s) S7 (j := 2) rfl (by omega) (es_look (i := 5) (i2 := 0) S7 (j := 2) rfl rfl rfl (by decide) (by rintro d ⟨s, _, rfl⟩; rfl) fun F' so' => es_call (ev_val so' rfl) (esa_cons (es_D (ev_var (i := 5) so' rfl)) esa_nil) ?_) fun d F8 H8 σ8 c8 hc8 hd S8 => ?_
        · rintro ds ⟨d, r, rfl, rfl, rfl⟩
          refine ⟨_, ⟨hs.map .str, by rw [List.length_map]; exact hh, by rw [List.length_map]; omega, rfl, rfl⟩, fun d h => ?_⟩
          obtain ⟨s, hs, rfl⟩ := List.mem_map.mp h
          exact ⟨s, hs, rfl⟩
        obtain ⟨s, hsm, rfl⟩ := hd
        obtain ⟨j, hj1, hj2⟩ := first_at hsm
        have so := S8.so
        refine st_remS (j := 0) S8 rfl rfl (ev_var so rfl) hj1 hj2 fun F9 H9 S9 => ?_
        have so := S9.so
        refine st_app (j := 1) S9 rfl rfl (ev_tup (ea_cons (ev_str _) (ea_cons (ev_var so rfl) ea_nil))) (by rw [List.length_map]; omega) fun F10 H10 S10 => ?_
        obtain ⟨nd1, me1⟩ := mem_eraseIdx vi.nd hj1
        have le1 : (hs.eraseIdx j).length + 1 = hs.length := by
          have hjl : j < hs.length := (List.getElem?_eq_some_iff.mp hj1).1
          rw [List.length_eraseIdx]; rw [if_pos hjl]; omega
        refine NX.of (S10.weak (es' := es9) (by repeat (first | exact .nil | refine .cons (by first | exact trivial | rfl) ?_))) ⟨rfl, t ++ [(("free" : Str), s)], hs.eraseIdx j, c8, by simp, vi.free hsm nd1 me1 (hok s hsm), by simp; omega, fun x hx => hok x ((me1 x).mp hx).1, by omega⟩
      · have so1 := (S7.so.ex S7.ex).pk S7.ex (S7.m (j := 0) rfl) (i := 5) rfl
        have so2 := so1.put (i := 4) (S7.so.val (i := 4) rfl) (d := .list (t.map stD)) (by
          obtain ⟨hf, vs, h1, h2⟩ := S7.m (j := 1) rfl
          exact .lst (SqL.of h1) (h2.ex S7.ex))
        refine st_if S7 (et_peek (et_test (ev_op (ev_op (ev_op (ev_cb (ea_cons (ev_var so2 rfl) ea_nil) rc_lenL) (ev_cb (ea_cons (ev_var so2 rfl) ea_nil) rc_lenL) r2_I0) (ev_int _) r2_I0) (ev_var so2 rfl) r2_B0))) (fun hb3 F8 H8 S8 => ?_) (fun hb3 F8 H8 S8 => ?_)
        · rw [decide_eq_true_iff, List.length_map, List.length_map] at hb3
          have so := S8.so
          let W : List Str := ["read", "write", "write", "work"]
          refine stS_set (n := 0 + 0 + 1) (A := fun d => ∃ w ∈ W, d = .str w) S8 (j := 2) rfl (by omega) (es_call (ev_val so rfl) (esa_cons (es_D (ev_lst (ea_cons (ev_str _) (ea_cons (ev_str _) (ea_cons (ev_str _) (ea_cons (ev_str _) ea_nil)))))) esa_nil) ?_) fun d F9 H9 σ9 c9 hc9 hd S9 => ?_
          · rintro ds ⟨d, r, rfl, rfl, rfl⟩
            refine ⟨_, ⟨W.map .str, by decide, by decide, rfl, rfl⟩, fun d h => ?_⟩
            obtain ⟨s, hs, rfl⟩ := List.mem_map.mp h
            exact ⟨s, hs, rfl⟩
          obtain ⟨w, hw, rfl⟩ := hd
          have wl : isL w = false ∧ isF w = false ∧ PyData.strOk w = true := by
            have hw' : w ∈ (["read", "write", "write", "work"] : List Str) := hw
            simp only [List.mem_cons, List.not_mem_nil, or_false] at hw'
            rcases hw' with rfl | rfl | rfl | rfl <;> exact ⟨by decide +kernel, by decide +kernel, by decide +kernel⟩
          have so := S9.so
          refine stS_app (n := 0 + (0 + 0 + 1 + 0)) (A := fun d => ∃ s ∈ va, d = .tuple [.str w, .str s]) S9 (j := 2) (j2 := 1) rfl (by omega) rfl rfl (by decide)
            (EvS.weak (es_tup (esa_cons (es_D (ev_var so rfl)) (esa_cons (es_call (A := fun d => ∃ s ∈ va, d = .str s) (ev_val so rfl) (esa_cons (es_D (ev_var so rfl)) esa_nil) ?_) esa_nil)) ?_) (Nat.le_refl _) ?_) (by rw [List.length_map]; omega) fun d F10 H10 c10 hc10 hd S10 => ?_
          · rintro ds ⟨d, r, rfl, rfl, rfl⟩
            refine ⟨_, ⟨va.map .str, by rw [List.length_map, hva.1]; exact hv0, by rw [List.length_map, hva.1]; omega, rfl, rfl⟩, fun d h => ?_⟩
            obtain ⟨s, hs, rfl⟩ := List.mem_map.mp h
            exact ⟨s, hs, rfl⟩
          · rintro ds ⟨d, r, rfl, _, d', r', rfl, _, rfl⟩
            show 2 ≤ 100
            decide
          · rintro d ⟨ds, ⟨d1, r1, rfl, rfl, d2, r2, rfl, ⟨s, hs, rfl⟩, rfl⟩, rfl⟩
            exact ⟨s, hs, rfl⟩
          obtain ⟨s, hsv, rfl⟩ := hd
          exact NX.of (S10.weak (es' := es9) (by repeat (first | exact .nil | refine .cons (by first | exact trivial | rfl) ?_))) ⟨rfl, t ++ [(w, s)], hs, c10, by simp, vi.other wl.1 wl.2.1 wl.2.2 (hva.2.2 s hsv), by simp; omega, hok, by omega⟩
        · exact NX.of (S8.weak (es' := es9) (by repeat (first | exact .nil | refine .cons (by first | exact trivial | rfl) ?_))) ⟨rfl, t, hs, c5, rfl, vi, hl, hok, by omega⟩
  · rintro es ms F3 H3 σ3 ⟨rfl, t, hs, c', rfl, vi, hl, hok, hc'⟩ S3
    rw [List.length_range] at hc'
    obtain ⟨vs1, S4, d1⟩ := S3.freeze
    obtain ⟨vs2, S5, d2⟩ := S4.freeze
    have so := (S5.so.put (i := 5) (S5.so.val rfl) (d1.ex (Ex.new ((S4.m (j := 0) rfl).free)))).put (i := 4) (S5.so.val (i := 4) rfl) d2
    have vf := vi.frees hok
    refine st_ret2 S5 (EvD.eq (x := thD (t ++ hs.map fun m => (("free" : Str), m))) (ev_op (ev_cb (ea_cons (ev_var so rfl) ea_nil) rc_tup) (ev_cb (ea_cons (EvN.toD (en_lcA0 hs (fun x => .str x) so (it_list (ev_var (i := 5) so rfl)) rfl (fun x => stD (("free" : Str), x)) _ (by omega) (fun _ _ => tg_name) (by decide) (fun x _ F6 H6 σ6 g6 so6 => (ev_tup (ea_cons (ev_str _) (ea_cons (ev_var so6 rfl) ea_nil)))))) ea_nil) rc_tup) (r2_cat (by rw [List.length_map, List.length_map]; omega))) (by simp [thD])) fun v F' H' kv S6 => ?_
    exact q v _ F' H' c' S6.gr (S6.m (j := 0) rfl) (by omega) ⟨_, vf.fin (by simp; omega), rfl⟩ kv
end TT
/-! D__law_names -/
namespace TT
open PySem PySem.Spec PyProof.Rows L2 C8
def sp__law_names (K : PySem.W.Frag) : Sp := SpS K 2 fun ds A => ∃ n : Nat, n ≤ 4 ∧ ds = [.int (n : Nat)] ∧ A = fun d => ∃ xs, NamesOk n xs ∧ d = .list (xs.map .str)
theorem len__law_names {K : PySem.W.Frag} : ∀ vs H Q E, sp__law_names K vs H Q E → vs.length = 2 := spS_len (by rintro _ _ ⟨a, _, rfl, _⟩; rfl)
def abc : List Nat := (List.range 26).map (97 + ·)
theorem abc_at {k : Nat} (h : k < 26) : abc[k]? = some (97 + k) := by
  unfold abc
  rw [List.getElem?_map, List.getElem?_range h]
  rfl
theorem abc_eq : ("abcdefghijklmnopqrstuvwxyz" : Str).cps.toList = abc := by decide +kernel
theorem stem_in {s : Str} (h : s ∈ (["", "m", "lock", "zzzzzzz", "v"] : List Str)) : PyData.strOk s = true ∧ s.length ≤ 10 := by
  simp only [List.mem_cons, List.not_mem_nil, or_false] at h
  rcases h with rfl | rfl | rfl | rfl | rfl <;> exact ⟨by decide +kernel, by decide +kernel⟩
theorem app_inj (s : Str) {x y : Nat} (h : s ++ chr x = s ++ chr y) : x = y := by
  have h2 := congrArg (fun z : Str => z.cps.toList) h
  have e : ∀ z, (s ++ chr z).cps.toList = s.cps.toList ++ [z] := fun z => TL.tl_append s (chr z)
  simp only [e] at h2
  simpa using h2
theorem strOk_app {s : Str} {x : Nat} (h : PyData.strOk s = true) (hx : x < 1114112) : PyData.strOk (s ++ chr x) = true := by
  unfold PyData.strOk at h ⊢
  rw [← Array.all_toList] at h ⊢
  have e : (s ++ chr x).cps.toList = s.cps.toList ++ [x] := TL.tl_append s (chr x)
  rw [e, List.all_append, h]
  simp
  exact hx
abbrev N__law_names : List Str := ["_law_source", "_law_count", "_law_stem", "_law_first", "_law_at"]
theorem sc__law_names : FnScope N__law_names ["_law_source", "_law_count"] (C8.fnScope st__law_names) := C8.fnScope_by (by decide +kernel)
theorem c__law_names {P : Program} {w : World} {K : PySem.W.Frag} {mg : Str → Option Value} {base : Heap} (T : Txt K mg) (c__law_draw : C8.Cal P w K mg base 1 "_law_draw" (sp__law_draw K) []) (c__law_choice : C8.Cal P w K mg base 2 "_law_choice" (sp__law_choice K) []) : C8.Cal P w K mg base 3 "_law_names" (sp__law_names K) [] := by
  obtain ⟨f, fd, Fd, df⟩ := T.d__law_names
  refine C8.cal0 Fd (Fd.fn.binds df (ps := ["_law_source", "_law_count"]) (fun _ _ _ _ _ _ us hl => match us, hl with | [_, _], _ => rfl)) .nil sc__law_names len__law_names fun cdv A outer s H vs Q E hr hsp => ?_
  have hu := hu_of hr
  have nd := (sc__law_names).nd
  refine ⟨_, (pss_cons (ps_asg (pe_tup (pa_cons (pe_c c__law_choice hr (by decide) (by rfl) (pa_cons (pv 0) (pa_cons (pe_lst (pa_cons pe_str (pa_cons pe_str (pa_cons pe_str (pa_cons pe_str (pa_cons pe_str pa_nil)))))) pa_nil))) (pa_cons (pe_c c__law_draw hr (by decide) (by rfl) (pa_cons (pv 0) (pa_cons pe_int pa_nil))) pa_nil))) (kpg_tup (K := K) (n := 2) (by rfl) (by rfl) (pgs_cons (pg_name (i := 2) nd (by rfl) (by first | exact Or.inl rfl | exact Or.inr rfl)) (pgs_cons (pg_name (i := 3) nd (by rfl) (by first | exact Or.inl rfl | exact Or.inr rfl)) pgs_nil))))
  (pss_one (ps_ret (pe_callB (kc_sortedL (K := K) (by rfl) hr.units) (by rfl) T.b_sorted (by decide +kernel) (pa_cons (pe_lc (own := [("_law_at", 4)]) (by rfl) nd (pi_range1 (by rfl) T.b_range (pa_cons (pv 1) pa_nil)) (blkOk_by (by kernel_rfl)) (fun _ _ _ _ _ => (pg_name (i := 4) nd (by rfl) (by first | exact Or.inl rfl | exact Or.inr rfl))) (fun _ _ _ _ _ => pts_nil) (fun _ _ _ _ _ => (pe_op op_add_str (pv 2) (pe_ix ix_str pe_str (pe_op op_modN (pe_op op_add (pv 3) (pe_op op_mul pe_int (pv 4))) pe_int) (fun _ _ => rfl))))) pa_nil))))), ?_⟩
  obtain ⟨F, a, c, us, ds, A, rfl, e0, m0, hc, ks, ⟨n, hn, rfl, rfl⟩, q⟩ := hsp
  have S : Sta K F (del H a) [.val (.ref a), .dat (.int (n : Nat)), .un, .un, .un] [.src a c] F H (L2.start N__law_names (.ref a :: us)) := Sta.beginS 3 e0 m0 ks
  have so := S.so
  let stems : List Str := ["", "m", "lock", "zzzzzzz", "v"]
  refine stS_pairC (n := 0 + 0 + 1) (m := 0 + 0 + 1) (A := fun d => ∃ s, s ∈ stems ∧ d = .str s) (A2 := fun d => ∃ r : Nat, r < 26 ∧ d = .int (r : Nat)) S (j := 0) rfl (by omega)
    (es_call (ev_val so rfl) (esa_cons (es_D (ev_lst (ea_cons (ev_str _) (ea_cons (ev_str _) (ea_cons (ev_str _) (ea_cons (ev_str _) (ea_cons (ev_str _) ea_nil))))))) esa_nil) ?_)
    (es_call (ev_val so rfl) (esa_cons (es_D (ev_int _)) esa_nil) ?_) ?_
  · rintro ds ⟨d, r, rfl, rfl, rfl⟩
    refine ⟨_, ⟨stems.map .str, by decide, by decide, rfl, rfl⟩, fun d h => ?_⟩
    obtain ⟨s, hs, rfl⟩ := List.mem_map.mp h
    exact ⟨s, hs, rfl⟩
  · rintro ds ⟨d, r, rfl, rfl, rfl⟩
    exact ⟨_, ⟨26, by decide, by decide, rfl, rfl⟩, fun d h => h⟩
  · rintro d d2 F1 H1 σ1 c1 hc1 ⟨stem, hst, rfl⟩ ⟨first, hf, rfl⟩ S1
    have so := S1.so
    obtain ⟨st1, st2⟩ := stem_in hst
    let at_ : Nat → Nat := fun k => (first + 7 * k) % 26
    let nm : Nat → Str := fun k => stem ++ chr (97 + at_ k)
    have e1 : ∀ k : Nat, ((first : Int) + 7 * ((0 + k : Nat) : Int)).fmod 26 = (at_ k : Nat) := fun k => by
      rw [Int.fmod_eq_emod_of_nonneg _ (by decide)]
      show _ = (((first + 7 * k) % 26 : Nat) : Int)
      omega
    have ai : ∀ k : Nat, atI ("abcdefghijklmnopqrstuvwxyz" : Str).cps.toList (((first : Int) + 7 * ((0 + k : Nat) : Int)).fmod 26) = some (97 + at_ k) := fun k => by
      rw [e1, abc_eq]
      exact atI_nat (abc_at (Nat.mod_lt _ (by decide)))
    refine stS_ret (n := 0) S1 (j := 0) rfl (by omega) (es_D (EvD.eq (x := .list (((sortBy (fun k => PyData.str (nm k)) (List.range n)).map nm).map .str)) (EvN.toD (en_cb (ea_cons (EvN.toD (en_lcA0 (List.range n) (fun k => .int ((0 + k : Nat) : Int)) so (it_rng1 (n := n) (ea_cons (ev_var so rfl) ea_nil) (by omega)) rfl (fun k => .str (nm k)) _ (by rw [List.length_range]; omega) (fun _ _ => tg_name) (by decide) (fun k _ F2 H2 σ2 g2 so2 => (ev_op (ev_var so2 rfl) (ev_op (ev_str _) (ev_op (ev_op (ev_var so2 rfl) (ev_op (ev_int _) (ev_var so2 rfl) (r2_I (.inl ⟨by decide, by decide⟩))) r2_I0) (ev_int _) (r2_I (by decide))) (r2_ixS (by decide +kernel) (ai k))) (r2_addS (by show stem.length + 1 ≤ _; omega)))))) ea_nil) (rcn_sort (all_of (fun x y => by simp [PySem.W.alike]) _) (.inr fun d hd => ?_) (dep_of (fun x => by simp [PyData.depth]) _)))) ?_)) fun v d F' H' c' hc' hd kv S' => q v d F' H' c' S'.gr (S'.m (j := 0) rfl) (by omega) ?_ kv
    · obtain ⟨x, _, rfl⟩ := List.mem_map.mp hd
      exact ⟨fun h => (nomatch h), fun xs h => (nomatch h)⟩
    · rw [sortD_map, List.map_map]
      rfl
    · refine ⟨_, ⟨?_, ?_, ?_⟩, hd⟩
      · rw [List.length_map, sortBy_len, List.length_range]
      · refine nodup_map_on (fun x hx y hy e => ?_) ((sortBy_perm _ _).nodup_iff.mpr List.nodup_range)
        have hx' := List.mem_range.mp (sortBy_mem.mp hx)
        have hy' := List.mem_range.mp (sortBy_mem.mp hy)
        have e2 : 97 + at_ x = 97 + at_ y := app_inj stem e
        have e3 : (first + 7 * x) % 26 = (first + 7 * y) % 26 := Nat.add_left_cancel e2
        omega
      · intro x hx
        obtain ⟨k, _, rfl⟩ := List.mem_map.mp hx
        refine strOk_app st1 ?_
        have : at_ k < 26 := Nat.mod_lt _ (by decide)
        omega
end TT
/-! D__law_pair -/
namespace TT
open PySem PySem.Spec PyProof.Rows L2 C8
/-- a pair of threads -/
def PairOk (d : D) : Prop := ∃ a b, Vd a ∧ Vd b ∧ d = prD a b
def sp__law_pair (K : PySem.W.Frag) : Sp := SpS K 65 fun ds A => ds = [.int 6] ∧ A = PairOk
theorem len__law_pair {K : PySem.W.Frag} : ∀ vs H Q E, sp__law_pair K vs H Q E → vs.length = 2 := spS_len (by rintro _ _ ⟨rfl, _⟩; rfl)
theorem vd_nil : Vd [] := VI.start.fin (by decide)
abbrev N__law_pair : List Str := ["_law_source", "_law_most", "_law_locks", "_law_variables", "_law_pair_here"]
theorem sc__law_pair : FnScope N__law_pair ["_law_source", "_law_most"] (C8.fnScope st__law_pair) := C8.fnScope_by (by decide +kernel)
theorem c__law_pair {P : Program} {w : World} {K : PySem.W.Frag} {mg : Str → Option Value} {base : Heap} (T : Txt K mg) (c__law_contests : C8.Cal P w K mg base 2 "_law_contests" (sp__law_contests K) []) (c__law_thread : C8.Cal P w K mg base 3 "_law_thread" (sp__law_thread K) []) (c__law_names : C8.Cal P w K mg base 3 "_law_names" (sp__law_names K) []) (c__law_draw : C8.Cal P w K mg base 1 "_law_draw" (sp__law_draw K) []) : C8.Cal P w K mg base 4 "_law_pair" (sp__law_pair K) [] := by
  obtain ⟨f, fd, Fd, df⟩ := T.d__law_pair
  refine C8.cal0 Fd (Fd.fn.binds df (ps := ["_law_source", "_law_most"]) (fun _ _ _ _ _ _ us hl => match us, hl with | [_, _], _ => rfl)) .nil sc__law_pair len__law_pair fun cdv A outer s H vs Q E hr hsp => ?_
  have hu := hu_of hr
  have nd := (sc__law_pair).nd
  refine ⟨_, (pss_cons (ps_par (i := 2) (j := 3) (by rfl) nd (by rfl) (by rfl) (by decide) (by rfl) (by rfl) (pa_cons (pe_c c__law_names hr (by decide) (by rfl) (pa_cons (pv 0) (pa_cons (pe_op op_add pe_int (pe_c c__law_draw hr (by decide) (by rfl) (pa_cons (pv 0) (pa_cons pe_int pa_nil)))) pa_nil))) (pa_cons (pe_c c__law_names hr (by decide) (by rfl) (pa_cons (pv 0) (pa_cons pe_int pa_nil))) pa_nil)) (by rfl))
  (pss_cons (ps_set (i := 4) nd (by rfl) (by first | exact Or.inl rfl | exact Or.inr rfl) (pe_tup (pa_cons (pe_c c__law_thread hr (by decide) (by rfl) (pa_cons (pv 0) (pa_cons (pv 2) (pa_cons (pv 3) (pa_cons (pv 1) pa_nil))))) (pa_cons (pe_c c__law_thread hr (by decide) (by rfl) (pa_cons (pv 0) (pa_cons (pv 2) (pa_cons (pv 3) (pa_cons (pv 1) pa_nil))))) pa_nil))))
  (pss_one (ps_ret (pe_ifExp (pt_cmpR op_lt (pe_callB (kc_len (K := K) (by rfl)) (by rfl) T.b_len (by decide +kernel) (pa_cons (pe_c c__law_contests hr (by decide) (by rfl) (pa_cons (pv 4) pa_nil)) pa_nil)) pe_int (nomark _)) (pv 4) (pe_tup (pa_cons (pe_ix (kix_tup (K := K) (by rfl)) (pv 4) pe_int (fun _ _ => rfl)) (pa_cons (pe_tup pa_nil) pa_nil)))))))), ?_⟩
  obtain ⟨F, a, c, us, ds, A, rfl, e0, m0, hc, ks, ⟨rfl, rfl⟩, q⟩ := hsp
  have S : Sta K F (del H a) [.val (.ref a), .dat (.int 6), .un, .un, .un] [.src a c] F H (L2.start N__law_pair (.ref a :: us)) := Sta.beginS 3 e0 m0 ks
  have so := S.so
  refine stS_pair (n := 0 + (0 + 0 + 1) + 0 + 2) (m := 0 + 0 + 2) (A := fun d => ∃ n xs, n ≤ 4 ∧ NamesOk n xs ∧ d = .list (xs.map .str)) (A2 := fun d => ∃ xs, NamesOk 3 xs ∧ d = .list (xs.map .str)) S (j := 0) rfl (by omega)
    (es_call (ev_val so rfl) (esa_cons (es_op (A3 := fun d => ∃ n : Nat, n ≤ 4 ∧ d = .int (n : Nat)) (es_D (ev_int 1)) (es_call (A := fun d => ∃ r : Nat, r < 4 ∧ d = .int (r : Nat)) (ev_val so rfl) (esa_cons (es_D (ev_int 4)) esa_nil) ?_) ?_) esa_nil) ?_)
    (es_call (ev_val so rfl) (esa_cons (es_D (ev_int 3)) esa_nil) ?_) fun d1 d2 F1 H1 σ1 c1 hc1 h1 h2 S1 => ?_
  · rintro ds ⟨d, r, rfl, rfl, rfl⟩
    exact ⟨_, ⟨4, by decide, by decide, rfl, rfl⟩, fun d h => h⟩
  · rintro x y F1 H1 rfl ⟨r, hr, rfl⟩
    refine ⟨.int ((1 + r : Nat) : Int), ⟨1 + r, by omega, rfl⟩, ?_⟩
    rw [show ((1 + r : Nat) : Int) = 1 + (r : Int) by omega]
    exact r2_I0
  · rintro ds ⟨d, r, rfl, ⟨n, hn, rfl⟩, rfl⟩
    exact ⟨_, ⟨n, hn, rfl, rfl⟩, fun d ⟨xs, h, e⟩ => ⟨n, xs, hn, h, e⟩⟩
  · rintro ds ⟨d, r, rfl, rfl, rfl⟩
    exact ⟨_, ⟨3, by decide, rfl, rfl⟩, fun d h => h⟩
  obtain ⟨n, lo, hn, hlo, rfl⟩ := h1
  obtain ⟨va, hva, rfl⟩ := h2
  have so := S1.so
  have thr : EvS K a (tCall (sp__law_thread K) [] C8.E0 (tCons (tVar 0) (tCons (tVar 2) (tCons (tVar 3) (tCons (tVar 1) tNil))))) σ1 F1 (del H1 a) (0 + 30) (fun d => ∃ t, Vd t ∧ d = thD t) := es_call (ev_val so rfl) (esa_A (ea_cons (ev_var so rfl) (ea_cons (ev_var so rfl) (ea_cons (ev_var so rfl) ea_nil)))) fun ds h => ⟨_, ⟨lo, va, n, 3, hlo, hn, hva, by decide, by decide, h, rfl⟩, fun d h => h⟩
  refine stS_set (n := 0 + 30 + (0 + 30 + 0)) (A := PairOk) S1 (j := 0) rfl (by omega) (EvS.weak (es_tup (esa_cons thr (esa_cons thr esa_nil)) ?_) (Nat.le_refl _) ?_) fun d F2 H2 σ2 c2 hc2 hd S2 => ?_
  · rintro ds ⟨d, r, rfl, _, d', r', rfl, _, rfl⟩
    show 2 ≤ 100
    decide
  · rintro d ⟨ds, ⟨d1, r1, rfl, ⟨t1, v1, rfl⟩, d2, r2, rfl, ⟨t2, v2, rfl⟩, rfl⟩, rfl⟩
    exact ⟨t1, t2, v1, v2, rfl⟩
  obtain ⟨ta, tb, v1, v2, rfl⟩ := hd
  have so := S2.so
  let b : Bool := decide (((cons ta tb).map ctD).length < 121)
  let tb' : Th := if b = true then tb else []
  refine st_ret2 S2 (ev_if (b := b) (d := prD ta tb') (EvT.eq (et_test (ev_op (ev_cb (ea_cons (EvN.toD (en_call (ea_cons (ev_var so rfl) ea_nil) ⟨ta, tb, v1, v2, rfl, rfl⟩)) ea_nil) rc_lenL) (ev_int _) r2_B0)) ?_) (fun h => EvD.eq (ev_var so rfl) ?_) (fun h => EvD.eq (ev_tup (ea_cons (ev_op (ev_var so rfl) (ev_int _) (r2_ixT rfl)) (ea_cons (ev_tup ea_nil) ea_nil))) ?_)) fun v F' H' kv S3 => ?_
  · rw [decide_eq_decide]; omega
  · show _ = prD ta (if _ then _ else _)
    rw [h]; rfl
  · show _ = prD ta (if _ then _ else _)
    rw [h]; rfl
  · refine q v _ F' H' c2 S3.gr (S3.m (j := 0) rfl) (by omega) ⟨ta, tb', v1, ?_, rfl⟩ kv
    show Vd (if _ then _ else _)
    split
    · exact v2
    · exact vd_nil
end TT
/-! D__law_right -/
namespace TT
open PySem PySem.Spec PyProof.Rows L2 C8
def sp__law_right (K : PySem.W.Frag) : Sp := SpS K 24 fun ds A => ∃ a b : Th, Vd a ∧ Vd b ∧ ds = [prD a b] ∧ A = fun d => d = .bool true
theorem len__law_right {K : PySem.W.Frag} : ∀ vs H Q E, sp__law_right K vs H Q E → vs.length = 2 := spS_len (by rintro _ _ ⟨a, b, _, _, rfl, _⟩; rfl)
theorem en_closed {K : PySem.W.Frag} {σ : L2.St} {F B : Hp} {te : TE} {cs : List Ct} {E : XK} (h : EvR te σ F B (LedL cs)) (hz : cs.length ≤ 10) : EvN K (tCall (sp__law_closed_letters K) [] E (tCons te tNil)) σ F B ((goodL cs).map fR) := fun F1 H1 g Q q =>
  h F1 H1 g _ fun v F2 H2 g2 r => ⟨F2, v, cs, rfl, g2.fh, r, hz, fun p us F3 H3 g3 hp hf h3 k3 => q p us F3 H3 (g2.trans g3) (g2.hh.free hp) hf h3 k3⟩
abbrev N__law_right : List Str := ["_law_source", "_law_pair_here", "_law_runs", "_law_known", "_law_classes_here", "_law_by_run", "_law_first_by", "_law_run", "_law_turn", "_law_one", "_law_other", "_law_due", "_law_led_here", "_law_at"]
theorem sc__law_right : FnScope N__law_right ["_law_source", "_law_pair_here"] (C8.fnScope st__law_right) := C8.fnScope_by (by decide +kernel)
theorem c__law_right {P : Program} {w : World} {K : PySem.W.Frag} {mg : Str → Option Value} {base : Heap} (T : Txt K mg) (c__law_closed_letters : C8.Cal P w K mg base 1 "_law_closed_letters" (sp__law_closed_letters K) []) (c_forced_by : C8.Cal P w K mg base 5 "forced_by" (sp_forced_by K) []) (c__law_led : C8.Cal P w K mg base 2 "_law_led" (sp__law_led K) []) (c_alike : C8.Cal P w K mg base 7 "alike" (sp_alike K) []) (c_winners : C8.Cal P w K mg base 6 "winners" (sp_winners K) []) (c__law_choice : C8.Cal P w K mg base 2 "_law_choice" (sp__law_choice K) []) (c_is_run : C8.Cal P w K mg base 4 "is_run" (sp_is_run K) []) (c__law_winners : C8.Cal P w K mg base 3 "_law_winners" (sp__law_winners K) []) (c__law_classes : C8.Cal P w K mg base 4 "_law_classes" (sp__law_classes K) []) (c__law_contests : C8.Cal P w K mg base 2 "_law_contests" (sp__law_contests K) []) (c__law_every_run : C8.Cal P w K mg base 3 "_law_every_run" (sp__law_every_run K) []) : C8.Cal P w K mg base 8 "_law_right" (sp__law_right K) [] := by
  obtain ⟨f, fd, Fd, df⟩ := T.d__law_right
  refine C8.cal0 Fd (Fd.fn.binds df (ps := ["_law_source", "_law_pair_here"]) (fun _ _ _ _ _ _ us hl => match us, hl with | [_, _], _ => rfl)) .nil sc__law_right len__law_right fun cdv A outer s H vs Q E hr hsp => ?_
  have hu := hu_of hr
  have nd := (sc__law_right).nd
  refine ⟨_, (pss_cons (ps_par (i := 2) (j := 3) (by rfl) nd (by rfl) (by rfl) (by decide) (by rfl) (by rfl) (pa_cons (pe_c c__law_every_run hr (by decide) (by rfl) (pa_cons (pv 1) pa_nil)) (pa_cons (pe_c c__law_contests hr (by decide) (by rfl) (pa_cons (pv 1) pa_nil)) pa_nil)) (by rfl))
  (pss_cons (ps_asg (pe_tup (pa_cons (pe_c c__law_classes hr (by decide) (by rfl) (pa_cons (pv 1) (pa_cons (pv 2) pa_nil))) (pa_cons (pe_callTy (kc_dictP (K := K) (by rfl) (by rfl)) (by rfl) T.b_dict (by decide +kernel) (pa_cons (pe_lc (own := [("_law_run", 7)]) (by rfl) nd (kpi_list (K := K) (by rfl) (pv 2)) (blkOk_by (by kernel_rfl)) (fun _ _ _ _ _ => (pg_name (i := 7) nd (by rfl) (by first | exact Or.inl rfl | exact Or.inr rfl))) (fun _ _ _ _ _ => pts_nil) (fun _ _ _ _ _ => (pe_tup (pa_cons (pv 7) (pa_cons (pe_c c__law_winners hr (by decide) (by rfl) (pa_cons (pv 1) (pa_cons (pv 7) pa_nil))) pa_nil))))) pa_nil)) pa_nil))) (kpg_tup (K := K) (n := 2) (by rfl) (by rfl) (pgs_cons (pg_name (i := 4) nd (by rfl) (by first | exact Or.inl rfl | exact Or.inr rfl)) (pgs_cons (pg_name (i := 5) nd (by rfl) (by first | exact Or.inl rfl | exact Or.inr rfl)) pgs_nil))))
  (C8.pss_cut (ps_if (PW.pt (pw_or (pt_cmpR (kneD (K := K) (by rfl) hr.units) (pe_callB (call_sortedK (by rfl) hr.units) (by rfl) T.b_sorted (by decide +kernel) (pa_cons (pv 4) pa_nil)) (pv 2) (nomark _)) (pw_or1 (pt_not (pt_val (pe_callB (kc_all (K := K) (by rfl) (by rfl)) (by rfl) T.b_all (by decide +kernel) (pa_cons (pe_lc (own := [("_law_run", 7)]) (by rfl) nd (kpi_list (K := K) (by rfl) (pe_slice (ksl_list (K := K) (by rfl)) (pv 2) po_none (po_some pe_int))) (blkOk_by (by kernel_rfl)) (fun _ _ _ _ _ => (pg_name (i := 7) nd (by rfl) (by first | exact Or.inl rfl | exact Or.inr rfl))) (fun _ _ _ _ _ => pts_nil) (fun _ _ _ _ _ => (pe_c c_is_run hr (by decide) (by rfl) (pa_cons (pv 1) (pa_cons (pv 7) pa_nil))))) pa_nil)))))))
   (pss_one (ps_ret pe_bl))
   pss_nil)
  (pss_cons (ps_set (i := 6) nd (by rfl) (by first | exact Or.inl rfl | exact Or.inr rfl) pe_dnewK)
  (pss_cons (ps_for PassesOwn.never rfl (kpi_list (K := K) (by rfl) (pv 2)) (pg_name (i := 7) nd (by rfl) (by first | exact Or.inl rfl | exact Or.inr rfl))
   (pss_one (ps_dput hu (pv 6) (pe_dget hu (pv 5) (pv 7) (fun _ _ => rfl)) (pe_dget2 hu (pv 6) (pe_dget hu (pv 5) (pv 7) (fun _ _ => rfl)) (pv 7) ⟨rfl, rfl, rfl, rfl⟩) rfl)))
  (C8.pss_cut (ps_if (pt_val (pe_callB (kc_any (K := K) (by rfl) (by rfl)) (by rfl) T.b_any (by decide +kernel) (pa_cons (pe_lc (own := [("_law_run", 7)]) (by rfl) nd (kpi_list (K := K) (by rfl) (pv 2)) (blkOk_by (by kernel_rfl)) (fun _ _ _ _ _ => (pg_name (i := 7) nd (by rfl) (by first | exact Or.inl rfl | exact Or.inr rfl))) (fun _ _ _ _ _ => pts_nil) (fun _ _ _ _ _ => (pe_cmpR op_ne (pe_dget hu (pv 4) (pv 7) (fun _ _ => rfl)) (pe_dget hu (pv 6) (pe_dget hu (pv 5) (pv 7) (fun _ _ => rfl)) (fun _ _ => rfl)) (nomark _)))) pa_nil)))
   (pss_one (ps_ret pe_bl))
   pss_nil)
  (pss_cons (ps_for PassesOwn.never rfl (pi_range1 (by rfl) T.b_range (pa_cons pe_int pa_nil)) (pg_name (i := 8) nd (by rfl) (by first | exact Or.inl rfl | exact Or.inr rfl))
   (pss_cons (ps_par (i := 9) (j := 10) (by rfl) nd (by rfl) (by rfl) (by decide) (by rfl) (by rfl) (pa_cons (pe_c c__law_choice hr (by decide) (by rfl) (pa_cons (pv 0) (pa_cons (pv 2) pa_nil))) (pa_cons (pe_c c__law_choice hr (by decide) (by rfl) (pa_cons (pv 0) (pa_cons (pv 2) pa_nil))) pa_nil)) (by rfl))
  (pss_cons (ps_set (i := 11) nd (by rfl) (by first | exact Or.inl rfl | exact Or.inr rfl) (pe_cmpR op_eq (pe_dget hu (pv 4) (pv 9) (fun _ _ => rfl)) (pe_dget hu (pv 4) (pv 10) (fun _ _ => rfl)) (nomark _)))
  (pss_one (ps_if (PW.pt (pw_or (pt_cmpR op_ne (pe_c c_winners hr (by decide) (by rfl) (pa_cons (pv 1) (pa_cons (pv 9) pa_nil))) (pe_dget hu (pv 5) (pv 9) (fun _ _ => rfl)) (nomark _)) (pw_or1 (pt_cmpR op_ne (pe_c c_alike hr (by decide) (by rfl) (pa_cons (pv 1) (pa_cons (pv 9) (pa_cons (pv 10) pa_nil)))) (pv 11) (nomark _)))))
   (pss_one (ps_ret pe_bl))
   pss_nil)))))
  (pss_cons (ps_set (i := 12) nd (by rfl) (by first | exact Or.inl rfl | exact Or.inr rfl) (pe_c c__law_led hr (by decide) (by rfl) (pa_cons (pv 3) pa_nil)))
  (C8.pss_cut (ps_if (pt_not (pt_val (pe_callB (kc_all (K := K) (by rfl) (by rfl)) (by rfl) T.b_all (by decide +kernel) (pa_cons (pe_lc (own := [("_law_at", 13)]) (by rfl) nd (pi_range1 (by rfl) T.b_range (pa_cons (pe_callB (kc_len (K := K) (by rfl)) (by rfl) T.b_len (by decide +kernel) (pa_cons (pv 3) pa_nil)) pa_nil)) (blkOk_by (by kernel_rfl)) (fun _ _ _ _ _ => (pg_name (i := 13) nd (by rfl) (by first | exact Or.inl rfl | exact Or.inr rfl))) (fun _ _ _ _ _ => pts_nil) (fun _ _ _ _ _ => (pe_cmpR (keqD (K := K) (by rfl) hr.units) (pe_c c_forced_by hr (by decide) (by rfl) (pa_cons (pv 1) (pa_cons (pv 13) pa_nil))) (pe_callTy (kc_tuple (K := K) (by rfl)) (by rfl) T.b_tuple (by decide +kernel) (pa_cons (pe_callB (call_sortedK (by rfl) hr.units) (by rfl) T.b_sorted (by decide +kernel) (pa_cons (pe_ix (kix_list (K := K) (by rfl)) (pv 12) (pv 13) (fun _ _ => rfl)) pa_nil)) pa_nil)) (nomark _)))) pa_nil))))
   (pss_one (ps_ret pe_bl))
   pss_nil)
  (pss_one (ps_ret (pe_or (pe_cmpR op_gt (pe_callB (kc_len (K := K) (by rfl)) (by rfl) T.b_len (by decide +kernel) (pa_cons (pv 3) pa_nil)) pe_int (nomark _)) (pe_one (pe_cmpR (keqD (K := K) (by rfl) hr.units) (pe_callB (call_sortedSe0 (by rfl) hr.units) (by rfl) T.b_sorted (by decide +kernel) (pa_cons (pe_callTy (call_setS0 (by rfl)) (by rfl) T.b_set (by decide +kernel) (pa_cons (pe_callTy (call_list_vals (by rfl)) (by rfl) T.b_list (by decide +kernel) (pa_cons (kbm0 (K := K) (by rfl) PySem.F.plainAttrs_dict PySem.F.slot_dict_values PySem.F.type_dict_values mt_vals (pv 5)) pa_nil)) pa_nil)) pa_nil)) (pe_callB (kc_sortedL (K := K) (by rfl) hr.units) (by rfl) T.b_sorted (by decide +kernel) (pa_cons (pe_c c__law_closed_letters hr (by decide) (by rfl) (pa_cons (pv 12) pa_nil)) pa_nil)) (nomark _))))))))))))))), ?_⟩
  obtain ⟨F, a0, c, us, ds, A, rfl, e0, m0, hc, ks, ⟨a, b, va, vb, rfl, rfl⟩, q⟩ := hsp
  have hN := RL_len va vb
  have hC : (cons a b).length ≤ 288 := cons_len (by have := va.len; omega) (by have := vb.len; omega)
  have S : Sta K F (del H a0) [.val (.ref a0), .dat (prD a b), .un, .un, .un, .un, .un, .un, .un, .un, .un, .un, .un, .un] [.src a0 c] F H (L2.start N__law_right (.ref a0 :: us)) := Sta.beginS 12 e0 m0 ks
  have so := S.so
  have keys : ∀ l : List (List Bool), ∀ d ∈ l.map fR, ∃ k, d = keyD k := fun l d h => by
    obtain ⟨r, _, rfl⟩ := List.mem_map.mp h
    exact ⟨rk r, rfl⟩
  refine st_parDD S (d := .list ((RL a b).map fR)) (d2 := .list ((cons a b).map ctD)) (EvN.toD (en_call (ea_cons (ev_var so rfl) ea_nil) ⟨a, b, va, vb, rfl, rfl⟩)) (EvN.toD (en_call (ea_cons (ev_var so rfl) ea_nil) ⟨a, b, va, vb, rfl, rfl⟩)) fun F1 H1 σ1 S1 => ?_
  have S1 : Sta K F (del H a0) [.val (.ref a0), .dat (prD a b), .dat (.list ((RL a b).map fR)), .dat (.list ((cons a b).map ctD)), .un, .un, .un, .un, .un, .un, .un, .un, .un, .un] [.src a0 c] F1 H1 σ1 := S1
  have so := S1.so
  refine st_parCRR (R := ClsF K a b) (R2 := DicF K (byD a b)) S1 ClsF.ex DicF.ex (er_call (ea_cons (ev_var so rfl) (ea_cons (ev_var so rfl) ea_nil)) ⟨a, b, va, vb, rfl, rfl⟩) (er_dictP (EvN.eqN (en_lcA0 (RL a b) fR so (it_list (ev_var so rfl)) rfl (fun r => .tuple [fR r, fR (winL (cons a b) r)]) _ (by omega) (fun _ _ => tg_name) (by decide) (fun r hr F2 H2 σ2 g2 so2 => (ev_tup (ea_cons (ev_var so2 rfl) (ea_cons (ev_call (ea_cons (ev_var so2 rfl) (ea_cons (ev_var so2 rfl) ea_nil)) ⟨a, b, r, va, vb, RL_mem.mp hr, rfl, rfl⟩) ea_nil))))) ?_) (byD_nodup a b)) fun F2 H2 σ2 S2 => ?_
  · unfold byD
    rw [List.map_map]
    rfl
  let es3 : List SV := [.val (.ref a0), .dat (prD a b), .dat (.list ((RL a b).map fR)), .dat (.list ((cons a b).map ctD)), .rel (ClsF K a b), .rel (DicF K (byD a b)), .un, .un, .un, .un, .un, .un, .un, .un]
  have S2 : Sta K F (del H a0) es3 [.src a0 c] F2 H2 σ2 := S2
  refine st_cut S2 (fun es ms => es = es3 ∧ ms = [.src a0 c]) ?_ ?_
  · have so := S2.so
    have t20 : ((RL a b).take 20).length ≤ 20 := by rw [List.length_take]; omega
    refine st_if S2 (EvT.eq (c := false) (et_or (et_test (ev_op (EvN.toD (en_sortR (er_var so rfl) (fun F v h => cls_sorted h) (keys _))) (ev_var so rfl) (r2_neD (shaped_fR _) (shaped_fR _)))) (fun _ => et_not (et_B (ev_cb (ea_cons (EvN.toD (EvN.eqN (en_lcA0 ((RL a b).take 20) fR so (it_list (EvD.eq (EvN.toD (en_slL (ev_var so rfl) eo_none (eo_some (K := K) (ev_int 20)))) (by rw [show (20 : Int) = ((20 : Nat) : Int) from rfl, cutA_take, List.map_take]))) rfl (fun _ => .bool true) _ (by omega) (fun _ _ => tg_name) (by decide) (fun r hr F4 H4 σ4 g4 so4 => (ev_call (ea_cons (ev_var so4 rfl) (ea_cons (ev_var so4 rfl) ea_nil)) ⟨a, b, r, va, vb, RL_mem.mp (List.mem_of_mem_take hr), rfl, rfl⟩))) (zs := (((RL a b).take 20).map fun _ => true).map .bool) (by rw [List.map_map]; rfl))) ea_nil) rc_all)))) ?_) (fun h => nomatch h) (fun _ F3 H3 S3 => NX.of S3 ⟨rfl, rfl⟩)
    rw [eqv_fR]
    simp
    intro h
    have h2 := List.mem_of_mem_take h
    simp at h2
  rintro es ms F3 H3 σ3 ⟨rfl, rfl⟩ S3
  refine st_newK S3 fun pf F4 H4 σ4 S4 => ?_
  let es4 : List SV := [.val (.ref a0), .dat (prD a b), .dat (.list ((RL a b).map fR)), .dat (.list ((cons a b).map ctD)), .rel (ClsF K a b), .rel (DicF K (byD a b)), .val (.ref pf), .un, .un, .un, .un, .un, .un, .un]
  have S4 : Sta K F (del H a0) es4 [.dK pf [], .src a0 c] F4 H4 σ4 := S4
  have so := S4.so
  refine for_A (RL a b) fR S4 (it_list (ev_var so rfl)) rfl (fun k es ms => es = es4 ∧ ∃ kds, ms = [.dK pf kds, .src a0 c] ∧ FB a b k kds) ⟨rfl, [], rfl, FB.start a b⟩ ?_ ?_
  · rintro Fb Bb gb k p es ms F5 H5 σ5 hp ⟨rfl, kds, rfl, fb⟩ S5
    have hpm := List.mem_of_getElem? hp
    refine ⟨_, _, tg_name, fun σ6 S6 => ?_⟩
    have so := S6.so
    have byR : EvD K (tDGet (tVar 5) (tVar 7)) σ6 F5 H5 (keyD (rk (winL (cons a b) p))) := ev_dgetR (k := rk p) (er_var so rfl) DicF.ex (fun F v h => ⟨_, h, byD_get hpm⟩) (ev_var so rfl)
    refine st_dput (k := rk (winL (cons a b) p)) (j := 0) S6 (ev_dget2 (k := rk (winL (cons a b) p)) (ev_val so rfl) byR (ev_var so rfl) (S6.m (j := 0) rfl)) rfl rfl byR (by have := fb.ln; have := (List.getElem?_eq_some_iff.mp hp).1; omega) fun F7 H7 S7 => ?_
    exact NX.of (S7.weak (es' := es4) (by repeat (first | exact .nil | refine .cons (by first | exact trivial | rfl) ?_))) ⟨rfl, _, rfl, fb.put hp⟩
  · rintro es ms F5 H5 σ5 ⟨rfl, kds, rfl, fb⟩ S5
    obtain ⟨kvs, hkv, ex6, S6⟩ := S5.freezeK
    refine st_cut S6 (fun es ms => es = es4 ∧ ms = [.src a0 c]) ?_ ?_
    · have so := S6.so
      refine st_if S6 (EvT.eq (c := false) (et_B (ev_cb (ea_cons (EvN.toD (EvN.eqN (en_lcA0 (RL a b) fR so (it_list (ev_var so rfl)) rfl (fun _ => .bool false) _ (by omega) (fun _ _ => tg_name) (by decide) (fun r hr F7 H7 σ7 g7 so7 => ?cmp)) (zs := ((RL a b).map fun _ => false).map .bool) (by rw [List.map_map]; rfl))) ea_nil) rc_any)) ?_) (fun h => nomatch h) (fun _ F7 H7 S7 => NX.of S7 ⟨rfl, rfl⟩)
      case cmp =>
        obtain ⟨s, hs, _⟩ := cls_some hr
        exact EvD.eq (ev_op (ev_dgetR (k := rk r) (er_var so7 rfl) ClsF.ex (fun F v h => cls_get hr hs h) (ev_var so7 rfl)) (ev_dgetR (k := rk (winL (cons a b) r)) (er_val so7 rfl DicF.ex (DicF.ex _ _ _ g7.ff ⟨pf, kvs, rfl, upd_same, hkv.ex ex6⟩)) DicF.ex (fun F v h => ⟨kds, h, by rw [fb.full, hs]; rfl⟩) (ev_dgetR (k := rk r) (er_var so7 rfl) DicF.ex (fun F v h => ⟨_, h, byD_get hr⟩) (ev_var so7 rfl))) r2_neS) (by simp)
      simp
    rintro es ms F7 H7 σ7 ⟨rfl, rfl⟩ S7
    refine for_A (List.range 12) (fun k => .int ((0 + k : Nat) : Int)) S7 (it_rng1 (n := 12) (ea_cons (ev_int _) ea_nil) (by decide)) rfl (fun k es ms => es = es4 ∧ ∃ c', ms = [.src a0 c'] ∧ c' ≤ c + 2 * k) ⟨rfl, c, rfl, by omega⟩ ?_ ?_
    · rintro Fb Bb gb k k' es ms F8 H8 σ8 hk ⟨rfl, c2, rfl, hc2⟩ S8
      have hk2 : k < 12 := by
        have h1 := (List.getElem?_eq_some_iff.mp hk).1
        rw [List.length_range] at h1
        exact h1
      refine ⟨_, _, tg_name, fun σ9 S9 => ?_⟩
      have so := S9.so
      have ch : EvS K a0 (tCall (sp__law_choice K) [] C8.E0 (tCons (tVar 0) (tCons (tVar 2) tNil))) σ9 F8 (del H8 a0) (0 + 1) (fun d => ∃ r, r ∈ RL a b ∧ d = fR r) := es_call (ev_val so rfl) (esa_A (ea_cons (ev_var so rfl) ea_nil)) fun ds h => ⟨_, ⟨(RL a b).map fR, by rw [List.length_map]; exact RL_pos va vb, by rw [List.length_map]; omega, h, rfl⟩, fun d h => by
        obtain ⟨r, hr, rfl⟩ := List.mem_map.mp h
        exact ⟨r, hr, rfl⟩⟩
      refine stS_pair (j := 0) S9 rfl (by omega) ch ch fun d1 d2 F10 H10 σ10 c10 hc10 h1 h2 S10 => ?_
      obtain ⟨r, hr, rfl⟩ := h1
      obtain ⟨t, ht, rfl⟩ := h2
      obtain ⟨s, hs, e1⟩ := cls_some hr
      obtain ⟨u, hu', e2⟩ := cls_some ht
      have so := S10.so
      refine st_set S10 (EvD.eq (x := .bool (decide (winL (cons a b) r = winL (cons a b) t))) (ev_op (ev_dgetR (k := rk r) (er_var so rfl) ClsF.ex (fun F v h => cls_get hr hs h) (ev_var so rfl)) (ev_dgetR (k := rk t) (er_var so rfl) ClsF.ex (fun F v h => cls_get ht hu' h) (ev_var so rfl)) r2_eqS) (by rw [cls_due hs hu' e1 e2])) fun F11 H11 σ11 S11 => ?_
      have so := S11.so
      refine st_if S11 (EvT.eq (c := false) (et_or (et_test (ev_op (ev_call (ea_cons (ev_var so rfl) (ea_cons (ev_var so rfl) ea_nil)) ⟨a, b, r, va, vb, RL_mem.mp hr, rfl, rfl⟩) (ev_dgetR (k := rk r) (er_var so rfl) DicF.ex (fun F v h => ⟨_, h, byD_get hr⟩) (ev_var so rfl)) r2_neS)) (fun _ => et_test (ev_op (ev_call (ea_cons (ev_var so rfl) (ea_cons (ev_var so rfl) (ea_cons (ev_var so rfl) ea_nil))) ⟨a, b, r, t, va, vb, RL_mem.mp hr, RL_mem.mp ht, rfl, rfl⟩) (ev_var so rfl) r2_neB))) (by simp)) (fun h => nomatch h) (fun _ F12 H12 S12 => NX.of (S12.weak (es' := es4) (by repeat (first | exact .nil | refine .cons (by first | exact trivial | rfl) ?_))) ⟨rfl, c10, rfl, by omega⟩)
    · rintro es ms F8 H8 σ8 ⟨rfl, c2, rfl, hc2⟩ S8
      rw [List.length_range] at hc2
      have so := S8.so
      refine st_setR S8 LedL.ex (er_call (ea_cons (ev_var so rfl) ea_nil) ⟨cons a b, by omega, rfl, rfl⟩) fun F9 H9 σ9 S9 => ?_
      let es9 : List SV := [.val (.ref a0), .dat (prD a b), .dat (.list ((RL a b).map fR)), .dat (.list ((cons a b).map ctD)), .rel (ClsF K a b), .rel (DicF K (byD a b)), .val (.ref pf), .un, .un, .un, .un, .un, .rel (LedL (cons a b)), .un]
      have S9 : Sta K F (del H a0) es9 [.src a0 c2] F9 H9 σ9 := S9
      refine st_cut S9 (fun es ms => es = es9 ∧ ms = [.src a0 c2]) ?_ ?_
      · have so := S9.so
        refine st_if S9 (EvT.eq (c := false) (et_not (et_B (ev_cb (ea_cons (EvN.toD (EvN.eqN (en_lcA0 (List.range (cons a b).length) (fun k => .int ((0 + k : Nat) : Int)) so (it_rng1 (n := (cons a b).length) (ea_cons (EvD.eq (ev_cb (ea_cons (ev_var so rfl) ea_nil) rc_lenL) (by rw [List.length_map])) ea_nil) (by omega)) rfl (fun _ => .bool true) _ (by rw [List.length_range]; omega) (fun _ _ => tg_name) (by decide) (fun k hk F10 H10 σ10 g10 so10 => ?cmp2)) (zs := ((List.range (cons a b).length).map fun _ => true).map .bool) (by rw [List.map_map]; rfl))) ea_nil) rc_all))) ?_) (fun h => nomatch h) (fun _ F10 H10 S10 => NX.of S10 ⟨rfl, rfl⟩)
        case cmp2 =>
          have hkl := List.mem_range.mp hk
          rw [Nat.zero_add] at so10
          exact EvD.eq (ev_op (ev_call (ea_cons (ev_var so10 rfl) (ea_cons (ev_var so10 rfl) ea_nil)) ⟨a, b, k, va, vb, hkl, rfl, rfl⟩) (ev_cb (ea_cons (EvN.toD (en_sortKs (er_ixLed (er_var so10 rfl) (ev_var so10 rfl) hkl) (fun F v h => ledF_sorted h) (fun d h => by
            obtain ⟨n, _, rfl⟩ := List.mem_map.mp h
            exact ⟨.inl (n : Nat), rfl⟩))) ea_nil) rc_tup) (r2_eqD (shaped_inD _).2 (shaped_inD _).2)) (by rw [eqv_inD])
        simp
      rintro es ms F10 H10 σ10 ⟨rfl, rfl⟩ S10
      have so := S10.so
      refine st_ret2 S10 (EvD.eq (x := .bool true) (ev_orV (ev_op (ev_cb (ea_cons (ev_var so rfl) ea_nil) rc_lenL) (ev_int _) r2_B0) (fun h => ev_op (EvN.toD (en_sortSet (ns := (RL a b).map fun r => runS (winL (cons a b) r)) (zs := (sortBy fR (goodL (cons a b))).map fR) (EvN.eqN (en_valsR (er_var so (i := 5) rfl)) ?e1) (by rw [List.length_map]; exact RL_len2 va vb) (fun ys nd hm => win_sort va vb nd hm) (keys _))) (EvN.toD (EvN.eqN (en_cb (ea_cons (EvN.toD (en_closed (er_var so (i := 12) rfl) ?e2)) ea_nil) (rcn_sort (alike_fR _) (.inr ?e3) (depth_fR _))) (sortD_map fR _))) (r2_eqD (shaped_fR _) (shaped_fR _)))) ?e4) fun v F' H' kv S11 => q v _ F' H' c2 S11.gr (S11.m (j := 0) rfl) (by omega) rfl kv
      case e1 =>
        unfold byD
        rw [List.map_map, List.map_map]
        rfl
      case e2 =>
        have := of_decide_eq_false h
        rw [List.length_map] at this
        omega
      case e3 =>
        intro d hd
        obtain ⟨x, _, rfl⟩ := List.mem_map.mp hd
        exact ⟨fun h => (nomatch h), fun xs h => (nomatch h)⟩
      case e4 =>
        rw [eqv_fR]
        simp
end TT
/-! D__law_crossed -/
namespace TT
open PySem PySem.Spec PyProof.Rows L2 C8
def sp__law_crossed (K : PySem.W.Frag) : Sp := SpS K 30 fun ds A => ∃ nm : List Str, NamesOk 2 nm ∧ ds = [.list (nm.map .str)] ∧ A = PairOk
theorem len__law_crossed {K : PySem.W.Frag} : ∀ vs H Q E, sp__law_crossed K vs H Q E → vs.length = 2 := spS_len (by rintro _ _ ⟨nm, _, rfl, _⟩; rfl)
theorem map_erase (l : List Str) (r : Nat) : (l.map PyData.str).eraseIdx r = (l.eraseIdx r).map .str := by
  induction l generalizing r with
  | nil => simp
  | cons a l ih => cases r with
    | zero => simp
    | succ r => simp [ih]
abbrev N__law_crossed : List Str := ["_law_source", "_law_names_here", "_law_found", "_law_turn", "_law_left", "_law_steps"]
theorem sc__law_crossed : FnScope N__law_crossed ["_law_source", "_law_names_here"] (C8.fnScope st__law_crossed) := C8.fnScope_by (by decide +kernel)
theorem c__law_crossed {P : Program} {w : World} {K : PySem.W.Frag} {mg : Str → Option Value} {base : Heap} (T : Txt K mg) (c__law_draw : C8.Cal P w K mg base 1 "_law_draw" (sp__law_draw K) []) (c__law_choice : C8.Cal P w K mg base 2 "_law_choice" (sp__law_choice K) []) : C8.Cal P w K mg base 3 "_law_crossed" (sp__law_crossed K) [] := by
  obtain ⟨f, fd, Fd, df⟩ := T.d__law_crossed
  refine C8.cal0 Fd (Fd.fn.binds df (ps := ["_law_source", "_law_names_here"]) (fun _ _ _ _ _ _ us hl => match us, hl with | [_, _], _ => rfl)) .nil sc__law_crossed len__law_crossed fun cdv A outer s H vs Q E hr hsp => ?_
  have hu := hu_of hr
  have nd := (sc__law_crossed).nd
  refine ⟨_, (pss_cons (ps_set (i := 2) nd (by rfl) (by first | exact Or.inl rfl | exact Or.inr rfl) (pe_lst pa_nil))
  (pss_cons (ps_for PassesOwn.never rfl (pi_range1 (by rfl) T.b_range (pa_cons pe_int pa_nil)) (pg_name (i := 3) nd (by rfl) (by first | exact Or.inl rfl | exact Or.inr rfl))
   (pss_cons (ps_par (i := 4) (j := 5) (by rfl) nd (by rfl) (by rfl) (by decide) (by rfl) (by rfl) (pa_cons (pe_callTy (kc_list (K := K) (by rfl)) (by rfl) T.b_list (by decide +kernel) (pa_cons (pv 1) pa_nil)) (pa_cons (pe_lst pa_nil) pa_nil)) (by rfl))
  (pss_cons (ps_while PassesOwn.never (pt_cmpR (kneD (K := K) (by rfl) hr.units) (pv 4) (pe_lst pa_nil) (nomark _))
   (pss_cons (ps_expr (kbm (K := K) (by rfl) PySem.F.plainAttrs_list PySem.F.slot_list_append PySem.F.type_list_append mt_append (pv 5) (pa_cons (pe_tup (pa_cons (pe_c c__law_choice hr (by decide) (by rfl) (pa_cons (pv 0) (pa_cons (pe_lst (pa_cons pe_str (pa_cons pe_str (pa_cons pe_str pa_nil)))) pa_nil))) (pa_cons (kbm (K := K) (by rfl) PySem.F.plainAttrs_list PySem.F.slot_list_pop PySem.F.type_list_pop mt_popAt (pv 4) (pa_cons (pe_c c__law_draw hr (by decide) (by rfl) (pa_cons (pv 0) (pa_cons (pe_callB (kc_len (K := K) (by rfl)) (by rfl) T.b_len (by decide +kernel) (pa_cons (pv 4) pa_nil)) pa_nil))) pa_nil)) pa_nil))) pa_nil)))
  (pss_one (ps_expr (kbm (K := K) (by rfl) PySem.F.plainAttrs_list PySem.F.slot_list_extend PySem.F.type_list_extend mt_extend (pv 5) (pa_cons (pe_op op_rep (pe_lst (pa_cons (pe_tup (pa_cons pe_str (pa_cons (pe_ix (kix_list (K := K) (by rfl)) (pv 1) pe_int (fun _ _ => rfl)) pa_nil))) pa_nil)) (pe_callTy call_int1 (by rfl) T.b_int (by decide +kernel) (pa_cons (pe_cmpR op_eq (pe_c c__law_draw hr (by decide) (by rfl) (pa_cons (pv 0) (pa_cons pe_int pa_nil))) pe_int (nomark _)) pa_nil))) pa_nil))))))
  (pss_cons (ps_set (i := 4) nd (by rfl) (by first | exact Or.inl rfl | exact Or.inr rfl) (pe_callTy (kc_list (K := K) (by rfl)) (by rfl) T.b_list (by decide +kernel) (pa_cons (pv 1) pa_nil)))
  (pss_cons (ps_while PassesOwn.never (pt_cmpR (kneD (K := K) (by rfl) hr.units) (pv 4) (pe_lst pa_nil) (nomark _))
   (pss_one (ps_expr (kbm (K := K) (by rfl) PySem.F.plainAttrs_list PySem.F.slot_list_append PySem.F.type_list_append mt_append (pv 5) (pa_cons (pe_tup (pa_cons pe_str (pa_cons (kbm (K := K) (by rfl) PySem.F.plainAttrs_list PySem.F.slot_list_pop PySem.F.type_list_pop mt_popAt (pv 4) (pa_cons (pe_c c__law_draw hr (by decide) (by rfl) (pa_cons (pv 0) (pa_cons (pe_callB (kc_len (K := K) (by rfl)) (by rfl) T.b_len (by decide +kernel) (pa_cons (pv 4) pa_nil)) pa_nil))) pa_nil)) pa_nil))) pa_nil)))))
  (pss_one (ps_expr (kbm (K := K) (by rfl) PySem.F.plainAttrs_list PySem.F.slot_list_append PySem.F.type_list_append mt_append (pv 2) (pa_cons (pe_callTy (kc_tuple (K := K) (by rfl)) (by rfl) T.b_tuple (by decide +kernel) (pa_cons (pv 5) pa_nil)) pa_nil)))))))))
  (pss_one (ps_ret (pe_tup (pa_cons (pe_ix (kix_list (K := K) (by rfl)) (pv 2) pe_int (fun _ _ => rfl)) (pa_cons (pe_ix (kix_list (K := K) (by rfl)) (pv 2) pe_int (fun _ _ => rfl)) pa_nil))))))), ?_⟩
  obtain ⟨F, a, c, us, ds, A, rfl, e0, m0, hc, ks, ⟨nm, hnm, rfl, rfl⟩, q⟩ := hsp
  have S : Sta K F (del H a) [.val (.ref a), .dat (.list (nm.map .str)), .un, .un, .un, .un] [.src a c] F H (L2.start N__law_crossed (.ref a :: us)) := Sta.beginS 4 e0 m0 ks
  obtain ⟨n1, n2, n3⟩ := hnm
  refine st_setN S (en_lst ea_nil) fun pf F1 H1 σ1 S1 => ?_
  have so := S1.so
  refine for_A (List.range 2) (fun k => .int ((0 + k : Nat) : Int)) S1 (it_rng1 (n := 2) (ea_cons (ev_int _) ea_nil) (by decide)) rfl
    (fun k es ms => es = [.val (.ref a), .dat (.list (nm.map .str)), .val (.ref pf), .un, .un, .un] ∧ ∃ (ts : List Th) (c' : Nat), ms = [.lst pf (ts.map thD), .src a c'] ∧ ts.length = k ∧ (∀ t ∈ ts, Vd t) ∧ c' ≤ c + 12 * k) ⟨rfl, [], c, rfl, rfl, (fun t h => nomatch h), Nat.le_refl _⟩ ?_ ?_
  · rintro Fb Bb gb k k' es ms F2 H2 σ2 hk ⟨rfl, ts, c2, rfl, tl, tv, hc2⟩ S2
    have hk2 : k < 2 := by
      obtain ⟨h1, h2⟩ := List.getElem?_eq_some_iff.mp hk
      rw [List.length_range] at h1
      exact h1
    refine ⟨_, _, tg_name, fun σ3 S3 => ?_⟩
    have so := S3.so
    refine st_parMM S3 (EvN.toM (en_cb (ea_cons (ev_var so rfl) ea_nil) (rcn_lst (.inl rfl)))) (EvN.toM (en_lst ea_nil)) fun pl ps F4 H4 σ4 S4 => ?_
    let es5 : List SV := [.val (.ref a), .dat (.list (nm.map .str)), .val (.ref pf), .dat (.int ((0 + k' : Nat) : Int)), .val (.ref pl), .val (.ref ps)]
    -- the locks
    refine while_S S4 (fun m es ms => es = es5 ∧ ∃ (left hs : List Str) (t : Th) (c' : Nat), ms = [.lst ps (t.map stD), .lst pl (left.map .str), .lst pf (ts.map thD), .src a c'] ∧ VI t hs ∧ left.length = m ∧ left.length + hs.length = 2 ∧ left.Nodup ∧ (∀ x ∈ left, x ∉ hs ∧ PyData.strOk x = true) ∧ (∀ x ∈ hs, x ∈ nm) ∧ (∀ x ∈ left, x ∈ nm) ∧ t.length ≤ 2 * hs.length ∧ c' ≤ c2 + 3 * hs.length) 2 ⟨rfl, nm, [], [], c2, rfl, VI.start, n1, by simp [n1], n2, fun x hx => ⟨by simp, n3 x hx⟩, (fun x hx => nomatch hx), fun x hx => hx, Nat.le_refl _, by simp⟩ ?_
    rintro m es ms F5 H5 σ5 ⟨rfl, left, hs, t, c5, rfl, vi, lm, lh, lnd, lok, hnm', lnm, tlen, hc5⟩ S5
    have sop := (S5.so.ex S5.ex).pk S5.ex (S5.m (j := 1) rfl) (i := 4) rfl
    have lsh : SeqAt.shaped (.list (left.map .str)) = true := (shaped_strs fun x hx => (lok x hx).2).1
    refine ⟨!left.isEmpty, EvT.eq (et_peek (et_test (ev_op (ev_var sop rfl) (ev_lst ea_nil) (r2_neD lsh rfl)))) (by rw [ne_nilD]; simp), fun hb F6 H6 S6 => ?_, fun hb F6 H6 S6 => ?_⟩
    · have hl0 : 0 < left.length := by
        cases e : left with
        | nil => rw [e] at hb; cases hb
        | cons x l => simp
      have so := S6.so
      let W : List Str := ["lock", "lock", "share"]
      refine stS_app2 (n2 := 0 + 0 + 1) (n := 0 + 0 + 1) (A := fun d => ∃ w ∈ W, d = .str w) S6 (j := 3) (j2 := 1) (j3 := 0) rfl (by omega) (i := 4) rfl rfl (by decide) (by rw [List.length_map]; omega) rfl rfl (by decide) (by decide) (by rw [List.length_map]; omega)
        (es_call (ev_val so rfl) (esa_cons (es_D (ev_lst (ea_cons (ev_str _) (ea_cons (ev_str _) (ea_cons (ev_str _) ea_nil))))) esa_nil) ?_) (fun F7 H7 c7 hc7 S7 => ?_) fun x d r F8 H8 c8 hc8 hx hd S8 => ?_
      · rintro ds ⟨d, r, rfl, rfl, rfl⟩
        refine ⟨_, ⟨W.map .str, by decide, by decide, rfl, rfl⟩, fun d h => ?_⟩
        obtain ⟨s, hs, rfl⟩ := List.mem_map.mp h
        exact ⟨s, hs, rfl⟩
      · have so7 := S7.pkd (j := 3) (i := 4) (i2 := 1) rfl rfl rfl (by decide)
        refine es_call (ev_val S7.so rfl) (esa_cons (es_D (ev_peek (ev_cb (ea_cons (ev_var so7 rfl) ea_nil) rc_lenL))) esa_nil) ?_
        rintro ds ⟨d, r, rfl, rfl, rfl⟩
        exact ⟨_, ⟨_, by rw [List.length_map]; exact hl0, by rw [List.length_map]; omega, rfl, rfl⟩, fun d h => h⟩
      obtain ⟨w, hw, rfl⟩ := hx
      rw [List.getElem?_map] at hd
      obtain ⟨s, hs1, rfl⟩ := Option.map_eq_some_iff.mp hd
      have wl : isL w = true ∧ PyData.strOk w = true := by
        have hw' : w ∈ (["lock", "lock", "share"] : List Str) := hw
        simp only [List.mem_cons, List.not_mem_nil, or_false] at hw'
        rcases hw' with rfl | rfl | rfl <;> exact ⟨by decide +kernel, by decide +kernel⟩
      have hsm := List.mem_of_getElem? hs1
      obtain ⟨snot, sok⟩ := lok s hsm
      obtain ⟨nd1, me1⟩ := mem_eraseIdx lnd hs1
      have le1 : (left.eraseIdx r).length + 1 = left.length := by
        have hjl : r < left.length := (List.getElem?_eq_some_iff.mp hs1).1
        rw [List.length_eraseIdx, if_pos hjl]; omega
      have S8 : Sta K Fb Bb es5 [.lst ps ((t ++ [(w, s)]).map stD), .lst pl ((left.eraseIdx r).map .str), .lst pf (ts.map thD), .src a c8] F8 H8 σ5 := by
        rw [← map_erase, List.map_append]
        exact S8
      have so := S8.so
      have n0 : ∃ z, nm[0]? = some z ∧ PyData.strOk z = true := ⟨nm[0], List.getElem?_eq_getElem (by omega), n3 _ (List.getElem_mem _)⟩
      obtain ⟨z, hz, zok⟩ := n0
      have az : atI (nm.map PyData.str) 0 = some (.str z) := atI_nat (j := 0) (by rw [List.getElem?_map, hz]; rfl)
      refine stS_ext (n := 0 + 0 + 1) S8 (j := 3) (j3 := 0) rfl (by omega) rfl rfl (by decide) (by rw [List.length_map]; simp; omega) (ev_tup (ea_cons (ev_str _) (ea_cons (ev_op (ev_var so rfl) (ev_int _) (r2_ixL az)) ea_nil))) (fun F9 H9 S9 => ?_) fun u F9 H9 c9 hu hc9 S9 => ?_
      · have so := S9.so
        refine es_int0 (es_call (A := fun d => ∃ r : Nat, r < 5 ∧ d = .int (r : Nat)) (ev_val so rfl) (esa_cons (es_D (ev_int 5)) esa_nil) ?_) (fun d ⟨r, _, e⟩ => ⟨r, e⟩)
        rintro ds ⟨d, r, rfl, rfl, rfl⟩
        exact ⟨_, ⟨5, by decide, by decide, rfl, rfl⟩, fun d h => h⟩
      have vi1 := vi.lock wl.1 snot wl.2 sok
      have vi2 : VI ((t ++ [(w, s)]) ++ List.replicate u (("work" : Str), z)) (hs ++ [s]) := by
        have : u = 0 ∨ u = 1 := by omega
        rcases this with rfl | rfl
        · simpa using vi1
        · exact vi1.other (by decide +kernel) (by decide +kernel) (by decide +kernel) zok
      refine NX.of S9 ⟨m - 1, by omega, rfl, left.eraseIdx r, hs ++ [s], (t ++ [(w, s)]) ++ List.replicate u (("work" : Str), z), c9, ?_, vi2, by omega, by simp; omega, nd1, fun x hx => ?_, fun x hx => ?_, fun x hx => lnm x ((me1 x).mp hx).1, by simp; omega, by simp; omega⟩
      · rw [List.map_append (l₂ := List.replicate u _), List.map_replicate]
        rfl
      · obtain ⟨h1, h2⟩ := (me1 x).mp hx
        refine ⟨fun h => ?_, (lok x h1).2⟩
        rcases List.mem_append.mp h with h | h
        · exact (lok x h1).1 h
        · exact h2 (List.mem_singleton.mp h)
      · rcases List.mem_append.mp hx with h | h
        · exact hnm' x h
        · rw [List.mem_singleton.mp h]; exact lnm s hsm
    · have l0 : left = [] := by
        cases e : left with
        | nil => rfl
        | cons x l => rw [e] at hb; cases hb
      subst l0
      have hs2 : hs.length = 2 := by simpa using lh
      have hall : ∀ n, n ∈ nm ↔ n ∈ hs := fun n => ⟨fun h => by
        by_cases c : n ∈ hs
        · exact c
        · have := sub_len (l := n :: hs) (m := nm) (List.nodup_cons.mpr ⟨c, vi.nd⟩) (fun x hx => by
            rcases List.mem_cons.mp hx with rfl | hx
            · exact h
            · exact hnm' x hx)
          rw [List.length_cons] at this
          omega, hnm' n⟩
      have so := S6.so
      refine st_setN S6 (en_cb (ea_cons (ev_var so rfl) ea_nil) (rcn_lst (.inl rfl))) fun p2 F7 H7 σ7 S7 => ?_
      let es6 : List SV := [.val (.ref a), .dat (.list (nm.map .str)), .val (.ref pf), .dat (.int ((0 + k' : Nat) : Int)), .val (.ref p2), .val (.ref ps)]
      refine while_S S7 (fun m es ms => es = es6 ∧ ∃ (left hs : List Str) (t : Th) (c' : Nat) (old : MO), ms = [.lst p2 (left.map .str), .lst ps (t.map stD), old, .lst pf (ts.map thD), .src a c'] ∧ VI t hs ∧ left.length = m ∧ left.length ≤ 2 ∧ left.Nodup ∧ (∀ n, n ∈ left ↔ n ∈ hs) ∧ (∀ x ∈ left, PyData.strOk x = true) ∧ t.length + left.length ≤ 6 ∧ c' + left.length ≤ c2 + 8) 2 ⟨rfl, nm, hs, t, c5, _, rfl, vi, n1, by omega, n2, hall, n3, by omega, by omega⟩ ?_
      rintro m es ms F8 H8 σ8 ⟨rfl, left, hs', t, c8, old, rfl, vi, lm, l2, lnd, lhs, lok, tlen, hc8⟩ S8
      have sop := (S8.so.ex S8.ex).pk S8.ex (S8.m (j := 0) rfl) (i := 4) rfl
      have lsh : SeqAt.shaped (.list (left.map .str)) = true := (shaped_strs lok).1
      refine ⟨!left.isEmpty, EvT.eq (et_peek (et_test (ev_op (ev_var sop rfl) (ev_lst ea_nil) (r2_neD lsh rfl)))) (by rw [ne_nilD]; simp), fun hb F9 H9 S9 => ?_, fun hb F9 H9 S9 => ?_⟩
      · have hl0 : 0 < left.length := by
          cases e : left with
          | nil => rw [e] at hb; cases hb
          | cons x l => simp
        have so := S9.so
        refine stS_app2 (n2 := 0) (n := 0 + 0 + 1) (A := fun d => d = .str "free") S9 (j := 4) (j2 := 0) (j3 := 1) rfl (by omega) (i := 4) rfl rfl (by decide) (by rw [List.length_map]; omega) rfl rfl (by decide) (by decide) (by rw [List.length_map]; omega)
          (es_D (ev_str "free")) (fun F10 H10 c10 hc10 S10 => ?_) fun x d r F11 H11 c11 hc11 hx hd S11 => ?_
        · have so7 := S10.pkd (j := 4) (i := 4) (i2 := 0) rfl rfl rfl (by decide)
          refine es_call (ev_val S10.so rfl) (esa_cons (es_D (ev_peek (ev_cb (ea_cons (ev_var so7 rfl) ea_nil) rc_lenL))) esa_nil) ?_
          rintro ds ⟨d, r, rfl, rfl, rfl⟩
          exact ⟨_, ⟨_, by rw [List.length_map]; exact hl0, by rw [List.length_map]; omega, rfl, rfl⟩, fun d h => h⟩
        rw [List.getElem?_map] at hd
        obtain ⟨s, hs1, rfl⟩ := Option.map_eq_some_iff.mp hd
        subst hx
        have hsm := List.mem_of_getElem? hs1
        obtain ⟨nd1, me1⟩ := mem_eraseIdx lnd hs1
        have le1 : (left.eraseIdx r).length + 1 = left.length := by
          have hjl : r < left.length := (List.getElem?_eq_some_iff.mp hs1).1
          rw [List.length_eraseIdx, if_pos hjl]; omega
        have vi2 := vi.free (hs' := left.eraseIdx r) ((lhs s).mp hsm) nd1 (fun n => by rw [me1 n, lhs n]) (lok s hsm)
        refine NX.of S11 ⟨m - 1, by omega, rfl, left.eraseIdx r, left.eraseIdx r, t ++ [(("free" : Str), s)], c11, old, ?_, vi2, by omega, by omega, nd1, fun n => Iff.rfl, fun x hx => lok x ((me1 x).mp hx).1, by simp; omega, by omega⟩
        rw [← map_erase, List.map_append]
        rfl
      · have l0 : left = [] := by
          cases e : left with
          | nil => rfl
          | cons x l => rw [e] at hb; cases hb
        subst l0
        have vd : Vd t := by
          have : hs' = [] := List.eq_nil_iff_forall_not_mem.mpr fun x hx => by have := (lhs x).mpr hx; cases this
          subst this
          exact vi.fin (by simpa using tlen)
        have S10 := S9.less (ms' := [.lst ps (t.map stD), .lst pf (ts.map thD), .src a c8]) (.cons _ (.cons₂ _ (.cons _ (List.Sublist.refl _))))
        obtain ⟨vsx, S11, d11⟩ := S10.freeze
        have so := S11.so.put (i := 5) (S11.so.val rfl) d11
        refine st_app (j := 0) S11 rfl rfl ((ev_cb (ea_cons (ev_var so rfl) ea_nil) rc_tup) : EvD K _ _ _ _ (thD t)) (by rw [List.length_map]; omega) fun F12 H12 S12 => ?_
        refine NX.of (S12.weak (es' := [.val (.ref a), .dat (.list (nm.map .str)), .val (.ref pf), .un, .un, .un]) (by repeat (first | exact .nil | refine .cons (by first | exact trivial | rfl) ?_))) ⟨rfl, ts ++ [t], c8, by simp, by simp [tl], fun x hx => ?_, by simp at hc8; omega⟩
        rcases List.mem_append.mp hx with h | h
        · exact tv x h
        · rw [List.mem_singleton.mp h]; exact vd
  · rintro es ms F2 H2 σ2 ⟨rfl, ts, c2, rfl, tl, tv, hc2⟩ S2
    rw [List.length_range] at tl hc2
    match ts, tl, tv, S2 with
    | [t1, t2], _, tv, S2 =>
      obtain ⟨vsx, S3, d3⟩ := S2.freeze
      have so := S3.so.put (i := 2) (S3.so.val rfl) d3
      refine st_ret2 S3 (EvD.eq (x := prD t1 t2) (ev_tup (ea_cons (ev_op (ev_var so rfl) (ev_int _) (r2_ixL (atI_nat (j := 0) rfl))) (ea_cons (ev_op (ev_var so rfl) (ev_int _) (r2_ixL (atI_nat (j := 1) rfl))) ea_nil))) rfl) fun v F' H' kv S4 => ?_
      exact q v _ F' H' c2 S4.gr (S4.m (j := 0) rfl) (by omega) ⟨t1, t2, tv t1 (by simp), tv t2 (by simp), rfl⟩ kv
end TT
/-! D__law_blocks -/
namespace TT
open PySem PySem.Spec PyProof.Rows L2 C8
def sp__law_blocks (K : PySem.W.Frag) : Sp := SpS K 3 fun ds A => ∃ (k : Nat) (nm : List Str), 1 ≤ k ∧ k ≤ 3 ∧ NamesOk 3 nm ∧ ds = [.int (k : Nat), .list (nm.map .str)] ∧ A = PairOk
theorem len__law_blocks {K : PySem.W.Frag} : ∀ vs H Q E, sp__law_blocks K vs H Q E → vs.length = 3 := spS_len (by rintro _ _ ⟨k, nm, _, _, _, rfl, _⟩; rfl)
def bk (n : Str) : Th := [("lock", n), ("free", n)]
def bkD (n : Str) : D := .tuple [.tuple [.str "lock", .str n], .tuple [.str "free", .str n]]
theorem bk_shaped {ns : List Str} (h : ∀ n ∈ ns, PyData.strOk n = true) : SeqAt.shaped (.list (ns.map bkD)) = true := (shaped_by fun d hd => by
  obtain ⟨n, hn, rfl⟩ := List.mem_map.mp hd
  have o1 : PyData.strOk ("lock" : Str) = true := by decide +kernel
  have o2 : PyData.strOk ("free" : Str) = true := by decide +kernel
  refine ⟨?_, ?_⟩
  · simp [bkD, bk, stD, PyData.canLay0, PyData.canLayAll0, o1, o2, h n hn]
  · simp [bkD, bk, stD, PyData.depth, PyData.depthAll]).1
theorem bk_vi {ns : List Str} (h : ∀ n ∈ ns, PyData.strOk n = true) : VI (ns.flatMap bk) [] := by
  have main : ∀ (ns : List Str) (t : Th), VI t [] → (∀ n ∈ ns, PyData.strOk n = true) → VI (t ++ ns.flatMap bk) [] := by
    intro ns
    induction ns with
    | nil => intro t v _; simpa using v
    | cons n ns ih =>
      intro t v ho
      have ok := ho n (by simp)
      have v1 := v.lock (w := "lock") (m := n) (by decide +kernel) (by simp) (by decide +kernel) ok
      have v2 := v1.free (hs' := []) (m := n) (by simp) List.nodup_nil (fun x => by simp) ok
      have := ih _ v2 fun x hx => ho x (by simp [hx])
      simpa [bk, List.flatMap_cons] using this
  simpa using main ns [] VI.start h
theorem bk_len (ns : List Str) : (ns.flatMap bk).length = 2 * ns.length := by
  induction ns with
  | nil => rfl
  | cons n ns ih => rw [List.flatMap_cons, List.length_append, ih, List.length_cons]; simp [bk]; omega
theorem bk_flat (ns : List Str) : (ns.map fun n => (bk n).map stD).flatten = (ns.flatMap bk).map stD := by
  induction ns with
  | nil => rfl
  | cons n ns ih => rw [List.map_cons, List.flatten_cons, ih, List.flatMap_cons, List.map_append]
theorem map_eraseG {α β : Type} (f : α → β) (l : List α) (r : Nat) : (l.map f).eraseIdx r = (l.eraseIdx r).map f := by
  induction l generalizing r with
  | nil => simp
  | cons a l ih => cases r with
    | zero => simp
    | succ r => simp [ih]
theorem bk_tups (ns : List Str) : ns.map bkD = (ns.map fun n => (bk n).map stD).map .tuple := by rw [List.map_map]; rfl
theorem SO.eq {K : PySem.W.Frag} {H : Hp} {σ : L2.St} {es es' : List SV} (h : SO K H σ es) (e : es = es') : SO K H σ es' := e ▸ h
abbrev N__law_blocks : List Str := ["_law_source", "_law_count", "_law_names_here", "_law_blocks_here", "_law_left", "_law_turned_here", "_law_name"]
theorem sc__law_blocks : FnScope N__law_blocks ["_law_source", "_law_count", "_law_names_here"] (C8.fnScope st__law_blocks) := C8.fnScope_by (by decide +kernel)
theorem c__law_blocks {P : Program} {w : World} {K : PySem.W.Frag} {mg : Str → Option Value} {base : Heap} (T : Txt K mg) (c__law_draw : C8.Cal P w K mg base 1 "_law_draw" (sp__law_draw K) []) : C8.Cal P w K mg base 2 "_law_blocks" (sp__law_blocks K) [] := by
  obtain ⟨f, fd, Fd, df⟩ := T.d__law_blocks
  refine C8.cal0 Fd (Fd.fn.binds df (ps := ["_law_source", "_law_count", "_law_names_here"]) (fun _ _ _ _ _ _ us hl => match us, hl with | [_, _, _], _ => rfl)) .nil sc__law_blocks len__law_blocks fun cdv A outer s H vs Q E hr hsp => ?_
  have hu := hu_of hr
  have nd := (sc__law_blocks).nd
  refine ⟨_, (pss_cons (ps_setLc (i := 3) (own := [("_law_name", 6)]) (by rfl) nd (by rfl) (by rfl) (sw_true rfl rfl rfl (by decide +kernel)) (kpi_list (K := K) (by rfl) (pe_slice (ksl_list (K := K) (by rfl)) (pv 2) po_none (po_some (pv 1)))) (blkOk_by (by kernel_rfl)) (fun _ _ _ _ _ => (pg_name (i := 6) nd (by rfl) (by first | exact Or.inl rfl | exact Or.inr rfl))) (fun _ _ _ _ _ => pts_nil) (fun _ _ _ _ _ => (pe_tup (pa_cons (pe_tup (pa_cons pe_str (pa_cons (pv 6) pa_nil))) (pa_cons (pe_tup (pa_cons pe_str (pa_cons (pv 6) pa_nil))) pa_nil)))))
  (pss_cons (ps_par (i := 4) (j := 5) (by rfl) nd (by rfl) (by rfl) (by decide) (by rfl) (by rfl) (pa_cons (pe_callTy (kc_list (K := K) (by rfl)) (by rfl) T.b_list (by decide +kernel) (pa_cons (pv 3) pa_nil)) (pa_cons (pe_lst pa_nil) pa_nil)) (by rfl))
  (pss_cons (ps_while PassesOwn.never (pt_cmpR (kneD (K := K) (by rfl) hr.units) (pv 4) (pe_lst pa_nil) (nomark _))
   (pss_one (ps_expr (kbm (K := K) (by rfl) PySem.F.plainAttrs_list PySem.F.slot_list_append PySem.F.type_list_append mt_append (pv 5) (pa_cons (kbm (K := K) (by rfl) PySem.F.plainAttrs_list PySem.F.slot_list_pop PySem.F.type_list_pop mt_popAt (pv 4) (pa_cons (pe_c c__law_draw hr (by decide) (by rfl) (pa_cons (pv 0) (pa_cons (pe_callB (kc_len (K := K) (by rfl)) (by rfl) T.b_len (by decide +kernel) (pa_cons (pv 4) pa_nil)) pa_nil))) pa_nil)) pa_nil)))))
  (pss_one (ps_ret (pe_tup (pa_cons (pe_callB (kc_sumT (K := K) (by rfl) (by rfl)) (by rfl) T.b_sum (by decide +kernel) (pa_cons (pv 3) (pa_cons (pe_tup pa_nil) pa_nil))) (pa_cons (pe_callB (kc_sumT (K := K) (by rfl) (by rfl)) (by rfl) T.b_sum (by decide +kernel) (pa_cons (pv 5) (pa_cons (pe_tup pa_nil) pa_nil))) pa_nil)))))))), ?_⟩
  obtain ⟨F, a, c, us, ds, A, rfl, e0, m0, hc, ks, ⟨k, nm, k1, k3, hnm, rfl, rfl⟩, q⟩ := hsp
  have S : Sta K F (del H a) [.val (.ref a), .dat (.int (k : Nat)), .dat (.list (nm.map .str)), .un, .un, .un, .un] [.src a c] F H (L2.start N__law_blocks (.ref a :: us)) := Sta.beginS 4 e0 m0 ks
  obtain ⟨n1, n2, n3⟩ := hnm
  have so := S.so
  refine st_set S (EvN.toD (en_lcA0 (nm.take k) .str so (it_list (EvD.eq (EvN.toD (en_slL (ev_var so rfl) eo_none (eo_some (ev_var so rfl)))) (by rw [cutA_take, List.map_take]))) rfl bkD _ (by rw [List.length_take]; omega) (fun _ _ => tg_name) (by decide) fun n _ F2 H2 σ2 g2 so2 => (ev_tup (ea_cons (ev_tup (ea_cons (ev_str _) (ea_cons (ev_var so2 rfl) ea_nil))) (ea_cons (ev_tup (ea_cons (ev_str _) (ea_cons (ev_var so2 rfl) ea_nil))) ea_nil))))) fun F1 H1 σ1 S1 => ?_
  have so := S1.so
  refine st_parMM S1 (EvN.toM (en_cb (ea_cons (ev_var so rfl) ea_nil) (rcn_lst (.inl rfl)))) (EvN.toM (en_lst ea_nil)) fun pl pt F2 H2 σ2 S2 => ?_
  have tl : (nm.take k).length = k := by rw [List.length_take]; omega
  have tin : ∀ n ∈ nm.take k, PyData.strOk n = true := fun n hn => n3 n (List.mem_of_mem_take hn)
  let es5 : List SV := [.val (.ref a), .dat (.int (k : Nat)), .dat (.list (nm.map .str)), .dat (.list ((nm.take k).map bkD)), .val (.ref pl), .val (.ref pt), .un]
  refine while_S S2 (fun m es ms => es = es5 ∧ ∃ (left turned : List Str) (c' : Nat), ms = [.lst pt (turned.map bkD), .lst pl (left.map bkD), .src a c'] ∧ left.length = m ∧ turned.length + left.length = k ∧ (∀ n ∈ left, PyData.strOk n = true) ∧ (∀ n ∈ turned, PyData.strOk n = true) ∧ c' ≤ c + turned.length) k ⟨rfl, nm.take k, [], c, rfl, tl, by simp [tl], tin, (fun n h => nomatch h), Nat.le_refl _⟩ ?_
  rintro m es ms F5 H5 σ5 ⟨rfl, left, turned, c5, rfl, lm, lh, lok, tok, hc5⟩ S5
  have sop := (S5.so.ex S5.ex).pk S5.ex (S5.m (j := 1) rfl) (i := 4) rfl
  have lsh : SeqAt.shaped (.list (left.map bkD)) = true := bk_shaped lok
  refine ⟨!left.isEmpty, EvT.eq (et_peek (et_test (ev_op (ev_var sop rfl) (ev_lst ea_nil) (r2_neD lsh rfl)))) (by rw [ne_nilD]; simp), fun hb F6 H6 S6 => ?_, fun hb F6 H6 S6 => ?_⟩
  · have hl0 : 0 < left.length := by
      cases e : left with
      | nil => rw [e] at hb; cases hb
      | cons x l => simp
    refine stS_app0 (n := 0 + 0 + 1) S6 (j := 2) (j2 := 1) (j3 := 0) rfl (by omega) (i := 4) rfl rfl (by decide) (by rw [List.length_map]; omega) (i3 := 5) rfl rfl (by decide) (by decide) (by rw [List.length_map]; omega) ?_ fun d r F8 H8 c8 hc8 hd S8 => ?_
    · have so7 := S6.pkd (j := 2) (i := 4) (i2 := 1) rfl rfl rfl (by decide)
      refine es_call (ev_val S6.so rfl) (esa_cons (es_D (ev_peek (ev_cb (ea_cons (ev_var so7 rfl) ea_nil) rc_lenL))) esa_nil) ?_
      rintro ds ⟨d, r, rfl, rfl, rfl⟩
      exact ⟨_, ⟨_, by rw [List.length_map]; exact hl0, by rw [List.length_map]; omega, rfl, rfl⟩, fun d h => h⟩
    rw [List.getElem?_map] at hd
    obtain ⟨s, hs1, rfl⟩ := Option.map_eq_some_iff.mp hd
    have le1 : (left.eraseIdx r).length + 1 = left.length := by
      have hjl : r < left.length := (List.getElem?_eq_some_iff.mp hs1).1
      rw [List.length_eraseIdx, if_pos hjl]; omega
    refine NX.of S8 ⟨m - 1, by omega, rfl, left.eraseIdx r, turned ++ [s], c8, ?_, by omega, by simp; omega, fun n hn => lok n (List.mem_of_mem_eraseIdx hn), fun n hn => ?_, by simp; omega⟩
    · rw [← map_eraseG, List.map_append]
      rfl
    · rcases List.mem_append.mp hn with h | h
      · exact tok n h
      · rw [List.mem_singleton.mp h]; exact lok s (List.mem_of_getElem? hs1)
  · have l0 : left = [] := by
      cases e : left with
      | nil => rfl
      | cons x l => rw [e] at hb; cases hb
    subst l0
    have tk : turned.length = k := by simpa using lh
    obtain ⟨vsx, S7, d7⟩ := S6.freeze
    have so := S7.so.put (i := 5) (S7.so.val rfl) d7
    have S8 := S7.less (ms' := [.src a c5]) (.cons _ (List.Sublist.refl _))
    have ne : ∀ ns : List Str, ∀ ds ∈ ns.map (fun n => (bk n).map stD), ds ≠ [] := fun ns ds h => by
      obtain ⟨n, _, rfl⟩ := List.mem_map.mp h
      simp [bk]
    have ne0 : ∀ ns : List Str, ns.length = k → ns.map (fun n => (bk n).map stD) ≠ [] := fun ns h z => by
      have := congrArg List.length z
      rw [List.length_map] at this
      simp at this
      rw [this] at h
      simp at h
      omega
    have fl : ∀ ns : List Str, ns.length = k → (ns.map fun n => (bk n).map stD).flatten.length ≤ 100000 := fun ns h => by rw [bk_flat, List.length_map, bk_len]; omega
    have so := so.eq (es' := [.val (.ref a), .dat (.int (k : Nat)), .dat (.list (nm.map .str)), .dat (.list (((nm.take k).map fun n => (bk n).map stD).map .tuple)), .val (.ref pl), .dat (.list ((turned.map fun n => (bk n).map stD).map .tuple)), .un]) (by rw [← bk_tups, ← bk_tups]; rfl)
    refine st_ret2 S8 (EvD.eq (x := prD ((nm.take k).flatMap bk) (turned.flatMap bk)) (ev_tup (ea_cons (ev_cb (ea_cons (ev_var so rfl) (ea_cons (ev_tup ea_nil) ea_nil)) (rc_sumT (ne (nm.take k)) (ne0 _ tl) (fl _ tl))) (ea_cons (ev_cb (ea_cons (ev_var so rfl) (ea_cons (ev_tup ea_nil) ea_nil)) (rc_sumT (ne turned) (ne0 _ tk) (fl _ tk))) ea_nil))) ?_) fun v F' H' kv S9 => ?_
    · rw [bk_flat, bk_flat]
    · have vd : ∀ ns : List Str, ns.length = k → (∀ n ∈ ns, PyData.strOk n = true) → Vd (ns.flatMap bk) := fun ns h ho => (bk_vi ho).fin (by rw [bk_len]; omega)
      exact q v _ F' H' c5 S9.gr (S9.m (j := 0) rfl) (by omega) ⟨_, _, vd _ tl tin, vd _ tk tok, rfl⟩ kv
end TT
/-! D__law_start -/
namespace TT
open PySem PySem.Spec PyProof.Rows L2 C8
def sp__law_start (K : PySem.W.Frag) : Sp := SpM K fun ds P => ∃ (ns : List Int) (k : Nat), k ≤ 1 ∧ ds = [.list (ns.map .int), .int (k : Nat)] ∧ P = fun mk => mk = fun p => .src p 0
theorem len__law_start {K : PySem.W.Frag} : ∀ vs H Q E, sp__law_start K vs H Q E → vs.length = 2 := spM_len (by rintro _ _ ⟨a, k, _, rfl, _⟩; rfl)
theorem fmod_lt2 {x m : Int} (h : 0 < m) : 0 ≤ x.fmod m ∧ x.fmod m < m := ⟨Int.fmod_nonneg_of_pos x h, Int.fmod_lt_of_pos x h⟩
abbrev N__law_start : List Str := ["_law_script", "_law_k", "_law_cell", "_law_large"]
theorem sc__law_start : FnScope N__law_start ["_law_script", "_law_k"] (C8.fnScope st__law_start) := C8.fnScope_by (by decide +kernel)
theorem c__law_start {P : Program} {w : World} {K : PySem.W.Frag} {mg : Str → Option Value} {base : Heap} (T : Txt K mg) : C8.Cal P w K mg base 1 "_law_start" (sp__law_start K) [] := by
  obtain ⟨f, fd, Fd, df⟩ := T.d__law_start
  refine C8.cal0 Fd (Fd.fn.binds df (ps := ["_law_script", "_law_k"]) (fun _ _ _ _ _ _ us hl => match us, hl with | [_, _], _ => rfl)) .nil sc__law_start len__law_start fun cdv A outer s H vs Q E hr hsp => ?_
  have hu := hu_of hr
  have nd := (sc__law_start).nd
  refine ⟨_, (pss_cons (ps_set (i := 2) nd (by rfl) (by first | exact Or.inl rfl | exact Or.inr rfl) (pe_ifExp (pt_cmpR op_lt (pv 1) (pe_callB (kc_len (K := K) (by rfl)) (by rfl) T.b_len (by decide +kernel) (pa_cons (pv 0) pa_nil)) (nomark _)) (pe_ix (kix_list (K := K) (by rfl)) (pv 0) (pv 1) (fun _ _ => rfl)) (pe_op op_add (pe_op op_mul pe_int (pv 1)) pe_int)))
  (pss_cons (ps_set (i := 3) nd (by rfl) (by first | exact Or.inl rfl | exact Or.inr rfl) (pe_op op_mul (pe_op op_modN (pe_callB call_abs (by rfl) T.b_abs (by decide +kernel) (pa_cons (pv 2) pa_nil)) (pe_op kpowW (pe_op kpowW pe_int pe_int) pe_int)) (pe_callTy call_int1 (by rfl) T.b_int (by decide +kernel) (pa_cons (pe_cmpR op_ge (pe_callB call_abs (by rfl) T.b_abs (by decide +kernel) (pa_cons (pv 2) pa_nil)) (pe_op kpowW pe_int pe_int) (nomark _)) pa_nil))))
  (pss_one (ps_ret (pe_lst (pa_cons (pv 3) (pa_cons (pe_op op_modN (pe_op op_mul (pe_op op_add (pe_op op_add (pe_op op_modN (pv 2) pe_int) (pe_op op_mul (pe_op op_mul pe_int (pv 1)) (pv 1))) pe_int) pe_int) pe_int) (pa_cons pe_int pa_nil)))))))), ?_⟩
  obtain ⟨F, ds, P, e0, hd, ⟨ns, k, hk, rfl, rfl⟩, q⟩ := hsp
  have S : Sta K F H [.dat (.list (ns.map .int)), .dat (.int (k : Nat)), .un, .un] [] F H (L2.start N__law_start vs) := Sta.begin 2 e0 hd
  have so := S.so
  let cell : Int := ns.getD k (13 * (k : Int) + 7)
  let b : Bool := decide ((k : Int) < ((ns.map PyData.int).length : Nat))
  have hb : b = true → k < ns.length := fun h => by
    have := of_decide_eq_true h
    rw [List.length_map] at this
    omega
  have ha : b = true → atI (ns.map PyData.int) ((k : Nat) : Int) = some (.int cell) := fun h => by
    have hl := hb h
    refine atI_nat ?_
    rw [List.getElem?_map, List.getElem?_eq_getElem hl]
    show some (PyData.int _) = some (.int (ns.getD k _))
    rw [List.getD_eq_getElem?_getD, List.getElem?_eq_getElem hl]
    rfl
  have hn : b = false → cell = 13 * (k : Int) + 7 := fun h => by
    have := of_decide_eq_false h
    rw [List.length_map] at this
    show ns.getD k _ = _
    rw [List.getD_eq_getElem?_getD, List.getElem?_eq_none (by omega)]
    rfl
  refine st_set S (ev_if (b := b) (d := .int cell) (et_test (ev_op (ev_var so rfl) (ev_cb (ea_cons (ev_var so rfl) ea_nil) rc_lenL) r2_B0)) (fun h => (ev_op (ev_var so rfl) (ev_var so rfl) (r2_ixL (ha h)))) (fun h => EvD.eq (ev_op (ev_op (ev_int _) (ev_var so rfl) (r2_I (.inl ⟨by decide, by decide⟩))) (ev_int _) r2_I0) (by rw [hn h]))) fun F1 H1 σ1 S1 => ?_
  have so := S1.so
  have p1 : CPowW 10 60 := ⟨by decide, by decide +kernel⟩
  have p2 : CPowW ((10 : Int) ^ (60 : Int).toNat) 5 := ⟨by decide, by decide +kernel⟩
  have p3 : CPowW 10 18 := ⟨by decide, by decide +kernel⟩
  have p4 : ((10 : Int) ^ (60 : Int).toNat) ^ (5 : Int).toNat ≠ 0 := by decide +kernel
  have p5 : (0 : Int) < ((10 : Int) ^ (60 : Int).toNat) ^ (5 : Int).toNat := by decide +kernel
  let ab : Int := if cell < 0 then -cell else cell
  let one : Int := if decide (ab ≥ (10 : Int) ^ (18 : Int).toNat) = true then 1 else 0
  have h1 : 0 ≤ one ∧ one ≤ 1 := by show 0 ≤ (if _ then _ else _ : Int) ∧ (if _ then _ else _ : Int) ≤ 1; split <;> decide
  refine st_set S1 (ev_op (ev_op (ev_cb (ea_cons (ev_var so rfl) ea_nil) rc_abs) (ev_op (ev_op (ev_int _) (ev_int _) (r2_I p1)) (ev_int _) (r2_I p2)) (r2_I p4)) (ev_cb (ea_cons (ev_op (ev_cb (ea_cons (ev_var so rfl) ea_nil) rc_abs) (ev_op (ev_int _) (ev_int _) (r2_I p3)) r2_B0) ea_nil) rc_intB) (r2_I (.inr ⟨(by have := h1.1; show -(2 ^ 64) < one; omega), (by have := h1.2; show one < 2 ^ 64; omega)⟩))) fun F2 H2 σ2 S2 => ?_
  obtain ⟨q1, q2⟩ := fmod_lt2 (x := ab) p5
  have L0 : 0 ≤ ab.fmod (((10 : Int) ^ (60 : Int).toNat) ^ (5 : Int).toNat) * one := Int.mul_nonneg q1 h1.1
  have S2 : Sta K F H [.dat (.list (ns.map .int)), .dat (.int (k : Nat)), .dat (.int cell), .dat (.int (ab.fmod (((10 : Int) ^ (60 : Int).toNat) ^ (5 : Int).toNat) * one))] [] F2 H2 σ2 := S2
  generalize ab.fmod (((10 : Int) ^ (60 : Int).toNat) ^ (5 : Int).toNat) * one = L at L0 S2
  have so := S2.so
  obtain ⟨r1, r2⟩ := fmod_lt2 (x := cell) (m := 2305843009213693951) (by decide)
  have k1 : (0 : Int) ≤ (k : Int) ∧ (k : Int) ≤ 1 := by omega
  have k2 : (0 : Int) ≤ 15485867 * (k : Int) * (k : Int) ∧ 15485867 * (k : Int) * (k : Int) ≤ 15485867 := ⟨Int.mul_nonneg (by omega) (by omega), by
    have : k = 0 ∨ k = 1 := by omega
    rcases this with rfl | rfl <;> decide⟩
  have k3 : cell.fmod 2305843009213693951 + 15485867 * (k : Int) * (k : Int) + 41 < 2 ^ 64 := by omega
  obtain ⟨g1, g2⟩ := fmod_lt2 (x := (cell.fmod 2305843009213693951 + 15485867 * (k : Int) * (k : Int) + 41) * 48271) (m := 2305843009213693907) (by decide)
  refine (EvN.toM (en_lst (ea_cons (ev_var so rfl) (ea_cons (ev_op (ev_op (ev_op (ev_op (ev_op (ev_var so rfl) (ev_int _) (r2_I (by decide))) (ev_op (ev_op (ev_int _) (ev_var so rfl) (r2_I (.inl ⟨by decide, by decide⟩))) (ev_var so rfl) (r2_I (.inl ⟨by omega, by omega⟩))) r2_I0) (ev_int _) r2_I0) (ev_int _) (r2_I (.inl ⟨by omega, by omega⟩))) (ev_int _) (r2_I (by decide))) (ea_cons (ev_int _) ea_nil))))) F2 H2 (Gr.refl S2.ex) _ fun p F3 H3 g3 hp m3 => ?_
  exact q _ p F3 H3 rfl (S2.gr.trans g3) (S2.gr.hh.free hp) (src_of m3 L0 g1 g2 (by decide) (by decide))
end TT
/-! Lw -/
/-! What the law itself needs: a new list whose items draw; a test that draws. -/
namespace TT
open PySem PySem.Spec PyProof.Rows L2
section
variable {K : PySem.W.Frag} {σ : L2.St} {es : List SV} {F F0 B0 H : Hp} {te : TE} {tl : TA} {t : TT} {tu tw : TS} {i j n c : Nat} {ms : List MO} {Dn : Ends} {a : Addr} {L : List D → Prop} {b : Bool}
theorem EvSA.weak {F B : Hp} {n m : Nat} {L L2 : List D → Prop} (h : EvSA K a tl σ F B n L) (hn : n ≤ m) (hL : ∀ ds, L ds → L2 ds) : EvSA K a tl σ F B m L2 := fun F1 H1 c g mm hc Q q => h F1 H1 c g mm (by omega) Q fun vs ds F2 H2 c' g2 m2 h2 hd k => q vs ds F2 H2 c' g2 m2 (by omega) (hL ds hd) k
/-- x = [e, ..], items that draw -/
theorem stS_setN (S : Sta K F0 B0 es ms F H σ) (hj : ms[j]? = some (.src a c)) (hc : c + n ≤ 100000) (h : EvSA K a tl σ F (del H a) n L) (hz : ∀ ds, L ds → ds.length ≤ 100)
    (k : ∀ ds p F' H' σ' c', c' ≤ c + n → L ds → Sta K F0 B0 (es.set i (.val (.ref p))) (.lst p ds :: ms.set j (.src a c')) F' H' σ' → Dn.nx σ' H') : tAsg (tLst tl) (gName i) Dn σ H := by
  refine h F H c (Gr.refl (ex_del (S.m hj).free S.ex)) (S.m hj) hc _ fun vs ds F2 H2 c2 g2 m2 hc2 hds ks => ⟨by rw [ks.len]; exact Nat.le_trans (hz ds hds) (by decide), fun p hp => ?_⟩
  have S2 := S.call (m := .src a c) (m' := .src a c2) hj rfl g2.undel m2
  exact k ds p F2 _ _ c2 hc2 hds ((S2.made (m := .lst p ds) (Gr.mut S2.ex hp) hp ⟨S2.ex.free hp, vs, upd_same, ks⟩).setV i (.ref p))
/-- if t and not e: .., e draws and is true -/
theorem stS_ifAnd (S : Sta K F0 B0 es ms F H σ) (hj : ms[j]? = some (.src a c)) (hc : c + n ≤ 100000) (h1 : EvT t σ F H b) (h2 : ∀ F' H', Sta K F0 B0 es ms F' H' σ → EvS K a te σ F' (del H' a) n (fun d => d = .bool true))
    (k : ∀ F' H' c', c' ≤ c + n → Sta K F0 B0 es (ms.set j (.src a c')) F' H' σ → tw Dn σ H') : tIfS (tAnd t (tNot (tB te))) tu tw Dn σ H := by
  refine h1 F H (Gr.refl S.ex) _ fun F1 H1 g1 => ?_
  have S1 := S.grow g1
  cases b with
  | true =>
    show te σ H1 fun x H2 => ∃ z, x = .bl z ∧ (if (!z) = true then tu Dn σ H2 else tw Dn σ H2)
    refine stS S1 hj hc (h2 F1 H1 S1) fun v d F' H' c' hc' hd e kv S' => ⟨true, ?_, k F' H' c' hc' S'⟩
    subst hd
    exact dp_bl kv
  | false =>
    refine k F1 H1 c (by omega) ?_
    have : ms.set j (.src a c) = ms := by
      refine List.ext_getElem? fun m => ?_
      rw [List.getElem?_set]
      split
      · next e => subst e; split
                  · rw [hj]
                  · next h => rw [List.getElem?_eq_none (by omega)]
      · rfl
    rw [this]
    exact S1
end
end TT
/-! D_law -/
namespace TT
open PySem PySem.Spec PyProof.Rows L2 C8
def sp_law (K : PySem.W.Frag) : Sp := SpF K fun ds d => ∃ ns : List Int, ns.length ≤ 63 ∧ ds = [.list (ns.map .int)] ∧ d = .bool true
theorem len_law {K : PySem.W.Frag} : ∀ vs H Q E, sp_law K vs H Q E → vs.length = 1 := spF_len (by rintro _ _ ⟨ns, _, rfl, _⟩; rfl)
abbrev N_law : List Str := ["_law_script", "_law_k", "_law_source", "_law_turn", "_law_some", "_law_pair_here"]
theorem sc_law : FnScope N_law ["_law_script"] (C8.fnScope st_law) := C8.fnScope_by (by decide +kernel)
theorem f_law {P : Program} {w : World} {K : PySem.W.Frag} {mg : Str → Option Value} {base : Heap} (T : Txt K mg) (c__law_right : C8.Cal P w K mg base 8 "_law_right" (sp__law_right K) []) (c__law_choice : C8.Cal P w K mg base 2 "_law_choice" (sp__law_choice K) []) (c__law_blocks : C8.Cal P w K mg base 2 "_law_blocks" (sp__law_blocks K) []) (c__law_names : C8.Cal P w K mg base 3 "_law_names" (sp__law_names K) []) (c__law_draw : C8.Cal P w K mg base 1 "_law_draw" (sp__law_draw K) []) (c__law_crossed : C8.Cal P w K mg base 3 "_law_crossed" (sp__law_crossed K) []) (c__law_pair : C8.Cal P w K mg base 4 "_law_pair" (sp__law_pair K) []) (c__law_start : C8.Cal P w K mg base 1 "_law_start" (sp__law_start K) []) {f : Addr} {fd : FuncData} (Fd : C8.Def K mg "law" st_law f fd) : FnOk P w K mg base C8.CX0 9 f fd ["_law_script"] (sp_law K) := by
  refine C8.fn0 Fd.fn sc_law len_law fun cdv A outer s H vs Q E hr hsp => ?_
  have hu := hu_of hr
  have nd := (sc_law).nd
  refine ⟨_, (pss_cons (ps_for PassesOwn.never rfl (pi_range1 (by rfl) T.b_range (pa_cons (pe_callB (call_max2 rfl) (by rfl) T.b_max (by decide +kernel) (pa_cons pe_int (pa_cons (pe_callB (call_min2 rfl) (by rfl) T.b_min (by decide +kernel) (pa_cons pe_int (pa_cons (pe_callB (kc_len (K := K) (by rfl)) (by rfl) T.b_len (by decide +kernel) (pa_cons (pv 0) pa_nil)) pa_nil))) pa_nil))) pa_nil)) (pg_name (i := 1) nd (by rfl) (by first | exact Or.inl rfl | exact Or.inr rfl))
   (pss_cons (ps_set (i := 2) nd (by rfl) (by first | exact Or.inl rfl | exact Or.inr rfl) (pe_c c__law_start hr (by decide) (by rfl) (pa_cons (pv 0) (pa_cons (pv 1) pa_nil))))
  (pss_one (ps_for PassesOwn.never rfl (pi_range1 (by rfl) T.b_range (pa_cons pe_int pa_nil)) (pg_name (i := 3) nd (by rfl) (by first | exact Or.inl rfl | exact Or.inr rfl))
   (pss_cons (ps_set (i := 4) nd (by rfl) (by first | exact Or.inl rfl | exact Or.inr rfl) (pe_lst (pa_cons (pe_c c__law_pair hr (by decide) (by rfl) (pa_cons (pv 2) (pa_cons pe_int pa_nil))) (pa_cons (pe_c c__law_crossed hr (by decide) (by rfl) (pa_cons (pv 2) (pa_cons (pe_c c__law_names hr (by decide) (by rfl) (pa_cons (pv 2) (pa_cons pe_int pa_nil))) pa_nil))) pa_nil))))
  (pss_cons (ps_expr (kbm (K := K) (by rfl) PySem.F.plainAttrs_list PySem.F.slot_list_append PySem.F.type_list_append mt_append (pv 4) (pa_cons (pe_c c__law_blocks hr (by decide) (by rfl) (pa_cons (pv 2) (pa_cons (pe_op op_add pe_int (pe_c c__law_draw hr (by decide) (by rfl) (pa_cons (pv 2) (pa_cons pe_int pa_nil)))) (pa_cons (pe_c c__law_names hr (by decide) (by rfl) (pa_cons (pv 2) (pa_cons pe_int pa_nil))) pa_nil)))) pa_nil)))
  (pss_cons (ps_set (i := 5) nd (by rfl) (by first | exact Or.inl rfl | exact Or.inr rfl) (pe_c c__law_choice hr (by decide) (by rfl) (pa_cons (pv 2) (pa_cons (pv 4) pa_nil))))
  (pss_one (ps_if (PW.pt (pw_and (pt_cmpR op_lt (pe_op op_add (pe_callB (kc_len (K := K) (by rfl)) (by rfl) T.b_len (by decide +kernel) (pa_cons (pe_ix (kix_tup (K := K) (by rfl)) (pv 5) pe_int (fun _ _ => rfl)) pa_nil)) (pe_callB (kc_len (K := K) (by rfl)) (by rfl) T.b_len (by decide +kernel) (pa_cons (pe_ix (kix_tup (K := K) (by rfl)) (pv 5) pe_int (fun _ _ => rfl)) pa_nil))) pe_int (nomark _)) (pw_and1 (pt_not (pt_val (pe_c c__law_right hr (by decide) (by rfl) (pa_cons (pv 2) (pa_cons (pv 5) pa_nil))))))))
   (pss_one (ps_ret pe_bl))
   pss_nil)))))))))
  (pss_one (ps_ret pe_bl))), ?_⟩
  obtain ⟨F, ds, d, e0, hd, ⟨ns, hz, rfl, rfl⟩, q⟩ := hsp
  have S : Sta K F H [.dat (.list (ns.map .int)), .un, .un, .un, .un, .un] [] F H (L2.start N_law vs) := Sta.begin 5 e0 hd
  have so := S.so
  let n : Nat := if 2 ≤ ns.length then 2 else 1
  have hn : n ≤ 2 := by show (if _ then _ else _ : Nat) ≤ 2; split <;> omega
  let es0 : List SV := [.dat (.list (ns.map .int)), .un, .un, .un, .un, .un]
  refine for_A (List.range n) (fun k => .int ((0 + k : Nat) : Int)) S (it_rng1 (n := n) (ea_cons (EvD.eq (ev_cb (ea_cons (ev_int _) (ea_cons (ev_cb (ea_cons (ev_int _) (ea_cons (ev_cb (ea_cons (ev_var so rfl) ea_nil) rc_lenL) ea_nil)) rc_i2) ea_nil)) rc_i2) ?en) ea_nil) (by omega)) rfl (fun k es ms => es = es0 ∧ ms = []) ⟨rfl, rfl⟩ ?_ ?_
  case en =>
    show PyData.int _ = .int ((if 2 ≤ ns.length then 2 else 1 : Nat) : Int)
    rw [List.length_map]
    congr 1
    split <;> split <;> split <;> omega
  · rintro Fb Bb gb k k' es ms F2 H2 σ2 hk ⟨rfl, rfl⟩ S2
    have hk2 : k' = k ∧ k < n := by
      obtain ⟨h1, h2⟩ := List.getElem?_eq_some_iff.mp hk
      rw [List.length_range] at h1
      rw [List.getElem_range] at h2
      exact ⟨h2.symm, h1⟩
    obtain ⟨rfl, hkn⟩ := hk2
    refine ⟨_, _, tg_name, fun σ3 S3 => ?_⟩
    have S3 : Sta K Fb Bb [.dat (.list (ns.map .int)), .dat (.int (k' : Nat)), .un, .un, .un, .un] [] F2 H2 σ3 := by
      rw [Nat.zero_add] at S3
      exact S3
    have so := S3.so
    refine st_setP S3 (ep_call (ea_cons (ev_var so rfl) (ea_cons (ev_var so rfl) ea_nil)) ⟨ns, k', by omega, rfl, rfl⟩) (fun mk h p => by rw [h]; rfl) fun mk a F4 H4 σ4 hP S4 => ?_
    subst hP
    let es4 : List SV := [.dat (.list (ns.map .int)), .dat (.int (k' : Nat)), .val (.ref a), .un, .un, .un]
    have S4 : Sta K Fb Bb es4 [.src a 0] F4 H4 σ4 := S4
    refine for_A (List.range 3) (fun k => .int ((0 + k : Nat) : Int)) S4 (it_rng1 (n := 3) (ea_cons (ev_int _) ea_nil) (by decide)) rfl (fun k es ms => es = es4 ∧ ∃ c', ms = [.src a c'] ∧ c' ≤ 200 * k) ⟨rfl, 0, rfl, by omega⟩ ?_ ?_
    · rintro Fc Bc gc t t' es ms F5 H5 σ5 ht ⟨rfl, c, rfl, hc⟩ S5
      have ht3 : t < 3 := by
        have h1 := (List.getElem?_eq_some_iff.mp ht).1
        rw [List.length_range] at h1
        exact h1
      refine ⟨_, _, tg_name, fun σ6 S6 => ?_⟩
      have so := S6.so
      have nam : ∀ {σ F B} {es : List SV} (m : Nat), m ≤ 4 → SO K F σ es → es[2]? = some (.val (.ref a)) → EvS K a (tCall (sp__law_names K) [] C8.E0 (tCons (tVar 2) (tCons (tC (.int (m : Nat))) tNil))) σ F B (0 + 2) (fun d => ∃ xs, NamesOk m xs ∧ d = .list (xs.map .str)) := fun m hm so h => es_call (ev_val so h) (esa_A (ea_cons (ev_int _) ea_nil)) fun ds h => ⟨_, ⟨m, hm, h, rfl⟩, fun d h => h⟩
      refine stS_setN (L := fun ds => ds.length = 2 ∧ ∀ d ∈ ds, PairOk d) (n := 100) S6 (j := 0) rfl (by omega) (EvSA.weak (esa_cons (es_call (A := PairOk) (ev_val so rfl) (esa_A (ea_cons (ev_int _) ea_nil)) fun ds h => ⟨_, ⟨h, rfl⟩, fun d h => h⟩) (esa_cons (es_call (A := PairOk) (ev_val so rfl) (esa_cons (nam 2 (by decide) so rfl) esa_nil) ?cr) esa_nil)) (by decide) ?we) (fun ds h => by rw [h.1]; decide) fun ds p F7 H7 σ7 c7 hc7 hds S7 => ?_
      case cr =>
        rintro ds ⟨d, r, rfl, ⟨xs, hx, rfl⟩, rfl⟩
        exact ⟨_, ⟨xs, hx, rfl, rfl⟩, fun d h => h⟩
      case we =>
        rintro ds ⟨d, r, rfl, h1, d2, r2, rfl, h2, rfl⟩
        refine ⟨rfl, fun x hx => ?_⟩
        rcases List.mem_cons.mp hx with rfl | hx
        · exact h1
        · rw [List.mem_singleton.mp hx]; exact h2
      let es7 : List SV := [.dat (.list (ns.map .int)), .dat (.int (k' : Nat)), .val (.ref a), .dat (.int ((0 + t' : Nat) : Int)), .val (.ref p), .un]
      have S7 : Sta K Fc Bc es7 [.lst p ds, .src a c7] F7 H7 σ7 := S7
      have so := S7.so
      refine stS_app (n := 10) (A := PairOk) S7 (j := 1) rfl (by omega) rfl (j2 := 0) rfl (by decide) (EvS.weak (es_call (A := PairOk) (ev_val so rfl) (esa_cons (es_op (A3 := fun d => ∃ m : Nat, 1 ≤ m ∧ m ≤ 3 ∧ d = .int (m : Nat)) (es_D (ev_int 1)) (es_call (A := fun d => ∃ r : Nat, r < 3 ∧ d = .int (r : Nat)) (ev_val so rfl) (esa_A (ea_cons (ev_int _) ea_nil)) fun ds h => ⟨_, ⟨3, by decide, by decide, h, rfl⟩, fun d h => h⟩) ?ad) (esa_cons (nam 3 (by decide) so rfl) esa_nil)) ?bl) (by decide) fun d h => h) (by rw [hds.1]; decide) fun d F8 H8 c8 hc8 hd8 S8 => ?_
      case ad =>
        rintro x y F1 H1 rfl ⟨r, hr, rfl⟩
        refine ⟨.int ((1 + r : Nat) : Int), ⟨1 + r, by omega, by omega, rfl⟩, ?_⟩
        rw [show ((1 + r : Nat) : Int) = 1 + (r : Int) by omega]
        exact r2_I0
      case bl =>
        rintro ds ⟨d, r, rfl, ⟨m, h1, h2, rfl⟩, d2, r2, rfl, ⟨xs, hx, rfl⟩, rfl⟩
        exact ⟨_, ⟨m, xs, h1, h2, hx, rfl, rfl⟩, fun d h => h⟩
      obtain ⟨vsx, S9, d9⟩ := S8.freeze
      have all : ∀ x ∈ ds ++ [d], PairOk x := fun x hx => by
        rcases List.mem_append.mp hx with h | h
        · exact hds.2 x h
        · rw [List.mem_singleton.mp h]; exact hd8
      have l3 : (ds ++ [d]).length = 3 := by rw [List.length_append, hds.1]; rfl
      have so := S9.so.put (i := 4) (S9.so.val rfl) d9
      refine stS_set (n := 0 + 1) (A := PairOk) S9 (j := 0) rfl (by omega) (es_call (ev_val S9.so rfl) (esa_A (ea_cons (ev_var so rfl) ea_nil)) fun zs h => ⟨_, ⟨ds ++ [d], by omega, by omega, h, rfl⟩, fun x h => all x h⟩) fun pd F10 H10 σ10 c10 hc10 hpd S10 => ?_
      obtain ⟨x, y, vx, vy, rfl⟩ := hpd
      have so := S10.so
      refine stS_ifAnd (n := 0 + 24) S10 (j := 0) rfl (by omega) (et_test (ev_op (ev_op (ev_cb (ea_cons (ev_op (ev_var so rfl) (ev_int _) (r2_ixT rfl)) ea_nil) rc_lenT) (ev_cb (ea_cons (ev_op (ev_var so rfl) (ev_int _) (r2_ixT rfl)) ea_nil) rc_lenT) r2_I0) (ev_int _) r2_B0)) (fun F' H' S' => es_call (ev_val S'.so rfl) (esa_A (ea_cons (ev_var S'.so rfl) ea_nil)) fun ds h => ⟨_, ⟨x, y, vx, vy, h, rfl⟩, fun d h => h⟩) fun F11 H11 c11 hc11 S11 => ?_
      exact NX.of (S11.weak (es' := es4) (by repeat (first | exact .nil | refine .cons (by first | exact trivial | rfl) ?_))) ⟨rfl, c11, rfl, by omega⟩
    · rintro es ms F5 H5 σ5 ⟨rfl, c, rfl, hc⟩ S5
      exact NX.of ((S5.weak (es' := es0) (by repeat (first | exact .nil | refine .cons (by first | exact trivial | rfl) ?_))).less (ms' := []) (List.nil_sublist _)) ⟨rfl, rfl⟩
  · rintro es ms F2 H2 σ2 ⟨rfl, rfl⟩ S2
    dsimp only
    refine st_ret S2 (ev_bl true) fun v F' H' g kv => q v F' H' g kv
end TT
/-! Join -/
namespace TT
open PySem PySem.Spec PyProof.Rows L2
theorem law_ok {P : Program} {w : World} {K : PySem.W.Frag} {mg : Str → Option Value} {base : Heap} {C f : Addr} {fd : FuncData} (T : Txt K mg) (TP : TxtP K mg C) (Fd : C8.Def K mg "law" st_law f fd) : FnOk P w K mg base C8.CX0 9 f fd ["_law_script"] (sp_law K) := by
  have c__law_closed_letters := c__law_closed_letters (P := P) (w := w) (base := base) T
  have c_steps_away := c_steps_away (P := P) (w := w) (base := base) T
  have c_forces := c_forces (P := P) (w := w) (base := base) T
  have c_forced_lists := c_forced_lists (P := P) (w := w) (base := base) T c_forces
  have c_sections := c_sections (P := P) (w := w) (base := base) T
  have c_lock_contests := c_lock_contests (P := P) (w := w) (base := base) T c_sections
  have c_accesses := c_accesses (P := P) (w := w) (base := base) T
  have c_data_contests := c_data_contests (P := P) (w := w) (base := base) T c_accesses
  have c_contests := c_contests (P := P) (w := w) (base := base) T c_lock_contests c_data_contests
  have c_is_integer := c_is_integer (P := P) (w := w) (base := base) T
  have c_check_number := c_check_number (P := P) (w := w) (base := base) T c_contests c_is_integer
  have c_forced_by := c_forced_by (P := P) (w := w) (base := base) T c_steps_away c_forced_lists c_contests c_check_number
  have c__law_forces := c__law_forces (P := P) (w := w) (base := base) T
  have c__law_led := c__law_led (P := P) (w := w) (base := base) T c__law_forces
  have c_places_of := c_places_of (P := P) (w := w) (base := base) T
  have c_winners_of := c_winners_of (P := P) (w := w) (base := base) T c_places_of
  have c_is_open_at := c_is_open_at (P := P) (w := w) (base := base) T TP
  have c_holdings := c_holdings (P := P) (w := w) (base := base) T
  have c_init := c_init (P := P) (w := w) (base := base) T TP c_holdings
  have c_is_run := c_is_run (P := P) (w := w) (base := base) T c_is_open_at c_init
  have c_check_run := c_check_run (P := P) (w := w) (base := base) T c_is_run
  have c_winners := c_winners (P := P) (w := w) (base := base) T c_winners_of c_contests c_check_run
  have c_alike := c_alike (P := P) (w := w) (base := base) T c_winners
  have c__law_draw := c__law_draw (P := P) (w := w) (base := base) T
  have c__law_choice := c__law_choice (P := P) (w := w) (base := base) T c__law_draw
  have c__law_parts := c__law_parts (P := P) (w := w) (base := base) T
  have c__law_contests := c__law_contests (P := P) (w := w) (base := base) T c__law_parts
  have c__law_winners := c__law_winners (P := P) (w := w) (base := base) T c__law_contests
  have c__law_turned := c__law_turned (P := P) (w := w) (base := base) T
  have c__law_concerned := c__law_concerned (P := P) (w := w) (base := base) T c__law_contests
  have c__law_classes := c__law_classes (P := P) (w := w) (base := base) T c__law_turned c__law_concerned
  have c__law_kept := c__law_kept (P := P) (w := w) (base := base) T
  have c__law_is_open := c__law_is_open (P := P) (w := w) (base := base) T c__law_kept
  have c__law_every_run := c__law_every_run (P := P) (w := w) (base := base) T c__law_is_open
  have c__law_right := c__law_right (P := P) (w := w) (base := base) T c__law_closed_letters c_forced_by c__law_led c_alike c_winners c__law_choice c_is_run c__law_winners c__law_classes c__law_contests c__law_every_run
  have c__law_blocks := c__law_blocks (P := P) (w := w) (base := base) T c__law_draw
  have c__law_names := c__law_names (P := P) (w := w) (base := base) T c__law_draw c__law_choice
  have c__law_crossed := c__law_crossed (P := P) (w := w) (base := base) T c__law_draw c__law_choice
  have c__law_thread := c__law_thread (P := P) (w := w) (base := base) T c__law_draw c__law_choice
  have c__law_pair := c__law_pair (P := P) (w := w) (base := base) T c__law_contests c__law_thread c__law_names c__law_draw
  have c__law_start := c__law_start (P := P) (w := w) (base := base) T
  exact f_law T c__law_right c__law_choice c__law_blocks c__law_names c__law_draw c__law_crossed c__law_pair c__law_start Fd
theorem def_mk {K : PySem.W.Frag} {h : Heap} {mg : Str → Option Value} (X : K.In h) (G : h.Ns mainGlobals mg) {x : Str} {st : Stmt} {f : Addr} {oc : Value} {od an : Option Addr} {osl : Array (Option Value)} {kV doc pm cdv ct : Value}
    (a : PySem.W.nsIn K mainGlobals x = some (some (.ref f))) (l : K.lookup f = some ⟨oc, od, .func (PySem.W.fnOf x x (C8.fnArgs st) (C8.fnBody st) (C8.fnScope st) .none kV doc pm an cdv ct), osl⟩)
    (c : PySem.W.codeIn K cdv x = true) (k : PySem.W.keepIn K (.ref f) = true) : ∃ f fd, C8.Def K mg x st f fd ∧ fd.defaults = .none :=
  ⟨f, _, ⟨⟨oc, od, _, kV, doc, pm, an, cdv, ct, osl, rfl, l, c⟩, PySem.W.mg_of X G a, k⟩, rfl⟩
theorem fun_mk2 {K : PySem.W.Frag} {x qual : Str} {st : Stmt} {f : Addr} {oc : Value} {od an : Option Addr} {osl : Array (Option Value)} {kV doc pm cdv ct : Value}
    (l : K.lookup f = some ⟨oc, od, .func (PySem.W.fnOf x qual (C8.fnArgs st) (C8.fnBody st) (C8.fnScope st) .none kV doc pm an cdv ct), osl⟩)
    (c : PySem.W.codeIn K cdv qual = true) : ∃ fd, C8.Fun K x qual st f fd ∧ fd.defaults = .none :=
  ⟨_, ⟨oc, od, _, kV, doc, pm, an, cdv, ct, osl, rfl, l, c⟩, rfl⟩
theorem glob_mk {K : PySem.W.Frag} {h : Heap} {mg : Str → Option Value} (X : K.In h) (G : h.Ns mainGlobals mg) {x s : Str} {t : Tok} (a : PySem.W.nsIn K mainGlobals x = some (some (.str s t))) : ∃ u, mg x = some u ∧ RelV (.str s) u := ⟨_, PySem.W.mg_of X G a, t, rfl⟩
theorem txtP_mk {K : PySem.W.Frag} {h : Heap} {mg : Str → Option Value} (X : K.In h) (G : h.Ns mainGlobals mg) {C f1 f2 : Addr} {oc1 : Value} {od1 an1 : Option Addr} {osl1 : Array (Option Value)} {kV1 doc1 pm1 cdv1 ct1 : Value} {oc2 : Value} {od2 an2 : Option Addr} {osl2 : Array (Option Value)} {kV2 doc2 pm2 cdv2 ct2 : Value}
    (aC : PySem.W.nsIn K mainGlobals "Plane" = some (some (.ref C)))
    (a1 : PySem.W.findIn K (.ref C) "__init__" = some (some (.ref f1))) (i1 : PySem.W.isFn K (.ref f1) = true) (l1 : K.lookup f1 = some ⟨oc1, od1, .func (PySem.W.fnOf "__init__" "Plane.__init__" (C8.fnArgs st_init) (C8.fnBody st_init) (C8.fnScope st_init) .none kV1 doc1 pm1 an1 cdv1 ct1), osl1⟩) (c1 : PySem.W.codeIn K cdv1 "Plane.__init__" = true)
    (a2 : PySem.W.findIn K (.ref C) "is_open_at" = some (some (.ref f2))) (i2 : PySem.W.isFn K (.ref f2) = true) (l2 : K.lookup f2 = some ⟨oc2, od2, .func (PySem.W.fnOf "is_open_at" "Plane.is_open_at" (C8.fnArgs st_is_open_at) (C8.fnBody st_is_open_at) (C8.fnScope st_is_open_at) .none kV2 doc2 pm2 an2 cdv2 ct2), osl2⟩) (c2 : PySem.W.codeIn K cdv2 "Plane.is_open_at" = true) (k2 : PySem.W.keepIn K (.ref f2) = true)
    (pg : PySem.W.plainGet K C Str.empty = true) (hd : PySem.W.hasDictIn K C = true) (po : PySem.W.plainOver K C = true) (sa : PySem.W.findIn K (.ref C) "__setattr__" = some (some (.builtin "object.__setattr__"))) (mk : PySem.W.makesIn K C = true) (kc : PySem.W.keepIn K (.ref C) = true)
    (nS : PySem.W.findIn K (.ref C) "sizes" = some none) (nE : PySem.W.findIn K (.ref C) "end" = some none) (nH : PySem.W.findIn K (.ref C) "held_by" = some none) : TxtP K mg C := by
  obtain ⟨fd1, F1, e1⟩ := fun_mk2 (x := "__init__") (qual := "Plane.__init__") (st := st_init) l1 c1
  obtain ⟨fd2, F2, e2⟩ := fun_mk2 (x := "is_open_at") (qual := "Plane.is_open_at") (st := st_is_open_at) l2 c2
  exact ⟨⟨pg, hd, po, sa⟩, PySem.W.mg_of X G aC, nS, nE, nH, ⟨f1, fd1, ⟨mk, a1, i1, kc⟩, F1, e1⟩, ⟨f2, fd2, ⟨a2, i2, k2⟩, F2, e2⟩⟩
theorem all_mk {l : PySem.W.OpenLaw} {w : World} {K : PySem.W.Frag} {mg : Str → Option Value} {fa C : Addr} (hfa : mg "law" = some (.ref fa)) (TP : TxtP K mg C) (T : Txt K mg) :
    ∃ fd : FuncData, (∀ (s : Shared) (v : Value), BindsTo s fd ⟨[v], []⟩ [("_law_script", v)]) ∧ ∀ base : Heap, K.In base → base.Ns mainGlobals mg → FnOk l.prog w K mg base C8.CX0 9 fa fd ["_law_script"] (sp_law K) := by
  obtain ⟨f, fd, Fd, df⟩ := T.d_law
  have e := hfa.symm.trans Fd.mgf
  cases e
  refine ⟨fd, ?_, fun base _ _ => law_ok T TP Fd⟩
  obtain ⟨oc, od, dV, kV, doc, pm, an, cdv, ct, osl, rfl, lk, hcd⟩ := Fd.fn.ex
  have e : dV = .none := df
  subst e
  exact fun s v => .of_eq rfl
theorem walk {l : PySem.W.OpenLaw} {q : Program} {loose : List Str} {XP : (Str → Option Value) → Heap → Prop} {YP : World → Heap → Prop} {d : DefRec} {K : Params → PySem.W.Frag} (hn : l.most = some 63) (hdf : d.params.defaults = [])
    (hY : ∀ (w : World) (h : Heap), YP w h → (K w.params).In h)
    (F : ∀ (w : World) (mg : Str → Option Value) (fa : Addr) (h : Heap), (K w.params).In h → h.Ns mainGlobals mg → mg d.name = some (.ref fa) →
      ∃ fd : FuncData, (∀ (s : Shared) (u : Value), BindsTo s fd ⟨[u], []⟩ [("_law_script", u)]) ∧ ∀ base : Heap, (K w.params).In base → base.Ns mainGlobals mg → FnOk l.prog w (K w.params) mg base C8.CX0 9 fa fd ["_law_script"] (sp_law (K w.params))) :
    PySem.W.WalkO q loose XP YP l.row.toRowW d [] (fun f vs => PySem.call f vs) :=
  L2.walk_of (n := 63) (k := 9) (x := "_law_script") (CX := fun _ => C8.CX0) (sp := fun w => sp_law (K w.params)) hn (by decide) hdf ⟨rfl, by decide, by decide⟩ hY F (fun w H a ns hl _ hS => ⟨H, _, _, Ex.refl H, .cons (.lst hS (dpa_map (f := V.int) (g := PyData.int) (fun z => .int z) ns)) .nil, ⟨ns, hl, rfl, rfl⟩, fun v F' H' g kv => dp_bl kv⟩) fun _ _ _ _ _ z => z
end TT
/-! End -/
open PySem PySem.W PyProof.Rows
set_option maxRecDepth 100000 in
set_option maxHeartbeats 0 in
theorem PySem.Challenge.cw_twothreads_k23_whole_alike_runs_by_all_e_holds : PySem.Challenge.rw_twothreads_k23_whole_alike_runs_by_all_e.Holds := by
  w_on; o_law; k_head; (case hw => w_witness2)
  k_fill
  refine TT.walk (l := PySem.Challenge.rw_twothreads_k23_whole_alike_runs_by_all_e) rfl rfl (fun w h Y => PySem.W.kIn_of Y) ?F
  case F =>
    intro w mg fa h KX G hmg
    refine' TT.all_mk hmg ?TP ?T
    case TP =>
      refine' TT.txtP_mk KX G ?aC ?a1 ?i1 ?l1 ?c1 ?a2 ?i2 ?l2 ?c2 ?k2 ?pg ?hd ?po ?sa ?mk ?kc ?nS ?nE ?nH
      (case aC => k_is); (case a1 => k_is); (case i1 => k_is); (case l1 => k_is); (case c1 => k_is); (case a2 => k_is); (case i2 => k_is); (case l2 => k_is); (case c2 => k_is); (case k2 => k_is)
      (case pg => k_is); (case hd => k_is); (case po => k_is); (case sa => k_is); (case mk => k_is); (case kc => k_is); (case nS => k_is); (case nE => k_is); (case nH => k_is)
    case T =>
      refine' TT.Txt.mk ?g_FREE ?g_LETTERS ?g_LOCK ?g_READ ?g_SHARE ?g_WRITE ?b_abs ?b_all ?b_any ?b_bool ?b_dict ?b_enumerate ?b_int ?b_isinstance ?b_len ?b_list ?b_max ?b_min ?b_range ?b_set ?b_sorted ?b_str ?b_sum ?b_tuple ?d_is_integer ?d_sections ?d_accesses ?d_lock_contests ?d_data_contests ?d_contests ?d_forces ?d_check_number ?d_forced_lists ?d_steps_away ?d_forced_by ?d_holdings ?d_is_run ?d_check_run ?d_places_of ?d_winners_of ?d_winners ?d_alike ?d__law_start ?d__law_draw ?d__law_choice ?d__law_names ?d__law_thread ?d__law_parts ?d__law_contests ?d__law_pair ?d__law_crossed ?d__law_kept ?d__law_is_open ?d__law_winners ?d__law_every_run ?d__law_blocks ?d__law_forces ?d__law_led ?d__law_concerned ?d__law_turned ?d__law_classes ?d__law_closed_letters ?d__law_right ?d_law
      (case g_FREE => (refine' TT.glob_mk KX G ?ga_FREE; (case ga_FREE => k_is)))
      (case g_LETTERS => (refine' TT.glob_mk KX G ?ga_LETTERS; (case ga_LETTERS => k_is)))
      (case g_LOCK => (refine' TT.glob_mk KX G ?ga_LOCK; (case ga_LOCK => k_is)))
      (case g_READ => (refine' TT.glob_mk KX G ?ga_READ; (case ga_READ => k_is)))
      (case g_SHARE => (refine' TT.glob_mk KX G ?ga_SHARE; (case ga_SHARE => k_is)))
      (case g_WRITE => (refine' TT.glob_mk KX G ?ga_WRITE; (case ga_WRITE => k_is)))
      (case b_abs => (refine' PySem.W.mg_none_of KX G ?ba_abs; (case ba_abs => k_is)))
      (case b_all => (refine' PySem.W.mg_none_of KX G ?ba_all; (case ba_all => k_is)))
      (case b_any => (refine' PySem.W.mg_none_of KX G ?ba_any; (case ba_any => k_is)))
      (case b_bool => (refine' PySem.W.mg_none_of KX G ?ba_bool; (case ba_bool => k_is)))
      (case b_dict => (refine' PySem.W.mg_none_of KX G ?ba_dict; (case ba_dict => k_is)))
      (case b_enumerate => (refine' PySem.W.mg_none_of KX G ?ba_enumerate; (case ba_enumerate => k_is)))
      (case b_int => (refine' PySem.W.mg_none_of KX G ?ba_int; (case ba_int => k_is)))
      (case b_isinstance => (refine' PySem.W.mg_none_of KX G ?ba_isinstance; (case ba_isinstance => k_is)))
      (case b_len => (refine' PySem.W.mg_none_of KX G ?ba_len; (case ba_len => k_is)))
      (case b_list => (refine' PySem.W.mg_none_of KX G ?ba_list; (case ba_list => k_is)))
      (case b_max => (refine' PySem.W.mg_none_of KX G ?ba_max; (case ba_max => k_is)))
      (case b_min => (refine' PySem.W.mg_none_of KX G ?ba_min; (case ba_min => k_is)))
      (case b_range => (refine' PySem.W.mg_none_of KX G ?ba_range; (case ba_range => k_is)))
      (case b_set => (refine' PySem.W.mg_none_of KX G ?ba_set; (case ba_set => k_is)))
      (case b_sorted => (refine' PySem.W.mg_none_of KX G ?ba_sorted; (case ba_sorted => k_is)))
      (case b_str => (refine' PySem.W.mg_none_of KX G ?ba_str; (case ba_str => k_is)))
      (case b_sum => (refine' PySem.W.mg_none_of KX G ?ba_sum; (case ba_sum => k_is)))
      (case b_tuple => (refine' PySem.W.mg_none_of KX G ?ba_tuple; (case ba_tuple => k_is)))
      (case d_is_integer => (refine' TT.def_mk KX G ?da_is_integer ?dl_is_integer ?dc_is_integer ?dk_is_integer; (case da_is_integer => k_is); (case dl_is_integer => k_is); (case dc_is_integer => k_is); (case dk_is_integer => k_is)))
      (case d_sections => (refine' TT.def_mk KX G ?da_sections ?dl_sections ?dc_sections ?dk_sections; (case da_sections => k_is); (case dl_sections => k_is); (case dc_sections => k_is); (case dk_sections => k_is)))
      (case d_accesses => (refine' TT.def_mk KX G ?da_accesses ?dl_accesses ?dc_accesses ?dk_accesses; (case da_accesses => k_is); (case dl_accesses => k_is); (case dc_accesses => k_is); (case dk_accesses => k_is)))
      (case d_lock_contests => (refine' TT.def_mk KX G ?da_lock_contests ?dl_lock_contests ?dc_lock_contests ?dk_lock_contests; (case da_lock_contests => k_is); (case dl_lock_contests => k_is); (case dc_lock_contests => k_is); (case dk_lock_contests => k_is)))
      (case d_data_contests => (refine' TT.def_mk KX G ?da_data_contests ?dl_data_contests ?dc_data_contests ?dk_data_contests; (case da_data_contests => k_is); (case dl_data_contests => k_is); (case dc_data_contests => k_is); (case dk_data_contests => k_is)))
      (case d_contests => (refine' TT.def_mk KX G ?da_contests ?dl_contests ?dc_contests ?dk_contests; (case da_contests => k_is); (case dl_contests => k_is); (case dc_contests => k_is); (case dk_contests => k_is)))
      (case d_forces => (refine' TT.def_mk KX G ?da_forces ?dl_forces ?dc_forces ?dk_forces; (case da_forces => k_is); (case dl_forces => k_is); (case dc_forces => k_is); (case dk_forces => k_is)))
      (case d_check_number => (refine' TT.def_mk KX G ?da_check_number ?dl_check_number ?dc_check_number ?dk_check_number; (case da_check_number => k_is); (case dl_check_number => k_is); (case dc_check_number => k_is); (case dk_check_number => k_is)))
      (case d_forced_lists => (refine' TT.def_mk KX G ?da_forced_lists ?dl_forced_lists ?dc_forced_lists ?dk_forced_lists; (case da_forced_lists => k_is); (case dl_forced_lists => k_is); (case dc_forced_lists => k_is); (case dk_forced_lists => k_is)))
      (case d_steps_away => (refine' TT.def_mk KX G ?da_steps_away ?dl_steps_away ?dc_steps_away ?dk_steps_away; (case da_steps_away => k_is); (case dl_steps_away => k_is); (case dc_steps_away => k_is); (case dk_steps_away => k_is)))
      (case d_forced_by => (refine' TT.def_mk KX G ?da_forced_by ?dl_forced_by ?dc_forced_by ?dk_forced_by; (case da_forced_by => k_is); (case dl_forced_by => k_is); (case dc_forced_by => k_is); (case dk_forced_by => k_is)))
      (case d_holdings => (refine' TT.def_mk KX G ?da_holdings ?dl_holdings ?dc_holdings ?dk_holdings; (case da_holdings => k_is); (case dl_holdings => k_is); (case dc_holdings => k_is); (case dk_holdings => k_is)))
      (case d_is_run => (refine' TT.def_mk KX G ?da_is_run ?dl_is_run ?dc_is_run ?dk_is_run; (case da_is_run => k_is); (case dl_is_run => k_is); (case dc_is_run => k_is); (case dk_is_run => k_is)))
      (case d_check_run => (refine' TT.def_mk KX G ?da_check_run ?dl_check_run ?dc_check_run ?dk_check_run; (case da_check_run => k_is); (case dl_check_run => k_is); (case dc_check_run => k_is); (case dk_check_run => k_is)))
      (case d_places_of => (refine' TT.def_mk KX G ?da_places_of ?dl_places_of ?dc_places_of ?dk_places_of; (case da_places_of => k_is); (case dl_places_of => k_is); (case dc_places_of => k_is); (case dk_places_of => k_is)))
      (case d_winners_of => (refine' TT.def_mk KX G ?da_winners_of ?dl_winners_of ?dc_winners_of ?dk_winners_of; (case da_winners_of => k_is); (case dl_winners_of => k_is); (case dc_winners_of => k_is); (case dk_winners_of => k_is)))
      (case d_winners => (refine' TT.def_mk KX G ?da_winners ?dl_winners ?dc_winners ?dk_winners; (case da_winners => k_is); (case dl_winners => k_is); (case dc_winners => k_is); (case dk_winners => k_is)))
      (case d_alike => (refine' TT.def_mk KX G ?da_alike ?dl_alike ?dc_alike ?dk_alike; (case da_alike => k_is); (case dl_alike => k_is); (case dc_alike => k_is); (case dk_alike => k_is)))
      (case d__law_start => (refine' TT.def_mk KX G ?da__law_start ?dl__law_start ?dc__law_start ?dk__law_start; (case da__law_start => k_is); (case dl__law_start => k_is); (case dc__law_start => k_is); (case dk__law_start => k_is)))
      (case d__law_draw => (refine' TT.def_mk KX G ?da__law_draw ?dl__law_draw ?dc__law_draw ?dk__law_draw; (case da__law_draw => k_is); (case dl__law_draw => k_is); (case dc__law_draw => k_is); (case dk__law_draw => k_is)))
      (case d__law_choice => (refine' TT.def_mk KX G ?da__law_choice ?dl__law_choice ?dc__law_choice ?dk__law_choice; (case da__law_choice => k_is); (case dl__law_choice => k_is); (case dc__law_choice => k_is); (case dk__law_choice => k_is)))
      (case d__law_names => (refine' TT.def_mk KX G ?da__law_names ?dl__law_names ?dc__law_names ?dk__law_names; (case da__law_names => k_is); (case dl__law_names => k_is); (case dc__law_names => k_is); (case dk__law_names => k_is)))
      (case d__law_thread => (refine' TT.def_mk KX G ?da__law_thread ?dl__law_thread ?dc__law_thread ?dk__law_thread; (case da__law_thread => k_is); (case dl__law_thread => k_is); (case dc__law_thread => k_is); (case dk__law_thread => k_is)))
      (case d__law_parts => (refine' TT.def_mk KX G ?da__law_parts ?dl__law_parts ?dc__law_parts ?dk__law_parts; (case da__law_parts => k_is); (case dl__law_parts => k_is); (case dc__law_parts => k_is); (case dk__law_parts => k_is)))
      (case d__law_contests => (refine' TT.def_mk KX G ?da__law_contests ?dl__law_contests ?dc__law_contests ?dk__law_contests; (case da__law_contests => k_is); (case dl__law_contests => k_is); (case dc__law_contests => k_is); (case dk__law_contests => k_is)))
      (case d__law_pair => (refine' TT.def_mk KX G ?da__law_pair ?dl__law_pair ?dc__law_pair ?dk__law_pair; (case da__law_pair => k_is); (case dl__law_pair => k_is); (case dc__law_pair => k_is); (case dk__law_pair => k_is)))
      (case d__law_crossed => (refine' TT.def_mk KX G ?da__law_crossed ?dl__law_crossed ?dc__law_crossed ?dk__law_crossed; (case da__law_crossed => k_is); (case dl__law_crossed => k_is); (case dc__law_crossed => k_is); (case dk__law_crossed => k_is)))
      (case d__law_kept => (refine' TT.def_mk KX G ?da__law_kept ?dl__law_kept ?dc__law_kept ?dk__law_kept; (case da__law_kept => k_is); (case dl__law_kept => k_is); (case dc__law_kept => k_is); (case dk__law_kept => k_is)))
      (case d__law_is_open => (refine' TT.def_mk KX G ?da__law_is_open ?dl__law_is_open ?dc__law_is_open ?dk__law_is_open; (case da__law_is_open => k_is); (case dl__law_is_open => k_is); (case dc__law_is_open => k_is); (case dk__law_is_open => k_is)))
      (case d__law_winners => (refine' TT.def_mk KX G ?da__law_winners ?dl__law_winners ?dc__law_winners ?dk__law_winners; (case da__law_winners => k_is); (case dl__law_winners => k_is); (case dc__law_winners => k_is); (case dk__law_winners => k_is)))
      (case d__law_every_run => (refine' TT.def_mk KX G ?da__law_every_run ?dl__law_every_run ?dc__law_every_run ?dk__law_every_run; (case da__law_every_run => k_is); (case dl__law_every_run => k_is); (case dc__law_every_run => k_is); (case dk__law_every_run => k_is)))
      (case d__law_blocks => (refine' TT.def_mk KX G ?da__law_blocks ?dl__law_blocks ?dc__law_blocks ?dk__law_blocks; (case da__law_blocks => k_is); (case dl__law_blocks => k_is); (case dc__law_blocks => k_is); (case dk__law_blocks => k_is)))
      (case d__law_forces => (refine' TT.def_mk KX G ?da__law_forces ?dl__law_forces ?dc__law_forces ?dk__law_forces; (case da__law_forces => k_is); (case dl__law_forces => k_is); (case dc__law_forces => k_is); (case dk__law_forces => k_is)))
      (case d__law_led => (refine' TT.def_mk KX G ?da__law_led ?dl__law_led ?dc__law_led ?dk__law_led; (case da__law_led => k_is); (case dl__law_led => k_is); (case dc__law_led => k_is); (case dk__law_led => k_is)))
      (case d__law_concerned => (refine' TT.def_mk KX G ?da__law_concerned ?dl__law_concerned ?dc__law_concerned ?dk__law_concerned; (case da__law_concerned => k_is); (case dl__law_concerned => k_is); (case dc__law_concerned => k_is); (case dk__law_concerned => k_is)))
      (case d__law_turned => (refine' TT.def_mk KX G ?da__law_turned ?dl__law_turned ?dc__law_turned ?dk__law_turned; (case da__law_turned => k_is); (case dl__law_turned => k_is); (case dc__law_turned => k_is); (case dk__law_turned => k_is)))
      (case d__law_classes => (refine' TT.def_mk KX G ?da__law_classes ?dl__law_classes ?dc__law_classes ?dk__law_classes; (case da__law_classes => k_is); (case dl__law_classes => k_is); (case dc__law_classes => k_is); (case dk__law_classes => k_is)))
      (case d__law_closed_letters => (refine' TT.def_mk KX G ?da__law_closed_letters ?dl__law_closed_letters ?dc__law_closed_letters ?dk__law_closed_letters; (case da__law_closed_letters => k_is); (case dl__law_closed_letters => k_is); (case dc__law_closed_letters => k_is); (case dk__law_closed_letters => k_is)))
      (case d__law_right => (refine' TT.def_mk KX G ?da__law_right ?dl__law_right ?dc__law_right ?dk__law_right; (case da__law_right => k_is); (case dl__law_right => k_is); (case dc__law_right => k_is); (case dk__law_right => k_is)))
      (case d_law => (refine' TT.def_mk KX G ?da_law ?dl_law ?dc_law ?dk_law; (case da_law => k_is); (case dl_law => k_is); (case dc_law => k_is); (case dk_law => k_is)))
