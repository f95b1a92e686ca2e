import PyProof.Rows.All
import Wide.All
import OpenK.AllK
import Wide.FinOn
import KE.KDictWalk
import KE.KDictCopyH
import KE.KDictDisplayH
import HandS.ForMost
import HandS.Walk
import HandS.Style
import HandS.ForExc
import KE.KDictKeyed
import HandS.Set
import HandS.Strs
import HandS.TupSets
import KE.SortData
import HandS.Text
import HandS.ExcSuper
import KE.KSuper
import KE.KExcSuper
import KE.GoesEnum
import HandS.Deep
import HandS.TupAny
import HandS.IsInst
import HandS.RaiseMore
import KE.KTupSum
import KE.DataMinMax
import KE.KIsAll
import HandS.TryMany
import HandS.Lambda
import HandS.ExcIs
import HandS.EndBits
import HandS.EndTab
import KE.KNest
import PySem.Challenge.RW_staysdeep_k63_whole_weaves_of_two_timeta
set_option Elab.async false
set_option linter.all false
section PartDL1
set_option maxRecDepth 100000
set_option maxHeartbeats 2000000
/-! DL1: a logic over data (no heap in sight) above the hand layer: persistent data, own lists and dicts, states. -/
namespace DL
open PySem PySem.Spec PyProof.Rows L2
abbrev D := PyData
mutual
/-- a value stands for data, whose lists and tuples stand in the heap's part F -/
inductive Dq (F : Hp) : V → D → Prop
  | non : Dq F .non .none
  | bl (b : Bool) : Dq F (.bl b) (.bool b)
  | int (i : Int) : Dq F (.int i) (.int i)
  | str (x : Str) : Dq F (.str x) (.str x)
  | lst {a : Addr} {xs : List V} {ds : List D} : F a = some (.lst xs) → DqAll F xs ds → Dq F (.ref a) (.list ds)
  | tup {a : Addr} {xs : List V} {ds : List D} : F a = some (.tup xs) → DqAll F xs ds → Dq F (.ref a) (.tuple ds)
inductive DqAll (F : Hp) : List V → List D → Prop
  | nil : DqAll F [] []
  | cons {v : V} {vs : List V} {d : D} {ds : List D} : Dq F v d → DqAll F vs ds → DqAll F (v :: vs) (d :: ds)
end
mutual
theorem Dq.dp {K : PySem.W.Frag} {F : Hp} : ∀ {v : V} {d : D}, Dq F v d → L2.Dp K F v d
  | _, _, .non => .non
  | _, _, .bl b => .bl b
  | _, _, .int i => .int i
  | _, _, .str x => .str x
  | _, _, .lst h a => .lst (SqL.of h) (DqAll.dp a)
  | _, _, .tup h a => .tup (SqT.of h) (DqAll.dp a)
theorem DqAll.dp {K : PySem.W.Frag} {F : Hp} : ∀ {vs : List V} {ds : List D}, DqAll F vs ds → L2.DpAll K F vs ds
  | _, _, .nil => .nil
  | _, _, .cons a b => .cons (Dq.dp a) (DqAll.dp b)
end
theorem DqAll.app {H : Hp} : ∀ {vs ws : List V} {ds es : List D}, DqAll H vs ds → DqAll H ws es → DqAll H (vs ++ ws) (ds ++ es)
  | _, _, _, _, .nil, h => h
  | _, _, _, _, .cons a b, h => .cons a (DqAll.app b h)
theorem DqAll.len {H : Hp} : ∀ {vs : List V} {ds : List D}, DqAll H vs ds → vs.length = ds.length
  | _, _, .nil => rfl
  | _, _, .cons _ b => by rw [List.length_cons, List.length_cons, DqAll.len b]
theorem DqAll.get {H : Hp} : ∀ {vs : List V} {ds : List D} {i : Nat} {d : D}, DqAll H vs ds → ds[i]? = some d → ∃ v, vs[i]? = some v ∧ Dq H v d
  | _, _, _, _, .nil, e => by simp at e
  | _, _, 0, _, .cons a _, e => by
    simp at e
    subst e
    exact ⟨_, rfl, a⟩
  | _, _, i + 1, d, .cons _ b, e => by
    obtain ⟨v, h1, h2⟩ := DqAll.get (i := i) (d := d) b (by simpa using e)
    exact ⟨v, by simpa using h1, h2⟩
theorem DqAll.getV {H : Hp} : ∀ {vs : List V} {ds : List D} {i : Nat} {v : V}, DqAll H vs ds → vs[i]? = some v → ∃ d, ds[i]? = some d ∧ Dq H v d
  | _, _, _, _, .nil, e => by simp at e
  | _, _, 0, _, .cons a _, e => by
    simp at e
    subst e
    exact ⟨_, rfl, a⟩
  | _, _, i + 1, d, .cons _ b, e => by
    obtain ⟨v, h1, h2⟩ := DqAll.getV (i := i) (v := d) b (by simpa using e)
    exact ⟨v, by simpa using h1, h2⟩
theorem DqAll.drop {H : Hp} : ∀ {vs : List V} {ds : List D} (n : Nat), DqAll H vs ds → DqAll H (vs.drop n) (ds.drop n)
  | _, _, 0, h => h
  | _, _, _ + 1, .nil => .nil
  | _, _, n + 1, .cons _ b => DqAll.drop n b
theorem DqAll.take {H : Hp} : ∀ {vs : List V} {ds : List D} (n : Nat), DqAll H vs ds → DqAll H (vs.take n) (ds.take n)
  | _, _, 0, _ => .nil
  | _, _, _ + 1, .nil => .nil
  | _, _, n + 1, .cons a b => .cons a (DqAll.take n b)
theorem DqAll.erase {H : Hp} : ∀ {vs : List V} {ds : List D} (n : Nat), DqAll H vs ds → DqAll H (vs.eraseIdx n) (ds.eraseIdx n)
  | _, _, _, .nil => .nil
  | _, _, 0, .cons _ b => b
  | _, _, n + 1, .cons a b => .cons a (DqAll.erase n b)
theorem DqAll.ints {H : Hp} : ∀ {ns : List Int}, DqAll H (ns.map V.int) (ns.map PyData.int)
  | [] => .nil
  | _ :: _ => .cons (.int _) DqAll.ints
theorem DqAll.toInts {H : Hp} : ∀ {vs : List V} {ns : List Int}, DqAll H vs (ns.map PyData.int) → vs = ns.map V.int
  | _, [], .nil => rfl
  | _, n :: ns, .cons a b => by
    cases a
    rw [DqAll.toInts b]
    rfl
theorem DqAll.toStrs {H : Hp} : ∀ {vs : List V} {ns : List Str}, DqAll H vs (ns.map PyData.str) → vs = ns.map V.str
  | _, [], .nil => rfl
  | _, n :: ns, .cons a b => by
    cases a
    rw [DqAll.toStrs b]
    rfl
theorem DqAll.strs {H : Hp} : ∀ {ns : List Str}, DqAll H (ns.map V.str) (ns.map PyData.str)
  | [] => .nil
  | _ :: _ => .cons (.str _) DqAll.strs
theorem DqAll.toBls {H : Hp} : ∀ {vs : List V} {ns : List Bool}, DqAll H vs (ns.map PyData.bool) → vs = ns.map V.bl
  | _, [], .nil => rfl
  | _, n :: ns, .cons a b => by
    cases a
    rw [DqAll.toBls b]
    rfl
theorem DqAll.rev {H : Hp} : ∀ {vs : List V} {ds : List D}, DqAll H vs ds → DqAll H vs.reverse ds.reverse
  | _, _, .nil => .nil
  | _, _, .cons a b => by
    rw [List.reverse_cons, List.reverse_cons]
    exact DqAll.app (DqAll.rev b) (.cons a .nil)


/-- what never changes: data, a yard, a value as it is -/
inductive P where
  | d (x : D)
  | yd (hs : List Int)
  | raw (v : V)
  | scr (ns : List Int)
/-- a thing of one's own that a reading of its own tells of: F the fixed part, H the heap, its value, its addresses -/
structure CRel where
  ok : Hp → Hp → V → List Addr → Prop
  st : ∀ {F F' H H' : Hp} {v : V} {as : List Addr}, Same F F' → (∀ a ∈ as, H' a = H a) → ok F H v as → ok F' H' v as
/-- what a slot holds -/
inductive Cell where
  | p (x : P)
  | own (ds : List D)
  | dk (kvs : List (Key × D))
  | dt (kvs : List (List Key × D))
  | rnd (h c : Addr)
  | cust (R : CRel)
abbrev Ev := List (Option Cell)

section
variable {K : PySem.W.Frag}
/-! ### data stay -/
theorem rd_same {H H' : Hp} {a : Addr} {u : HO} (e : Same H H') (h : Rd H a u) : Rd H' a u := by
  rcases h with h | ⟨o, h⟩
  · exact Or.inl (e a _ h)
  · exact Or.inr ⟨o, e a _ h⟩
theorem sqT_same {H H' : Hp} {a : Addr} {xs : List V} (e : Same H H') (h : SqT K H a xs) : SqT K H' a xs := by
  rcases h with h | h
  · exact Or.inl (rd_same e h)
  · exact Or.inr h
mutual
theorem dp_same {H H' : Hp} (e : Same H H') : ∀ {v : V} {d : D}, Dq H v d → Dq H' v d
  | _, _, .non => .non
  | _, _, .bl b => .bl b
  | _, _, .int i => .int i
  | _, _, .str x => .str x
  | _, _, .lst h a => .lst (e _ _ h) (dpAll_same e a)
  | _, _, .tup h a => .tup (e _ _ h) (dpAll_same e a)
theorem dpAll_same {H H' : Hp} (e : Same H H') : ∀ {vs : List V} {ds : List D}, DqAll H vs ds → DqAll H' vs ds
  | _, _, .nil => .nil
  | _, _, .cons a b => .cons (dp_same e a) (dpAll_same e b)
end
def Rep (K : PySem.W.Frag) (F : Hp) (v : V) : P → Prop
  | .d x => Dq F v x
  | .yd hs => ∃ a C dx t, v = .ref a ∧ F a = some (.ins C dx [("heights", .ref t)]) ∧ Cls K C ∧ NoAttr K C "heights" ∧ F t = some (.tup (hs.map V.int))
  | .raw u => v = u
  | .scr ns => ∃ a, v = .ref a ∧ SqL K F a (ns.map V.int)
theorem rep_same {F F' : Hp} (e : Same F F') {v : V} : ∀ {p : P}, Rep K F v p → Rep K F' v p
  | .d _, h => dp_same e h
  | .yd _, h => by
    obtain ⟨a, C, dx, t, h1, h2, h3, h4, h5⟩ := h
    exact ⟨a, C, dx, t, h1, e _ _ h2, h3, h4, e _ _ h5⟩
  | .raw _, h => h
  | .scr _, h => by
    obtain ⟨a, h1, h2⟩ := h
    exact ⟨a, h1, e.seq h2⟩
theorem rpI {F : Hp} {i : Int} : Rep K F (.int i) (.d (.int i)) := Dq.int i
theorem rpS {F : Hp} {i : Str} : Rep K F (.str i) (.d (.str i)) := Dq.str i
theorem rpB {F : Hp} {i : Bool} : Rep K F (.bl i) (.d (.bool i)) := Dq.bl i
theorem rpN {F : Hp} : Rep K F .non (.d .none) := Dq.non
theorem rpT {F : Hp} {a : Addr} {xs : List V} {ds : List D} (h : F a = some (.tup xs)) (r : DqAll F xs ds) : Rep K F (.ref a) (.d (.tuple ds)) := Dq.tup h r
theorem rpL {F : Hp} {a : Addr} {xs : List V} {ds : List D} (h : F a = some (.lst xs)) (r : DqAll F xs ds) : Rep K F (.ref a) (.d (.list ds)) := Dq.lst h r
theorem rpR {F : Hp} {v : V} : Rep K F v (.raw v) := rfl
abbrev Reps (K : PySem.W.Frag) (F : Hp) : List V → List P → Prop := Paired (Rep K F)
theorem reps_same {F F' : Hp} (e : Same F F') : ∀ {vs : List V} {ps : List P}, Reps K F vs ps → Reps K F' vs ps
  | _, _, .nil => .nil
  | _, _, .cons a b => .cons (rep_same e a) (reps_same e b)
def KvOk {κ : Type} (K : PySem.W.Frag) (F : Hp) : List (κ × V) → List (κ × D) → Prop := Paired fun (p : κ × V) (q : κ × D) => p.1 = q.1 ∧ Dq F p.2 q.2
theorem kv_same {κ : Type} {F F' : Hp} (e : Same F F') : ∀ {vs : List (κ × V)} {ps : List (κ × D)}, KvOk K F vs ps → KvOk K F' vs ps
  | _, _, .nil => .nil
  | _, _, .cons a b => .cons ⟨a.1, dp_same e a.2⟩ (kv_same e b)
/-- the random heap's content -/
def RndOk (ns : List Int) (st : Int) : Prop := ns.length ≤ 1000 ∧ 0 ≤ st ∧ st < 2147483647
def CellOk (K : PySem.W.Frag) (F H : Hp) (v : V) : Cell → List Addr → Prop
  | .p x, _ => Rep K F v x
  | .own ds, as => ∃ a vs, as = [a] ∧ v = .ref a ∧ H a = some (.lst vs) ∧ DqAll F vs ds
  | .dk kvs, as => ∃ a ws, as = [a] ∧ v = .ref a ∧ H a = some (.dK ws) ∧ KvOk K F ws kvs
  | .dt kvs, as => ∃ a ws, as = [a] ∧ v = .ref a ∧ H a = some (.dT ws) ∧ KvOk K F ws kvs
  | .rnd h c, as => ∃ ns st, as = [h, c] ∧ v = .ref h ∧ H h = some (.lst [.ref c, .int st]) ∧ H c = some (.lst (ns.map V.int)) ∧ h ≠ c ∧ RndOk ns st
  | .cust R, as => R.ok F H v as
theorem cell_same {F F' H H' : Hp} {v : V} {as : List Addr} (e : Same F F') (k : ∀ a ∈ as, H' a = H a) : ∀ {c : Cell}, CellOk K F H v c as → CellOk K F' H' v c as
  | .p _, h => rep_same e h
  | .own _, h => by
    obtain ⟨a, vs, rfl, h2, h3, h4⟩ := h
    exact ⟨a, vs, rfl, h2, (k a (by simp)).trans h3, dpAll_same e h4⟩
  | .dk _, h => by
    obtain ⟨a, vs, rfl, h2, h3, h4⟩ := h
    exact ⟨a, vs, rfl, h2, (k a (by simp)).trans h3, kv_same e h4⟩
  | .dt _, h => by
    obtain ⟨a, vs, rfl, h2, h3, h4⟩ := h
    exact ⟨a, vs, rfl, h2, (k a (by simp)).trans h3, kv_same e h4⟩
  | .rnd a c, h => by
    obtain ⟨ns, st, rfl, h2, h3, h4, h5, h6⟩ := h
    exact ⟨ns, st, rfl, h2, (k a (by simp)).trans h3, (k c (by simp)).trans h4, h5, h6⟩
  | .cust R, h => R.st e k h

/-! ### states -/
/-- what stood ahead: the frozen part, the whole, what may be changed of it -/
structure Anc where
  F : Hp
  H : Hp
  S : Addr → Prop
structure Stt (K : PySem.W.Frag) (Γ : Anc) (ρ : Ev) (fp : Nat → List Addr) (F : Hp) (σ : L2.St) (H : Hp) : Prop where
  ex : Same F H
  exF : Same Γ.F F
  exH : ∀ a o, ¬ Γ.S a → Γ.H a = some o → H a = some o
  thr : ∀ a, Γ.H a ≠ none → H a ≠ none
  fre : ∀ a, Γ.F a = none → Γ.H a ≠ none → ¬ Γ.S a → F a = none
  len : σ.length = ρ.length
  cells : ∀ i c, ρ[i]? = some (some c) → ∃ v, σ[i]? = some (some v) ∧ CellOk K F H v c (fp i)
  own : ∀ i a, a ∈ fp i → F a = none ∧ H a ≠ none ∧ (Γ.S a ∨ Γ.H a = none)
  sep : ∀ i j a, i ≠ j → a ∈ fp i → a ∉ fp j
/-- what a pure evaluation leaves -/
structure Gr (F H F' H' : Hp) : Prop where
  f : Same F F'
  s : Same F' H'
  h : Same H H'
  n : ∀ a, F a = none → H a ≠ none → F' a = none
theorem Gr.refl {F H : Hp} (s : Same F H) : Gr F H F H := ⟨Same.refl _, s, Same.refl _, fun _ h _ => h⟩
theorem some_ne {H H' : Hp} (e : Same H H') {a : Addr} (h : H a ≠ none) : H' a ≠ none := by
  cases q : H a with
  | none => exact absurd q h
  | some o =>
    rw [e a o q]
    simp
theorem Gr.trans {F H F1 H1 F2 H2 : Hp} (a : Gr F H F1 H1) (b : Gr F1 H1 F2 H2) : Gr F H F2 H2 :=
  ⟨a.f.trans b.f, b.s, a.h.trans b.h, fun x h1 h2 => b.n x (a.n x h1 h2) (some_ne a.h h2)⟩
theorem same_new {H : Hp} {p : Addr} {o : HO} (h : H p = none) : Same H (upd H p o) := fun a u e => by
  rw [upd_ne (ne_of_none e h)]
  exact e
theorem none_of {F H : Hp} (s : Same F H) {p : Addr} (h : H p = none) : F p = none := s.free h
/-- a new object, frozen at once -/
theorem Gr.new {F H : Hp} (s : Same F H) {p : Addr} {o : HO} (h : H p = none) : Gr F H (upd F p o) (upd H p o) :=
  ⟨same_new (none_of s h), fun a u e => by
    by_cases q : a = p
    · subst q
      rw [upd_same] at e ⊢
      exact e
    · rw [upd_ne q] at e ⊢
      exact s a u e, same_new h, fun a h1 h2 => by
    rw [upd_ne (fun z => by subst z; exact h2 h)]
    exact h1⟩
/-- a new object, one's own -/
theorem Gr.lay {F H : Hp} (s : Same F H) {p : Addr} {o : HO} (h : H p = none) : Gr F H F (upd H p o) :=
  ⟨Same.refl _, s.trans (same_new h), same_new h, fun a h1 h2 => h1⟩
theorem Stt.grow {Γ : Anc} {ρ : Ev} {fp : Nat → List Addr} {F H F' H' : Hp} {σ : L2.St} (t : Stt K Γ ρ fp F σ H) (g : Gr F H F' H') : Stt K Γ ρ fp F' σ H' where
  ex := g.s
  exF := t.exF.trans g.f
  exH := fun a o h1 h2 => g.h a o (t.exH a o h1 h2)
  thr := fun a h => some_ne g.h (t.thr a h)
  fre := fun a h1 h2 h3 => g.n a (t.fre a h1 h2 h3) (t.thr a h2)
  len := t.len
  cells := fun i c e => by
    obtain ⟨v, h1, h2⟩ := t.cells i c e
    refine ⟨v, h1, cell_same g.f (fun a ha => ?_) h2⟩
    obtain ⟨_, n, _⟩ := t.own i a ha
    cases q : H a with
    | none => exact absurd q n
    | some o => exact g.h a o q
  own := fun i a ha => by
    obtain ⟨h1, h2, h3⟩ := t.own i a ha
    exact ⟨g.n a h1 h2, some_ne g.h h2, h3⟩
  sep := t.sep
/-- the anchor moved here: what may change is what the cells own -/
def Here (fp : Nat → List Addr) (F H : Hp) : Anc := ⟨F, H, fun a => ∃ i, a ∈ fp i⟩
theorem Stt.here {Γ : Anc} {ρ : Ev} {fp : Nat → List Addr} {F H : Hp} {σ : L2.St} (t : Stt K Γ ρ fp F σ H) : Stt K (Here fp F H) ρ fp F σ H where
  ex := t.ex
  exF := Same.refl _
  exH := fun _ _ _ h => h
  thr := fun _ h => h
  fre := fun _ h _ _ => h
  len := t.len
  cells := t.cells
  own := fun i a ha => ⟨(t.own i a ha).1, (t.own i a ha).2.1, .inl ⟨i, ha⟩⟩
  sep := t.sep
theorem Stt.back {Γ : Anc} {ρ ρ' : Ev} {fp fp' : Nat → List Addr} {F H F' H' : Hp} {σ σ' : L2.St} (t : Stt K Γ ρ fp F σ H) (u : Stt K (Here fp F H) ρ' fp' F' σ' H') : Stt K Γ ρ' fp' F' σ' H' where
  ex := u.ex
  exF := t.exF.trans u.exF
  exH := fun a o h1 h2 => u.exH a o (fun ⟨i, hi⟩ => by
    rcases (t.own i a hi).2.2 with z | z
    · exact h1 z
    · rw [z] at h2; cases h2) (t.exH a o h1 h2)
  thr := fun a h => u.thr a (t.thr a h)
  fre := fun a h1 h2 h3 => u.fre a (t.fre a h1 h2 h3) (t.thr a h2) fun ⟨i, hi⟩ => by
    rcases (t.own i a hi).2.2 with z | z
    · exact h3 z
    · exact h2 z
  len := u.len
  cells := u.cells
  own := fun i a ha => by
    obtain ⟨h1, h2, h3⟩ := u.own i a ha
    refine ⟨h1, h2, ?_⟩
    rcases h3 with ⟨j, hj⟩ | h3
    · exact (t.own j a hj).2.2
    · refine .inr ?_
      cases q : Γ.H a with
      | none => rfl
      | some o => exact absurd h3 (t.thr a (by rw [q]; simp))
  sep := u.sep
/-- an address of no cell stays as it is over an evaluation -/
theorem Stt.kept {ρ' : Ev} {fp fp' : Nat → List Addr} {F H F' H' : Hp} {σ' : L2.St} (u : Stt K (Here fp F H) ρ' fp' F' σ' H') {a : Addr} {o : HO} (h : H a = some o) (hf : F a = none) (hn : ∀ i, a ∉ fp i) :
    H' a = some o ∧ F' a = none ∧ ∀ i, a ∉ fp' i := by
  refine ⟨u.exH a o (fun ⟨i, hi⟩ => hn i hi) h, u.fre a hf (by show H a ≠ none; rw [h]; simp) (fun ⟨i, hi⟩ => hn i hi), fun i hi => ?_⟩
  rcases (u.own i a hi).2.2 with ⟨j, hj⟩ | z
  · exact hn j hj
  · have z' : H a = none := z
    rw [h] at z'; cases z'
def fset (fp : Nat → List Addr) (i : Nat) (as : List Addr) : Nat → List Addr := fun j => if j = i then as else fp j
theorem fset_same {fp : Nat → List Addr} {i : Nat} {as : List Addr} : fset fp i as i = as := if_pos rfl
theorem fset_ne {fp : Nat → List Addr} {i j : Nat} {as : List Addr} (h : j ≠ i) : fset fp i as j = fp j := if_neg h
/-- a slot set -/
theorem Stt.set {Γ : Anc} {ρ : Ev} {fp : Nat → List Addr} {F H : Hp} {σ : L2.St} (t : Stt K Γ ρ fp F σ H) {i : Nat} {v : V} {c : Cell} {as : List Addr} (hc : CellOk K F H v c as)
    (ho : ∀ a ∈ as, F a = none ∧ H a ≠ none ∧ (Γ.S a ∨ Γ.H a = none)) (hn : ∀ a ∈ as, ∀ j, a ∉ fp j) : Stt K Γ (ρ.set i (some c)) (fset fp i as) F (σ.set i (some v)) H where
  ex := t.ex
  exF := t.exF
  exH := t.exH
  thr := t.thr
  fre := t.fre
  len := by rw [List.length_set, List.length_set, t.len]
  cells := fun j c' e => by
    by_cases h : i = j
    · subst h
      have hl : i < ρ.length := by
        by_cases q : i < ρ.length
        · exact q
        · rw [List.getElem?_eq_none (by simpa using q)] at e; cases e
      rw [List.getElem?_set_self hl] at e
      cases e
      rw [fset_same]
      exact ⟨v, List.getElem?_set_self (by rw [t.len]; exact hl), hc⟩
    · rw [List.getElem?_set_ne h] at e
      obtain ⟨w, h1, h2⟩ := t.cells j c' e
      rw [fset_ne (Ne.symm h), List.getElem?_set_ne h]
      exact ⟨w, h1, h2⟩
  own := fun j a ha => by
    by_cases h : j = i
    · subst h
      rw [fset_same] at ha
      exact ho a ha
    · rw [fset_ne h] at ha
      exact t.own j a ha
  sep := fun j k a hjk ha hk => by
    by_cases h : j = i
    · subst h
      rw [fset_same] at ha
      rw [fset_ne (Ne.symm hjk)] at hk
      exact hn a ha k hk
    · rw [fset_ne h] at ha
      by_cases h' : k = i
      · subst h'
        rw [fset_same] at hk
        exact hn a hk j ha
      · rw [fset_ne h'] at hk
        exact t.sep j k a hjk ha hk
theorem Stt.setP {Γ : Anc} {ρ : Ev} {fp : Nat → List Addr} {F H : Hp} {σ : L2.St} (t : Stt K Γ ρ fp F σ H) (i : Nat) {v : V} {p : P} (hc : Rep K F v p) : Stt K Γ (ρ.set i (some (.p p))) (fset fp i []) F (σ.set i (some v)) H :=
  t.set (c := .p p) (as := []) hc (fun _ h => nomatch h) fun _ h => nomatch h
/-- slots forgotten -/
def forget : Ev → List Nat → Ev
  | ρ, [] => ρ
  | ρ, v :: vs => (forget ρ vs).set v none
theorem Stt.weak {Γ : Anc} {ρ ρ' : Ev} {fp : Nat → List Addr} {F H : Hp} {σ σ' : L2.St} (t : Stt K Γ ρ fp F σ H) (hl : σ'.length = ρ'.length) (h : ∀ (i : Nat) (c : Cell), ρ'[i]? = some (some c) → ρ[i]? = some (some c) ∧ σ'[i]? = σ[i]?) : Stt K Γ ρ' fp F σ' H where
  ex := t.ex
  exF := t.exF
  exH := t.exH
  thr := t.thr
  fre := t.fre
  len := hl
  cells := fun i c e => by
    obtain ⟨h1, h2⟩ := h i c e
    obtain ⟨v, h3, h4⟩ := t.cells i c h1
    exact ⟨v, h2.trans h3, h4⟩
  own := t.own
  sep := t.sep
theorem forget_some {ρ : Ev} {σ : L2.St} {i : Nat} {c : Cell} : ∀ {vs : List Nat}, (forget ρ vs)[i]? = some (some c) → ρ[i]? = some (some c) ∧ (wipe σ vs)[i]? = σ[i]?
  | [], h => ⟨h, rfl⟩
  | v :: vs, h => by
    unfold forget at h
    by_cases hi : v = i
    · subst hi
      by_cases hv : v < (forget ρ vs).length
      · rw [List.getElem?_set_self hv] at h; cases h
      · rw [List.getElem?_eq_none (by simpa using hv)] at h; cases h
    · rw [List.getElem?_set_ne hi] at h
      unfold wipe
      rw [List.getElem?_set_ne hi]
      exact forget_some h
theorem forget_length (ρ : Ev) : ∀ vs : List Nat, (forget ρ vs).length = ρ.length
  | [] => rfl
  | v :: vs => by unfold forget; rw [List.length_set, forget_length ρ vs]
theorem Stt.wipe {Γ : Anc} {ρ : Ev} {fp : Nat → List Addr} {F H : Hp} {σ : L2.St} (t : Stt K Γ ρ fp F σ H) (vs : List Nat) : Stt K Γ (forget ρ vs) fp F (L2.wipe σ vs) H :=
  t.weak (by rw [wipe_length, forget_length, t.len]) fun i c e => forget_some e
/-- the list that slot i owns is written -/
theorem Stt.write {Γ : Anc} {ρ : Ev} {fp : Nat → List Addr} {F H : Hp} {σ : L2.St} (t : Stt K Γ ρ fp F σ H) {i : Nat} {a : Addr} {o : HO} {v : V} {c : Cell} (ha : fp i = [a]) (hv : σ[i]? = some (some v)) (hi : i < ρ.length)
    (hc : CellOk K F (upd H a o) v c [a]) : Stt K Γ (ρ.set i (some c)) fp F σ (upd H a o) where
  ex := fun b u e => by
    rw [upd_ne]
    · exact t.ex b u e
    · intro z
      subst z
      have q := (t.own i b (by rw [ha]; simp)).1
      rw [q] at e; cases e
  exF := t.exF
  exH := fun b u h1 h2 => by
    rw [upd_ne]
    · exact t.exH b u h1 h2
    · intro z
      subst z
      rcases (t.own i b (by rw [ha]; simp)).2.2 with q | q
      · exact h1 q
      · rw [q] at h2; cases h2
  thr := fun b h => by
    by_cases z : b = a
    · subst z
      rw [upd_same]
      simp
    · rw [upd_ne z]
      exact t.thr b h
  fre := t.fre
  len := by rw [List.length_set, t.len]
  cells := fun j c' e => by
    by_cases h : i = j
    · subst h
      rw [List.getElem?_set_self hi] at e
      cases e
      rw [ha]
      exact ⟨v, hv, hc⟩
    · rw [List.getElem?_set_ne h] at e
      obtain ⟨w, h1, h2⟩ := t.cells j c' e
      refine ⟨w, h1, cell_same (Same.refl _) (fun b hb => upd_ne fun z => ?_) h2⟩
      subst z
      exact t.sep i j b h (by rw [ha]; simp) hb
  own := fun j b hb => by
    obtain ⟨h1, h2, h3⟩ := t.own j b hb
    refine ⟨h1, ?_, h3⟩
    by_cases z : b = a
    · subst z
      rw [upd_same]
      simp
    · rw [upd_ne z]
      exact h2
  sep := t.sep
/-- a list of one's own becomes fixed -/
theorem Stt.freeze {Γ : Anc} {ρ : Ev} {fp : Nat → List Addr} {F H : Hp} {σ : L2.St} (t : Stt K Γ ρ fp F σ H) {a : Addr} {o : HO} (h : H a = some o) (hF : F a = none) (hG : Γ.S a ∨ Γ.H a = none) (hn : ∀ i, a ∉ fp i) : Stt K Γ ρ fp (upd F a o) σ H where
  ex := fun b u e => by
    by_cases z : b = a
    · subst z
      rw [upd_same] at e
      rw [h]
      exact e
    · rw [upd_ne z] at e
      exact t.ex b u e
  exF := t.exF.trans (same_new hF)
  exH := t.exH
  thr := t.thr
  fre := fun b h1 h2 h3 => by
    rw [upd_ne fun z => by
      subst z
      rcases hG with q | q
      · exact h3 q
      · exact h2 q]
    exact t.fre b h1 h2 h3
  len := t.len
  cells := fun i c e => by
    obtain ⟨v, h1, h2⟩ := t.cells i c e
    exact ⟨v, h1, cell_same (same_new hF) (fun _ _ => rfl) h2⟩
  own := fun i b hb => by
    obtain ⟨h1, h2, h3⟩ := t.own i b hb
    refine ⟨?_, h2, h3⟩
    rw [upd_ne fun z => by subst z; exact hn i hb]
    exact h1
  sep := t.sep
end
end DL
end PartDL1
section PartDL2
set_option maxRecDepth 100000
set_option maxHeartbeats 2000000
/-! DL2: expressions. -/
namespace DL
open PySem PySem.Spec PyProof.Rows L2

/-! ### the weakest readings -/
section
variable (X : Cx)
def wE (e : Expr) : TE := fun σ H Φ => ∀ (pins : List (Addr × Obj)) (s : Shared), Inv X pins σ H s → wpAny (model X.prog X.w) X.A (eval e X.env) (EP X pins σ Φ) X.xe s
def wT (e : Expr) : TT := fun σ H Φ => ∀ (pins : List (Addr × Obj)) (s : Shared), Inv X pins σ H s → wpAny (model X.prog X.w) X.A (isTrue e X.env (eval e X.env)) (TP X pins σ Φ) X.xe s
def wW (e : Expr) : TT := fun σ H Φ => ∀ (whole : Sem Value) (pins : List (Addr × Obj)) (s : Shared), Inv X pins σ H s → wpAny (model X.prog X.w) X.A (isTrue e X.env whole) (TP X pins σ Φ) X.xe s
def wA (es : List Expr) : TA := fun σ H Φ => ∀ (pos : Pos) (pins : List (Addr × Obj)) (s : Shared), Inv X pins σ H s → wpAny (model X.prog X.w) X.A (spliced (backTo pos (starEach es X.env))) (AP X pins σ Φ) X.xe s
def wO (e : Option Expr) : TO := fun σ H Φ => ∀ (pins : List (Addr × Obj)) (s : Shared), Inv X pins σ H s → wpAny (model X.prog X.w) X.A (evalPart e X.env) (fun u s' => ∃ o H', Inv X pins σ H' s' ∧ IsPart u o ∧ Φ o H') X.xe s
end
section
variable {X : Cx}
theorem pe_w {e : Expr} : PE X e (wE X e) := ⟨fun pins s _ _ _ I h => h pins s I⟩
theorem pt_w {e : Expr} : PT X e (wT X e) := ⟨fun pins s _ _ _ I h => h pins s I⟩
theorem pw_w {e : Expr} : PW X e (wW X e) := ⟨fun wh pins s _ _ _ I h => h wh pins s I⟩
theorem pa_w {es : List Expr} : PA X es (wA X es) := ⟨fun pos pins s _ _ _ I h => h pos pins s I⟩
theorem po_w {e : Option Expr} : PO X e (wO X e) := ⟨fun pins s _ _ _ I h => h pins s I⟩

/-! ### the judgements -/
def EV (X : Cx) (e : Expr) (ρ : Ev) (Q : P → Ev → Prop) : Prop := ∀ (Γ : Anc) (fp : Nat → List Addr) (F : Hp) (σ : L2.St) (H : Hp) (Φ : VK), Stt X.K Γ ρ fp F σ H →
  (∀ v F' H' p ρ' fp', Stt X.K Γ ρ' fp' F' σ H' → Same F F' → Rep X.K F' v p → Q p ρ' → Φ v H') → wE X e σ H Φ
/-- a new list of one's own -/
def EN (X : Cx) (e : Expr) (ρ : Ev) (Q : List D → Ev → Prop) : Prop := ∀ (Γ : Anc) (fp : Nat → List Addr) (F : Hp) (σ : L2.St) (H : Hp) (Φ : VK), Stt X.K Γ ρ fp F σ H →
  (∀ a vs F' H' ds ρ' fp', Stt X.K Γ ρ' fp' F' σ H' → Same F F' → F' a = none → H' a = some (.lst vs) → DqAll F' vs ds → Γ.H a = none → (∀ i, a ∉ fp' i) → Q ds ρ' → Φ (.ref a) H') → wE X e σ H Φ
def ET (X : Cx) (e : Expr) (ρ : Ev) (Q : Bool → Ev → Prop) : Prop := ∀ (Γ : Anc) (fp : Nat → List Addr) (F : Hp) (σ : L2.St) (H : Hp) (Φ : Bool → Hp → Prop), Stt X.K Γ ρ fp F σ H →
  (∀ b F' H' ρ' fp', Stt X.K Γ ρ' fp' F' σ H' → Same F F' → Q b ρ' → Φ b H') → wT X e σ H Φ
def EW (X : Cx) (e : Expr) (ρ : Ev) (Q : Bool → Ev → Prop) : Prop := ∀ (Γ : Anc) (fp : Nat → List Addr) (F : Hp) (σ : L2.St) (H : Hp) (Φ : Bool → Hp → Prop), Stt X.K Γ ρ fp F σ H →
  (∀ b F' H' ρ' fp', Stt X.K Γ ρ' fp' F' σ H' → Same F F' → Q b ρ' → Φ b H') → wW X e σ H Φ
def EA (X : Cx) (es : List Expr) (ρ : Ev) (Q : List P → Ev → Prop) : Prop := ∀ (Γ : Anc) (fp : Nat → List Addr) (F : Hp) (σ : L2.St) (H : Hp) (Φ : List V → Hp → Prop), Stt X.K Γ ρ fp F σ H →
  (∀ vs F' H' ps ρ' fp', Stt X.K Γ ρ' fp' F' σ H' → Same F F' → Reps X.K F' vs ps → Q ps ρ' → Φ vs H') → wA X es σ H Φ
def EO (X : Cx) (e : Option Expr) (ρ : Ev) (Q : Option Int → Ev → Prop) : Prop := ∀ (Γ : Anc) (fp : Nat → List Addr) (F : Hp) (σ : L2.St) (H : Hp) (Φ : Option Int → Hp → Prop), Stt X.K Γ ρ fp F σ H →
  (∀ o F' H' ρ' fp', Stt X.K Γ ρ' fp' F' σ H' → Same F F' → Q o ρ' → Φ o H') → wO X e σ H Φ

variable {ρ : Ev} {Q : P → Ev → Prop} {pos : Pos} {a b : Expr}
theorem EN.ev {e : Expr} (h : EN X e ρ fun ds ρ' => Q (.d (.list ds)) ρ') : EV X e ρ Q := fun Γ fp F σ H Φ t k =>
  h Γ fp F σ H Φ t fun a vs F' H' ds ρ' fp' t' f h1 h2 h3 h4 h5 q =>
    k (.ref a) (upd F' a (.lst vs)) H' (.d (.list ds)) ρ' fp' (t'.freeze h2 h1 (.inr h4) h5) (f.trans (same_new h1)) (rpL upd_same (dpAll_same (same_new h1) h3)) q
theorem EV.mono {e : Expr} {Q' : P → Ev → Prop} (h : EV X e ρ Q) (hq : ∀ p ρ', Q p ρ' → Q' p ρ') : EV X e ρ Q' := fun Γ fp F σ H Φ t k =>
  h Γ fp F σ H Φ t fun v F' H' p ρ' fp' t' f r q => k v F' H' p ρ' fp' t' f r (hq _ _ q)
theorem ET.mono {e : Expr} {Q Q' : Bool → Ev → Prop} (h : ET X e ρ Q) (hq : ∀ p ρ', Q p ρ' → Q' p ρ') : ET X e ρ Q' := fun Γ fp F σ H Φ t k =>
  h Γ fp F σ H Φ t fun v F' H' ρ' fp' t' f q => k v F' H' ρ' fp' t' f (hq _ _ q)

/-! ### names, constants -/
theorem ev_var (i : Nat) {x : Str} {p : P} (h : ρ[i]? = some (some (.p p))) (q : Q p ρ) (hN : X.N[i]? = some x := by rfl) (hv : Vis X.env.scope x := by first | exact Or.inl rfl | exact Or.inr (Or.inl rfl) | exact Or.inr (Or.inr rfl))
    (hd : (x == ("__debug__" : Str)) = false := by decide) (hcd : (x == ("__classdict__" : Str)) = false := by decide) : EV X (.Name x pos) ρ Q := fun Γ fp F σ H Φ t k => by
  obtain ⟨v, h1, h2⟩ := t.cells i _ h
  exact fun pins s I => (pe_var hN hv hd hcd).run pins s σ H Φ I ⟨v, h1, k v F H p ρ fp t (Same.refl _) h2 q⟩
/-- a list of one's own is read as data: it is fixed from here on -/
theorem ev_take (i : Nat) {x : Str} {ds : List D} (h : ρ[i]? = some (some (.own ds))) (q : Q (.d (.list ds)) (ρ.set i (some (.p (.d (.list ds)))))) (hN : X.N[i]? = some x := by rfl) (hv : Vis X.env.scope x := by first | exact Or.inl rfl | exact Or.inr (Or.inl rfl) | exact Or.inr (Or.inr rfl))
    (hd : (x == ("__debug__" : Str)) = false := by decide) (hcd : (x == ("__classdict__" : Str)) = false := by decide) : EV X (.Name x pos) ρ Q := fun Γ fp F σ H Φ t k => by
  obtain ⟨v, h1, a, vs, hf, rfl, ha, hd'⟩ := t.cells i _ h
  refine fun pins s I => (pe_var hN hv hd hcd).run pins s σ H Φ I ⟨.ref a, h1, ?_⟩
  obtain ⟨o1, o2, o3⟩ := t.own i a (by rw [hf]; simp)
  have hi : i < ρ.length := (List.getElem?_eq_some_iff.mp h).1
  -- the slot's own address leaves the cells
  have t1 : Stt X.K Γ (ρ.set i none) (fset fp i []) F σ H :=
    ⟨t.ex, t.exF, t.exH, t.thr, t.fre, by rw [List.length_set]; exact t.len, fun j c e => by
      by_cases hj : i = j
      · subst hj
        rw [List.getElem?_set_self hi] at e; cases e
      · rw [List.getElem?_set_ne hj] at e
        rw [fset_ne (Ne.symm hj)]
        exact t.cells j c e, fun j b hb => by
      by_cases hj : j = i
      · subst hj
        rw [fset_same] at hb; cases hb
      · rw [fset_ne hj] at hb
        exact t.own j b hb, fun j l b hjl hb hl => by
      by_cases hj : j = i
      · subst hj
        rw [fset_same] at hb; cases hb
      · rw [fset_ne hj] at hb
        by_cases hl' : l = i
        · subst hl'
          rw [fset_same] at hl; cases hl
        · rw [fset_ne hl'] at hl
          exact t.sep j l b hjl hb hl⟩
  have hn : ∀ j, a ∉ fset fp i [] j := fun j hj => by
    by_cases z : j = i
    · subst z
      rw [fset_same] at hj; cases hj
    · rw [fset_ne z] at hj
      exact t.sep j i a z hj (by rw [hf]; simp)
  have t2 := t1.freeze ha o1 o3 hn
  have r : Rep X.K (upd F a (.lst vs)) (.ref a) (.d (.list ds)) := rpL upd_same (dpAll_same (same_new o1) hd')
  have t3 := t2.setP i (v := .ref a) r
  have e1 : (ρ.set i none).set i (some (Cell.p (.d (.list ds)))) = ρ.set i (some (.p (.d (.list ds)))) := by rw [List.set_set]
  have e2 : σ.set i (some (V.ref a)) = σ := by
    apply List.ext_getElem?
    intro j
    by_cases z : i = j
    · subst z
      rw [List.getElem?_set_self (by rw [t.len]; exact hi), h1]
    · rw [List.getElem?_set_ne z]
  rw [e1, e2] at t3
  exact k _ _ _ _ _ _ t3 (same_new o1) r q

/-! ### constants -/
theorem ev_int {i : Int} {j : Nat} (q : Q (.d (.int i)) ρ) : EV X (.Constant (.int i) j pos) ρ Q := fun Γ fp F σ H Φ t k pins s I => pe_int.run pins s σ H Φ I (k _ F H _ ρ fp t (Same.refl _) rpI q)
theorem ev_str {x : Str} {j : Nat} (q : Q (.d (.str x)) ρ) : EV X (.Constant (.str x) j pos) ρ Q := fun Γ fp F σ H Φ t k pins s I => pe_str.run pins s σ H Φ I (k _ F H _ ρ fp t (Same.refl _) rpS q)
theorem ev_none {j : Nat} (q : Q (.d .none) ρ) : EV X (.Constant .none j pos) ρ Q := fun Γ fp F σ H Φ t k pins s I => pe_non.run pins s σ H Φ I (k _ F H _ ρ fp t (Same.refl _) rpN q)
theorem ev_bool {x : Bool} {j : Nat} (q : Q (.d (.bool x)) ρ) : EV X (.Constant (.bool x) j pos) ρ Q := fun Γ fp F σ H Φ t k pins s I => pe_bl.run pins s σ H Φ I (k _ F H _ ρ fp t (Same.refl _) rpB q)
theorem ev_globI {x : Str} {i : Int} {tk : Tok} (hm : X.mg x = some (.int i tk)) (q : Q (.d (.int i)) ρ) (hg : Gl X x := by rfl) (hd : (x == ("__debug__" : Str)) = false := by decide) : EV X (.Name x pos) ρ Q :=
  fun Γ fp F σ H Φ t k pins s I => (pe_glob (v := .int i) hg hm ⟨_, rfl⟩ hd).run pins s σ H Φ I (k _ F H _ ρ fp t (Same.refl _) rpI q)
theorem ev_globS {x z : Str} {tk : Tok} (hm : X.mg x = some (.str z tk)) (q : Q (.d (.str z)) ρ) (hg : Gl X x := by rfl) (hd : (x == ("__debug__" : Str)) = false := by decide) : EV X (.Name x pos) ρ Q :=
  fun Γ fp F σ H Φ t k pins s I => (pe_glob (v := .str z) hg hm ⟨_, rfl⟩ hd).run pins s σ H Φ I (k _ F H _ ρ fp t (Same.refl _) rpS q)
/-- a built-in class as a value -/
theorem ev_ty {x : Str} {n : String} (hm : X.mg x = none) (hv : bootBuiltins x = some (.type n)) (q : Q (.raw (.ty n)) ρ) (hg : Gl X x := by rfl) (hn : x ≠ "__name__" := by decide) (hd : (x == ("__debug__" : Str)) = false := by decide) : EV X (.Name x pos) ρ Q :=
  fun Γ fp F σ H Φ t k pins s I => (pe_bltn (v := .ty n) hg hm hv rfl hn hd).run pins s σ H Φ I (k _ F H _ ρ fp t (Same.refl _) rpR q)

/-! ### operators, by data -/
/-- what an operator makes of data -/
def DO (K : PySem.W.Frag) (r : R2) (x y : P) (Q : P → Prop) : Prop := ∀ (F H : Hp) (v w : V) (Φ : VK), Same F H → Rep K F v x → Rep K F w y → (∀ u F' H' z, Gr F H F' H' → Rep K F' u z → Q z → Φ u H') → r v w H Φ
def DC (K : PySem.W.Frag) (r : List V → Hp → VK → Prop) (ps : List P) (Q : P → Prop) : Prop := ∀ (F H : Hp) (vs : List V) (Φ : VK), Same F H → Reps K F vs ps → (∀ u F' H' z, Gr F H F' H' → Rep K F' u z → Q z → Φ u H') → r vs H Φ
theorem ev_op {op : Operator} {r : R2} (ho : OpR X (binaryOp op) r) (h : EV X a ρ fun x ρ1 => EV X b ρ1 fun y ρ2 => DO X.K r x y fun z => Q z ρ2) : EV X (.BinOp a op b pos) ρ Q := fun Γ fp F σ H Φ t k pins s I =>
  (pe_op ho pe_w pe_w).run pins s σ H Φ I (h Γ fp F σ H _ t fun v F1 H1 x ρ1 fp1 t1 f1 r1 h1 => h1 Γ fp1 F1 σ H1 _ t1 fun w F2 H2 y ρ2 fp2 t2 f2 r2 d =>
    d F2 H2 v w Φ t2.ex (rep_same f2 r1) r2 fun u F3 H3 z g r3 q => k u F3 H3 z ρ2 fp2 (t2.grow g) ((f1.trans f2).trans g.f) r3 q)
theorem ev_cmp {op : CmpOp} {r : R2} (ho : OpR X (compareOp op) r) (h : EV X a ρ fun x ρ1 => EV X b ρ1 fun y ρ2 => DO X.K r x y fun z => Q z ρ2) (hm : behindInMarks op b = false := by first | exact nomark _ | rfl) : EV X (.Compare a [op] [b] pos) ρ Q := fun Γ fp F σ H Φ t k pins s I =>
  (pe_cmpR ho pe_w pe_w hm).run pins s σ H Φ I (h Γ fp F σ H _ t fun v F1 H1 x ρ1 fp1 t1 f1 r1 h1 => h1 Γ fp1 F1 σ H1 _ t1 fun w F2 H2 y ρ2 fp2 t2 f2 r2 d =>
    d F2 H2 v w Φ t2.ex (rep_same f2 r1) r2 fun u F3 H3 z g r3 q => k u F3 H3 z ρ2 fp2 (t2.grow g) ((f1.trans f2).trans g.f) r3 q)
theorem rep_bool {F : Hp} {v : V} {b : Bool} {K : PySem.W.Frag} (h : Rep K F v (.d (.bool b))) : v = .bl b := by
  cases (show Dq F v (.bool b) from h)
  rfl
theorem rep_int {F : Hp} {v : V} {b : Int} {K : PySem.W.Frag} (h : Rep K F v (.d (.int b))) : v = .int b := by
  cases (show Dq F v (.int b) from h)
  rfl
theorem rep_str {F : Hp} {v : V} {b : Str} {K : PySem.W.Frag} (h : Rep K F v (.d (.str b))) : v = .str b := by
  cases (show Dq F v (.str b) from h)
  rfl
theorem et_cmp {op : CmpOp} {r : R2} {Q : Bool → Ev → Prop} (ho : OpR X (compareOp op) r) (h : EV X a ρ fun x ρ1 => EV X b ρ1 fun y ρ2 => DO X.K r x y fun z => ∃ c, z = .d (.bool c) ∧ Q c ρ2) (hm : behindInMarks op b = false := by first | exact nomark _ | rfl) :
    ET X (.Compare a [op] [b] pos) ρ Q := fun Γ fp F σ H Φ t k pins s I =>
  (pt_cmpR ho pe_w pe_w hm).run pins s σ H Φ I (h Γ fp F σ H _ t fun v F1 H1 x ρ1 fp1 t1 f1 r1 h1 => h1 Γ fp1 F1 σ H1 _ t1 fun w F2 H2 y ρ2 fp2 t2 f2 r2 d =>
    d F2 H2 v w _ t2.ex (rep_same f2 r1) r2 fun u F3 H3 z g r3 ⟨c, ez, q⟩ => by
      subst ez
      exact ⟨c, rep_bool r3, k c F3 H3 ρ2 fp2 (t2.grow g) ((f1.trans f2).trans g.f) q⟩)
/-- an expression whose value is a bool, as a test -/
theorem et_val {e : Expr} {Q : Bool → Ev → Prop} (h : EV X e ρ fun z ρ1 => ∃ c, z = .d (.bool c) ∧ Q c ρ1) (he : ∀ whole, isTrue e X.env whole = (do let v ← whole; standAt e.pos; holding [v] (truthy v)) := by intro _; rfl) : ET X e ρ Q := fun Γ fp F σ H Φ t k pins s I =>
  (pt_val pe_w he).run pins s σ H Φ I (h Γ fp F σ H _ t fun v F1 H1 x ρ1 fp1 t1 f1 r1 ⟨c, ez, q⟩ => by
    subst ez
    exact ⟨c, rep_bool r1, k c F1 H1 ρ1 fp1 t1 f1 q⟩)
theorem do_of {K : PySem.W.Frag} {r : R2} {x y z : P} {Q : P → Prop} (h : ∀ (F H : Hp) (v w : V) (Φ : VK), Same F H → Rep K F v x → Rep K F w y → (∀ u, Rep K F u z → Φ u H) → r v w H Φ) (q : Q z) : DO K r x y Q := fun F H v w Φ s r1 r2 k =>
  h F H v w Φ s r1 r2 fun u ru => k u F H z (Gr.refl s) ru q
theorem do_II {K : PySem.W.Frag} {g : Int → Int → V} {i j : Int} {z : P} {Q : P → Prop} (hz : ∀ F, Rep K F (g i j) z) (q : Q z) : DO K (rI0 g) (.d (.int i)) (.d (.int j)) Q := do_of (fun F H v w Φ s r1 r2 k => by
  rw [rep_int r1, rep_int r2]
  exact ⟨i, j, rfl, rfl, k _ (hz F)⟩) q
theorem ev_add (h : EV X a ρ fun x ρ1 => EV X b ρ1 fun y ρ2 => ∃ i j, x = .d (.int i) ∧ y = .d (.int j) ∧ Q (.d (.int (i + j))) ρ2) : EV X (.BinOp a .Add b pos) ρ Q :=
  ev_op op_add (h.mono fun x ρ1 h1 => EV.mono h1 fun y ρ2 ⟨i, j, ex, ey, q⟩ => by subst ex ey; exact do_II (fun F => rpI) q)
theorem ev_sub (h : EV X a ρ fun x ρ1 => EV X b ρ1 fun y ρ2 => ∃ i j, x = .d (.int i) ∧ y = .d (.int j) ∧ Q (.d (.int (i - j))) ρ2) : EV X (.BinOp a .Sub b pos) ρ Q :=
  ev_op op_sub (h.mono fun x ρ1 h1 => EV.mono h1 fun y ρ2 ⟨i, j, ex, ey, q⟩ => by subst ex ey; exact do_II (fun F => rpI) q)
theorem ev_mul (h : EV X a ρ fun x ρ1 => EV X b ρ1 fun y ρ2 => ∃ i j, x = .d (.int i) ∧ y = .d (.int j) ∧ CMul i j ∧ Q (.d (.int (i * j))) ρ2) : EV X (.BinOp a .Mult b pos) ρ Q :=
  ev_op op_mul (h.mono fun x ρ1 h1 => EV.mono h1 fun y ρ2 ⟨i, j, ex, ey, c, q⟩ => by
    subst ex ey
    exact do_of (fun F H v w Φ s r1 r2 k => by
      rw [rep_int r1, rep_int r2]
      exact ⟨i, j, rfl, rfl, c, k _ rpI⟩) q)
theorem ev_fdiv (h : EV X a ρ fun x ρ1 => EV X b ρ1 fun y ρ2 => ∃ i j, x = .d (.int i) ∧ y = .d (.int j) ∧ CDiv i j ∧ Q (.d (.int (i / j))) ρ2) : EV X (.BinOp a .FloorDiv b pos) ρ Q :=
  ev_op op_fdiv (h.mono fun x ρ1 h1 => EV.mono h1 fun y ρ2 ⟨i, j, ex, ey, c, q⟩ => by
    subst ex ey
    exact do_of (fun F H v w Φ s r1 r2 k => by
      rw [rep_int r1, rep_int r2]
      exact ⟨i, j, rfl, rfl, c, k _ rpI⟩) q)
theorem ev_mod (h : EV X a ρ fun x ρ1 => EV X b ρ1 fun y ρ2 => ∃ i j, x = .d (.int i) ∧ y = .d (.int j) ∧ 0 < j ∧ Q (.d (.int (i % j))) ρ2) : EV X (.BinOp a .Mod b pos) ρ Q :=
  ev_op op_mod (h.mono fun x ρ1 h1 => EV.mono h1 fun y ρ2 ⟨i, j, ex, ey, c, q⟩ => by
    subst ex ey
    exact do_of (fun F H v w Φ s r1 r2 k => by
      rw [rep_int r1, rep_int r2]
      exact ⟨i, j, rfl, rfl, c, k _ rpI⟩) q)
theorem ev_pow (h : EV X a ρ fun x ρ1 => EV X b ρ1 fun y ρ2 => ∃ i j, x = .d (.int i) ∧ y = .d (.int j) ∧ CPow i j ∧ Q (.d (.int (i ^ j.toNat))) ρ2) : EV X (.BinOp a .Pow b pos) ρ Q :=
  ev_op op_pow (h.mono fun x ρ1 h1 => EV.mono h1 fun y ρ2 ⟨i, j, ex, ey, c, q⟩ => by
    subst ex ey
    exact do_of (fun F H v w Φ s r1 r2 k => by
      rw [rep_int r1, rep_int r2]
      exact ⟨i, j, rfl, rfl, c, k _ rpI⟩) q)
theorem ev_cat_str (h : EV X a ρ fun x ρ1 => EV X b ρ1 fun y ρ2 => ∃ i j, x = .d (.str i) ∧ y = .d (.str j) ∧ i.length + j.length ≤ 100000 ∧ Q (.d (.str (i ++ j))) ρ2) : EV X (.BinOp a .Add b pos) ρ Q :=
  ev_op op_add_str (h.mono fun x ρ1 h1 => EV.mono h1 fun y ρ2 ⟨i, j, ex, ey, c, q⟩ => by
    subst ex ey
    exact do_of (fun F H v w Φ s r1 r2 k => by
      rw [rep_str r1, rep_str r2]
      exact ⟨i, j, rfl, rfl, Nat.le_trans c (by rw [sizeLine_eq]; decide), k _ rpS⟩) q)
theorem rep_tup {F : Hp} {v : V} {ds : List D} {K : PySem.W.Frag} (h : Rep K F v (.d (.tuple ds))) : ∃ a vs, v = .ref a ∧ SqT K F a vs ∧ DqAll F vs ds := by
  cases (show Dq F v (.tuple ds) from h) with
  | tup h1 h2 => exact ⟨_, _, rfl, SqT.of h1, h2⟩
theorem rep_tupX {F : Hp} {v : V} {ds : List D} {K : PySem.W.Frag} (h : Rep K F v (.d (.tuple ds))) : ∃ a vs, v = .ref a ∧ F a = some (.tup vs) ∧ DqAll F vs ds := by
  cases (show Dq F v (.tuple ds) from h) with
  | tup h1 h2 => exact ⟨_, _, rfl, h1, h2⟩
theorem rep_lst {F : Hp} {v : V} {ds : List D} {K : PySem.W.Frag} (h : Rep K F v (.d (.list ds))) : ∃ a vs, v = .ref a ∧ SqL K F a vs ∧ DqAll F vs ds := by
  cases (show Dq F v (.list ds) from h) with
  | lst h1 h2 => exact ⟨_, _, rfl, SqL.of h1, h2⟩
theorem small5 {n : Nat} (h : n ≤ 100000) : n ≤ sizeLine := Nat.le_trans h (by rw [sizeLine_eq]; decide)
theorem small5' {n : Nat} (h : n ≤ 100000) : n < sizeLine := Nat.lt_of_le_of_lt h (by rw [sizeLine_eq]; decide)
theorem ev_cat_tup (h : EV X a ρ fun x ρ1 => EV X b ρ1 fun y ρ2 => ∃ xs ys, x = .d (.tuple xs) ∧ y = .d (.tuple ys) ∧ xs.length + ys.length ≤ 100000 ∧ Q (.d (.tuple (xs ++ ys))) ρ2) : EV X (.BinOp a .Add b pos) ρ Q :=
  ev_op op_catA (h.mono fun x ρ1 h1 => EV.mono h1 fun y ρ2 ⟨xs, ys, ex, ey, c, q⟩ => by
    subst ex ey
    intro F H v w Φ s r1 r2 k
    obtain ⟨a1, vs, rfl, s1, d1⟩ := rep_tup r1
    obtain ⟨a2, ws, rfl, s2, d2⟩ := rep_tup r2
    refine ⟨a1, a2, vs, ws, rfl, rfl, sqT_same s s1, sqT_same s s2, by rw [d1.len, d2.len]; exact small5 c, fun e => ?_, fun e1 e2 => ?_, fun e1 e2 p hp => ?_⟩
    · subst e
      cases d1
      exact k _ F H _ (Gr.refl s) r2 q
    · subst e2
      cases d2
      rw [List.append_nil] at q
      exact k _ F H _ (Gr.refl s) r1 q
    · exact k _ _ _ _ (Gr.new s hp) (rpT upd_same (dpAll_same (same_new (none_of s hp)) (DqAll.app d1 d2))) q)

/-! ### comparisons -/
theorem ev_lt (h : EV X a ρ fun x ρ1 => EV X b ρ1 fun y ρ2 => ∃ i j, x = .d (.int i) ∧ y = .d (.int j) ∧ Q (.d (.bool (decide (i < j)))) ρ2) : EV X (.Compare a [.Lt] [b] pos) ρ Q :=
  ev_cmp op_lt (h.mono fun x ρ1 h1 => EV.mono h1 fun y ρ2 ⟨i, j, ex, ey, q⟩ => by subst ex ey; exact do_II (fun F => rpB) q)
theorem ev_le (h : EV X a ρ fun x ρ1 => EV X b ρ1 fun y ρ2 => ∃ i j, x = .d (.int i) ∧ y = .d (.int j) ∧ Q (.d (.bool (decide (i ≤ j)))) ρ2) : EV X (.Compare a [.LtE] [b] pos) ρ Q :=
  ev_cmp op_le (h.mono fun x ρ1 h1 => EV.mono h1 fun y ρ2 ⟨i, j, ex, ey, q⟩ => by subst ex ey; exact do_II (fun F => rpB) q)
theorem ev_gt (h : EV X a ρ fun x ρ1 => EV X b ρ1 fun y ρ2 => ∃ i j, x = .d (.int i) ∧ y = .d (.int j) ∧ Q (.d (.bool (decide (j < i)))) ρ2) : EV X (.Compare a [.Gt] [b] pos) ρ Q :=
  ev_cmp op_gt (h.mono fun x ρ1 h1 => EV.mono h1 fun y ρ2 ⟨i, j, ex, ey, q⟩ => by subst ex ey; exact do_II (fun F => rpB) q)
theorem ev_ge (h : EV X a ρ fun x ρ1 => EV X b ρ1 fun y ρ2 => ∃ i j, x = .d (.int i) ∧ y = .d (.int j) ∧ Q (.d (.bool (decide (j ≤ i)))) ρ2) : EV X (.Compare a [.GtE] [b] pos) ρ Q :=
  ev_cmp op_ge (h.mono fun x ρ1 h1 => EV.mono h1 fun y ρ2 ⟨i, j, ex, ey, q⟩ => by subst ex ey; exact do_II (fun F => rpB) q)
theorem et_lt {Q : Bool → Ev → Prop} (h : EV X a ρ fun x ρ1 => EV X b ρ1 fun y ρ2 => ∃ i j, x = .d (.int i) ∧ y = .d (.int j) ∧ Q (decide (i < j)) ρ2) : ET X (.Compare a [.Lt] [b] pos) ρ Q :=
  et_cmp op_lt (h.mono fun x ρ1 h1 => EV.mono h1 fun y ρ2 ⟨i, j, ex, ey, q⟩ => by subst ex ey; exact do_II (fun F => rpB) ⟨_, rfl, q⟩)
theorem et_le {Q : Bool → Ev → Prop} (h : EV X a ρ fun x ρ1 => EV X b ρ1 fun y ρ2 => ∃ i j, x = .d (.int i) ∧ y = .d (.int j) ∧ Q (decide (i ≤ j)) ρ2) : ET X (.Compare a [.LtE] [b] pos) ρ Q :=
  et_cmp op_le (h.mono fun x ρ1 h1 => EV.mono h1 fun y ρ2 ⟨i, j, ex, ey, q⟩ => by subst ex ey; exact do_II (fun F => rpB) ⟨_, rfl, q⟩)
theorem et_gt {Q : Bool → Ev → Prop} (h : EV X a ρ fun x ρ1 => EV X b ρ1 fun y ρ2 => ∃ i j, x = .d (.int i) ∧ y = .d (.int j) ∧ Q (decide (j < i)) ρ2) : ET X (.Compare a [.Gt] [b] pos) ρ Q :=
  et_cmp op_gt (h.mono fun x ρ1 h1 => EV.mono h1 fun y ρ2 ⟨i, j, ex, ey, q⟩ => by subst ex ey; exact do_II (fun F => rpB) ⟨_, rfl, q⟩)
theorem et_ge {Q : Bool → Ev → Prop} (h : EV X a ρ fun x ρ1 => EV X b ρ1 fun y ρ2 => ∃ i j, x = .d (.int i) ∧ y = .d (.int j) ∧ Q (decide (j ≤ i)) ρ2) : ET X (.Compare a [.GtE] [b] pos) ρ Q :=
  et_cmp op_ge (h.mono fun x ρ1 h1 => EV.mono h1 fun y ρ2 ⟨i, j, ex, ey, q⟩ => by subst ex ey; exact do_II (fun F => rpB) ⟨_, rfl, q⟩)
/-- ==, != of data of any depth -/
theorem do_eqD {K : PySem.W.Frag} {x y : D} {Q : P → Prop} (hx : SeqAt.shaped x = true) (hy : SeqAt.shaped y = true) (q : Q (.d (.bool (PyData.eqv x y)))) : DO K (rEqD K) (.d x) (.d y) Q :=
  do_of (fun F H v w Φ s r1 r2 k => ⟨x, y, (dp_same s r1).dp, (dp_same s r2).dp, hx, hy, k _ rpB⟩) q
theorem do_neD {K : PySem.W.Frag} {x y : D} {Q : P → Prop} (hx : SeqAt.shaped x = true) (hy : SeqAt.shaped y = true) (q : Q (.d (.bool (!PyData.eqv x y)))) : DO K (rNeD K) (.d x) (.d y) Q :=
  do_of (fun F H v w Φ s r1 r2 k => ⟨x, y, (dp_same s r1).dp, (dp_same s r2).dp, hx, hy, k _ rpB⟩) q
theorem ev_eq {k : Nat} (hr : Room k X.A) (h : EV X a ρ fun x ρ1 => EV X b ρ1 fun y ρ2 => ∃ d e, x = .d d ∧ y = .d e ∧ SeqAt.shaped d = true ∧ SeqAt.shaped e = true ∧ Q (.d (.bool (PyData.eqv d e))) ρ2) : EV X (.Compare a [.Eq] [b] pos) ρ Q :=
  ev_cmp (op_eqD hr.units) (h.mono fun x ρ1 h1 => EV.mono h1 fun y ρ2 ⟨i, j, ex, ey, hx, hy, q⟩ => by subst ex ey; exact do_eqD hx hy q)
theorem ev_ne {k : Nat} (hr : Room k X.A) (h : EV X a ρ fun x ρ1 => EV X b ρ1 fun y ρ2 => ∃ d e, x = .d d ∧ y = .d e ∧ SeqAt.shaped d = true ∧ SeqAt.shaped e = true ∧ Q (.d (.bool (!PyData.eqv d e))) ρ2) : EV X (.Compare a [.NotEq] [b] pos) ρ Q :=
  ev_cmp (op_neD hr.units) (h.mono fun x ρ1 h1 => EV.mono h1 fun y ρ2 ⟨i, j, ex, ey, hx, hy, q⟩ => by subst ex ey; exact do_neD hx hy q)
theorem et_eq {k : Nat} {Q : Bool → Ev → Prop} (hr : Room k X.A) (h : EV X a ρ fun x ρ1 => EV X b ρ1 fun y ρ2 => ∃ d e, x = .d d ∧ y = .d e ∧ SeqAt.shaped d = true ∧ SeqAt.shaped e = true ∧ Q (PyData.eqv d e) ρ2) : ET X (.Compare a [.Eq] [b] pos) ρ Q :=
  et_cmp (op_eqD hr.units) (h.mono fun x ρ1 h1 => EV.mono h1 fun y ρ2 ⟨i, j, ex, ey, hx, hy, q⟩ => by subst ex ey; exact do_eqD hx hy ⟨_, rfl, q⟩)
theorem et_ne {k : Nat} {Q : Bool → Ev → Prop} (hr : Room k X.A) (h : EV X a ρ fun x ρ1 => EV X b ρ1 fun y ρ2 => ∃ d e, x = .d d ∧ y = .d e ∧ SeqAt.shaped d = true ∧ SeqAt.shaped e = true ∧ Q (!PyData.eqv d e) ρ2) : ET X (.Compare a [.NotEq] [b] pos) ρ Q :=
  et_cmp (op_neD hr.units) (h.mono fun x ρ1 h1 => EV.mono h1 fun y ρ2 ⟨i, j, ex, ey, hx, hy, q⟩ => by subst ex ey; exact do_neD hx hy ⟨_, rfl, q⟩)
/-- ints and texts, without room -/
theorem do_eqS {K : PySem.W.Frag} {x y : Str} {Q : P → Prop} (q : Q (.d (.bool (decide (x = y))))) : DO K rEq (.d (.str x)) (.d (.str y)) Q :=
  do_of (fun F H v w Φ s r1 r2 k => by
    rw [rep_str r1, rep_str r2]
    refine ⟨rfl, k _ ?_⟩
    have e : decide (V.str x = V.str y) = decide (x = y) := by by_cases c : x = y <;> simp [c]
    rw [e]
    exact rpB) q
theorem do_eqI {K : PySem.W.Frag} {x y : Int} {Q : P → Prop} (q : Q (.d (.bool (decide (x = y))))) : DO K rEq (.d (.int x)) (.d (.int y)) Q :=
  do_of (fun F H v w Φ s r1 r2 k => by
    rw [rep_int r1, rep_int r2]
    refine ⟨rfl, k _ ?_⟩
    have e : decide (V.int x = V.int y) = decide (x = y) := by by_cases c : x = y <;> simp [c]
    rw [e]
    exact rpB) q
theorem do_neS {K : PySem.W.Frag} {x y : Str} {Q : P → Prop} (q : Q (.d (.bool (decide (x ≠ y))))) : DO K rNe (.d (.str x)) (.d (.str y)) Q :=
  do_of (fun F H v w Φ s r1 r2 k => by
    rw [rep_str r1, rep_str r2]
    refine ⟨rfl, k _ ?_⟩
    have e : (!decide (V.str x = V.str y)) = decide (x ≠ y) := by by_cases c : x = y <;> simp [c]
    rw [e]
    exact rpB) q
theorem do_neI {K : PySem.W.Frag} {x y : Int} {Q : P → Prop} (q : Q (.d (.bool (decide (x ≠ y))))) : DO K rNe (.d (.int x)) (.d (.int y)) Q :=
  do_of (fun F H v w Φ s r1 r2 k => by
    rw [rep_int r1, rep_int r2]
    refine ⟨rfl, k _ ?_⟩
    have e : (!decide (V.int x = V.int y)) = decide (x ≠ y) := by by_cases c : x = y <;> simp [c]
    rw [e]
    exact rpB) q
theorem et_eqS {Q : Bool → Ev → Prop} (h : EV X a ρ fun x ρ1 => EV X b ρ1 fun y ρ2 => ∃ d e, x = .d (.str d) ∧ y = .d (.str e) ∧ Q (decide (d = e)) ρ2) : ET X (.Compare a [.Eq] [b] pos) ρ Q :=
  et_cmp op_eq (h.mono fun x ρ1 h1 => EV.mono h1 fun y ρ2 ⟨i, j, ex, ey, q⟩ => by subst ex ey; exact do_eqS ⟨_, rfl, q⟩)
theorem et_neS {Q : Bool → Ev → Prop} (h : EV X a ρ fun x ρ1 => EV X b ρ1 fun y ρ2 => ∃ d e, x = .d (.str d) ∧ y = .d (.str e) ∧ Q (decide (d ≠ e)) ρ2) : ET X (.Compare a [.NotEq] [b] pos) ρ Q :=
  et_cmp op_ne (h.mono fun x ρ1 h1 => EV.mono h1 fun y ρ2 ⟨i, j, ex, ey, q⟩ => by subst ex ey; exact do_neS ⟨_, rfl, q⟩)
theorem et_eqI {Q : Bool → Ev → Prop} (h : EV X a ρ fun x ρ1 => EV X b ρ1 fun y ρ2 => ∃ d e, x = .d (.int d) ∧ y = .d (.int e) ∧ Q (decide (d = e)) ρ2) : ET X (.Compare a [.Eq] [b] pos) ρ Q :=
  et_cmp op_eq (h.mono fun x ρ1 h1 => EV.mono h1 fun y ρ2 ⟨i, j, ex, ey, q⟩ => by subst ex ey; exact do_eqI ⟨_, rfl, q⟩)
theorem et_neI {Q : Bool → Ev → Prop} (h : EV X a ρ fun x ρ1 => EV X b ρ1 fun y ρ2 => ∃ d e, x = .d (.int d) ∧ y = .d (.int e) ∧ Q (decide (d ≠ e)) ρ2) : ET X (.Compare a [.NotEq] [b] pos) ρ Q :=
  et_cmp op_ne (h.mono fun x ρ1 h1 => EV.mono h1 fun y ρ2 ⟨i, j, ex, ey, q⟩ => by subst ex ey; exact do_neI ⟨_, rfl, q⟩)
theorem ev_eqI (h : EV X a ρ fun x ρ1 => EV X b ρ1 fun y ρ2 => ∃ d e, x = .d (.int d) ∧ y = .d (.int e) ∧ Q (.d (.bool (decide (d = e)))) ρ2) : EV X (.Compare a [.Eq] [b] pos) ρ Q :=
  ev_cmp op_eq (h.mono fun x ρ1 h1 => EV.mono h1 fun y ρ2 ⟨i, j, ex, ey, q⟩ => by subst ex ey; exact do_eqI q)
/-- x is None -/
def isNon : P → Bool
  | .d .none => true
  | .raw .non => true
  | _ => false
theorem rep_non {K : PySem.W.Frag} {F : Hp} {v : V} {p : P} (h : Rep K F v p) : decide (v = .non) = isNon p := by
  cases p with
  | d x =>
    have h' : Dq F v x := h
    cases h' <;> rfl
  | yd hs =>
    obtain ⟨a, C, dx, t, rfl, _⟩ := h
    rfl
  | raw u =>
    have h' : v = u := h
    subst h'
    cases v <;> rfl
  | scr ns =>
    obtain ⟨a, rfl, _⟩ := h
    rfl
theorem do_isN {K : PySem.W.Frag} {x : P} {Q : P → Prop} (q : Q (.d (.bool (isNon x)))) : DO K (fun x y H Q => y = .non ∧ Q (.bl (decide (x = .non))) H) x (.d .none) Q := do_of (fun F H v w Φ s r1 r2 k => by
  have e : w = .non := by cases (show Dq F w .none from r2); rfl
  refine ⟨e, k _ ?_⟩
  rw [rep_non r1]
  exact rpB) q
theorem do_notN {K : PySem.W.Frag} {x : P} {Q : P → Prop} (q : Q (.d (.bool (!isNon x)))) : DO K (fun x y H Q => y = .non ∧ Q (.bl (!decide (x = .non))) H) x (.d .none) Q := do_of (fun F H v w Φ s r1 r2 k => by
  have e : w = .non := by cases (show Dq F w .none from r2); rfl
  refine ⟨e, k _ ?_⟩
  rw [rep_non r1]
  exact rpB) q
theorem et_isN {j : Nat} {p2 : Pos} {Q : Bool → Ev → Prop} (h : EV X a ρ fun x ρ1 => Q (isNon x) ρ1) : ET X (.Compare a [.Is] [.Constant .none j p2] pos) ρ Q :=
  et_cmp op_isN (h.mono fun x ρ1 q => ev_none (do_isN ⟨_, rfl, q⟩))
theorem et_notN {j : Nat} {p2 : Pos} {Q : Bool → Ev → Prop} (h : EV X a ρ fun x ρ1 => Q (!isNon x) ρ1) : ET X (.Compare a [.IsNot] [.Constant .none j p2] pos) ρ Q :=
  et_cmp op_notN (h.mono fun x ρ1 q => ev_none (do_notN ⟨_, rfl, q⟩))
theorem ev_isN {j : Nat} {p2 : Pos} (h : EV X a ρ fun x ρ1 => Q (.d (.bool (isNon x))) ρ1) : EV X (.Compare a [.Is] [.Constant .none j p2] pos) ρ Q :=
  ev_cmp op_isN (h.mono fun x ρ1 q => ev_none (do_isN q))
theorem ev_notN {j : Nat} {p2 : Pos} (h : EV X a ρ fun x ρ1 => Q (.d (.bool (!isNon x))) ρ1) : EV X (.Compare a [.IsNot] [.Constant .none j p2] pos) ρ Q :=
  ev_cmp op_notN (h.mono fun x ρ1 q => ev_none (do_notN q))
/-- x in xs, data of any depth (a list) -/
theorem do_inD {K : PySem.W.Frag} {x : D} {ys : List D} {Q : P → Prop} (hx : SeqAt.shaped x = true) (hy : SeqAt.shaped (.list ys) = true) (q : Q (.d (.bool (ys.any fun z => PyData.eqv z x)))) : DO K (rInD K) (.d x) (.d (.list ys)) Q :=
  do_of (fun F H v w Φ s r1 r2 k => ⟨x, ys, (dp_same s r1).dp, (dp_same s r2).dp, hx, hy, k _ rpB⟩) q
theorem do_notInD {K : PySem.W.Frag} {x : D} {ys : List D} {Q : P → Prop} (hx : SeqAt.shaped x = true) (hy : SeqAt.shaped (.list ys) = true) (q : Q (.d (.bool (!ys.any fun z => PyData.eqv z x)))) : DO K (rNotInD K) (.d x) (.d (.list ys)) Q :=
  do_of (fun F H v w Φ s r1 r2 k => ⟨x, ys, (dp_same s r1).dp, (dp_same s r2).dp, hx, hy, k _ rpB⟩) q
/-- a text in a tuple or a list of texts -/
theorem inV_strs {x : Str} : ∀ {ys : List Str}, inV (.str x) (ys.map V.str) = decide (x ∈ ys)
  | [] => by simp [inV]
  | y :: ys => by
    have ih := inV_strs (x := x) (ys := ys)
    unfold inV at ih ⊢
    rw [List.map_cons, List.any_cons, ih]
    by_cases c : y = x
    · subst c
      simp [eqV]
    · have e : eqV (V.str y) (V.str x) = false := by simp [eqV, c]
      rw [e]
      simp [Ne.symm c]
theorem flat_strs : ∀ {ys : List Str}, (ys.map V.str).all flatV = true
  | [] => rfl
  | y :: ys => by rw [List.map_cons, List.all_cons, flat_strs]; rfl
theorem do_inS {K : PySem.W.Frag} {neg : Bool} {x : Str} {y : D} {ys : List Str} {Q : P → Prop} (hy : y = .list (ys.map .str) ∨ y = .tuple (ys.map .str)) (q : Q (.d (.bool (if neg then !decide (x ∈ ys) else decide (x ∈ ys))))) : DO K (rIn K neg) (.d (.str x)) (.d y) Q :=
  do_of (fun F H v w Φ s r1 r2 k => by
    rw [rep_str r1]
    rcases hy with rfl | rfl
    · obtain ⟨a1, vs, rfl, s1, d1⟩ := rep_lst r2
      have e := d1.toStrs
      subst e
      refine ⟨a1, _, rfl, .inl (s.seq s1), rfl, flat_strs, k _ ?_⟩
      rw [inV_strs]
      exact .bl _
    · obtain ⟨a1, vs, rfl, s1, d1⟩ := rep_tup r2
      have e := d1.toStrs
      subst e
      refine ⟨a1, _, rfl, .inr (sqT_same s s1), rfl, flat_strs, k _ ?_⟩
      rw [inV_strs]
      exact rpB) q

/-! ### and, or, not, if -/
theorem ev_and {e : Expr} {es : List Expr} (h : EV X a ρ fun x ρ1 => ∃ c, x = .d (.bool c) ∧ if c = true then EV X (.BoolOp .And (e :: es) pos) ρ1 Q else Q (.d (.bool false)) ρ1) : EV X (.BoolOp .And (a :: e :: es) pos) ρ Q := fun Γ fp F σ H Φ t k pins s I =>
  (pe_and (tb := wE X _) pe_w pe_w).run pins s σ H Φ I (h Γ fp F σ H _ t fun v F1 H1 x ρ1 fp1 t1 f1 r1 ⟨c, ex, q⟩ => by
    subst ex
    refine ⟨c, rep_bool r1, ?_⟩
    cases c with
    | true => exact iteT (EV.mono (show EV X _ ρ1 Q from q) (fun _ _ q => q) Γ fp1 F1 σ H1 Φ t1 fun w F2 H2 y ρ2 fp2 t2 f2 r2 q2 => k w F2 H2 y ρ2 fp2 t2 (f1.trans f2) r2 q2)
    | false => exact iteF (k _ F1 H1 _ ρ1 fp1 t1 f1 rpB q))
theorem ev_or {e : Expr} {es : List Expr} (h : EV X a ρ fun x ρ1 => ∃ c, x = .d (.bool c) ∧ if c = true then Q (.d (.bool true)) ρ1 else EV X (.BoolOp .Or (e :: es) pos) ρ1 Q) : EV X (.BoolOp .Or (a :: e :: es) pos) ρ Q := fun Γ fp F σ H Φ t k pins s I =>
  (pe_or (tb := wE X _) pe_w pe_w).run pins s σ H Φ I (h Γ fp F σ H _ t fun v F1 H1 x ρ1 fp1 t1 f1 r1 ⟨c, ex, q⟩ => by
    subst ex
    refine ⟨c, rep_bool r1, ?_⟩
    cases c with
    | false => exact iteF (EV.mono (show EV X _ ρ1 Q from q) (fun _ _ q => q) Γ fp1 F1 σ H1 Φ t1 fun w F2 H2 y ρ2 fp2 t2 f2 r2 q2 => k w F2 H2 y ρ2 fp2 t2 (f1.trans f2) r2 q2)
    | true => exact iteT (k _ F1 H1 _ ρ1 fp1 t1 f1 rpB q))
theorem ev_one {op : BoolOp} (h : EV X a ρ Q) : EV X (.BoolOp op [a] pos) ρ Q := fun Γ fp F σ H Φ t k pins s I => (pe_one pe_w).run pins s σ H Φ I (h Γ fp F σ H _ t k)
theorem ev_not (h : EV X a ρ fun x ρ1 => ∃ c, x = .d (.bool c) ∧ Q (.d (.bool (!c))) ρ1) : EV X (.UnaryOp .Not a pos) ρ Q := fun Γ fp F σ H Φ t k pins s I =>
  (pe_not pe_w).run pins s σ H Φ I (h Γ fp F σ H _ t fun v F1 H1 x ρ1 fp1 t1 f1 r1 ⟨c, ex, q⟩ => by
    subst ex
    exact ⟨c, rep_bool r1, k _ F1 H1 _ ρ1 fp1 t1 f1 rpB q⟩)
theorem ev_neg (h : EV X a ρ fun x ρ1 => ∃ c, x = .d (.int c) ∧ Q (.d (.int (-c))) ρ1) : EV X (.UnaryOp .USub a pos) ρ Q := fun Γ fp F σ H Φ t k pins s I =>
  (pe_un un_neg pe_w).run pins s σ H Φ I (h Γ fp F σ H _ t fun v F1 H1 x ρ1 fp1 t1 f1 r1 ⟨c, ex, q⟩ => by
    subst ex
    exact ⟨c, rep_int r1, k _ F1 H1 _ ρ1 fp1 t1 f1 rpI q⟩)
section
variable {Qb : Bool → Ev → Prop}
theorem et_not (h : ET X a ρ fun c ρ1 => Qb (!c) ρ1) : ET X (.UnaryOp .Not a pos) ρ Qb := fun Γ fp F σ H Φ t k pins s I => (pt_not pt_w).run pins s σ H Φ I (h Γ fp F σ H _ t fun b F1 H1 ρ1 fp1 t1 f1 q => k (!b) F1 H1 ρ1 fp1 t1 f1 q)
theorem EW.et (h : EW X a ρ Qb) : ET X a ρ Qb := fun Γ fp F σ H Φ t k pins s I => pw_w.pt.run pins s σ H Φ I (h Γ fp F σ H _ t k)
theorem ew_and1 (h : ET X a ρ Qb) : EW X (.BoolOp .And [a] pos) ρ Qb := fun Γ fp F σ H Φ t k wh pins s I => (pw_and1 pt_w).run wh pins s σ H Φ I (h Γ fp F σ H _ t k)
theorem ew_or1 (h : ET X a ρ Qb) : EW X (.BoolOp .Or [a] pos) ρ Qb := fun Γ fp F σ H Φ t k wh pins s I => (pw_or1 pt_w).run wh pins s σ H Φ I (h Γ fp F σ H _ t k)
theorem ew_and {e : Expr} {es : List Expr} (h : ET X a ρ fun c ρ1 => if c = true then EW X (.BoolOp .And (e :: es) pos) ρ1 Qb else Qb false ρ1) : EW X (.BoolOp .And (a :: e :: es) pos) ρ Qb := fun Γ fp F σ H Φ t k wh pins s I =>
  (pw_and (tB' := wW X _) pt_w pw_w).run wh pins s σ H Φ I (h Γ fp F σ H _ t fun c F1 H1 ρ1 fp1 t1 f1 q => by
    cases c with
    | true => exact iteT ((show EW X _ ρ1 Qb from q) Γ fp1 F1 σ H1 Φ t1 fun w F2 H2 ρ2 fp2 t2 f2 q2 => k w F2 H2 ρ2 fp2 t2 (f1.trans f2) q2)
    | false => exact iteF (k _ F1 H1 ρ1 fp1 t1 f1 q))
theorem ew_or {e : Expr} {es : List Expr} (h : ET X a ρ fun c ρ1 => if c = true then Qb true ρ1 else EW X (.BoolOp .Or (e :: es) pos) ρ1 Qb) : EW X (.BoolOp .Or (a :: e :: es) pos) ρ Qb := fun Γ fp F σ H Φ t k wh pins s I =>
  (pw_or (tB' := wW X _) pt_w pw_w).run wh pins s σ H Φ I (h Γ fp F σ H _ t fun c F1 H1 ρ1 fp1 t1 f1 q => by
    cases c with
    | false => exact iteF ((show EW X _ ρ1 Qb from q) Γ fp1 F1 σ H1 Φ t1 fun w F2 H2 ρ2 fp2 t2 f2 q2 => k w F2 H2 ρ2 fp2 t2 (f1.trans f2) q2)
    | true => exact iteT (k _ F1 H1 ρ1 fp1 t1 f1 q))
theorem ev_ifExp {c : Expr} (h : ET X c ρ fun z ρ1 => if z = true then EV X a ρ1 Q else EV X b ρ1 Q) : EV X (.IfExp c a b pos) ρ Q := fun Γ fp F σ H Φ t k pins s I =>
  (pe_ifExp pt_w pe_w pe_w).run pins s σ H Φ I (h Γ fp F σ H _ t fun z F1 H1 ρ1 fp1 t1 f1 q => by
    cases z with
    | true => exact iteT ((show EV X _ ρ1 Q from q) Γ fp1 F1 σ H1 Φ t1 fun w F2 H2 y ρ2 fp2 t2 f2 r2 q2 => k w F2 H2 y ρ2 fp2 t2 (f1.trans f2) r2 q2)
    | false => exact iteF ((show EV X _ ρ1 Q from q) Γ fp1 F1 σ H1 Φ t1 fun w F2 H2 y ρ2 fp2 t2 f2 r2 q2 => k w F2 H2 y ρ2 fp2 t2 (f1.trans f2) r2 q2))
/-- a op1 b op2 c -/
theorem ev_chainI {c : Expr} {op op' : CmpOp} {g g' : Int → Int → Bool} (ho : OpR X (compareOp op) (rI0 fun i j => .bl (g i j))) (ho' : OpR X (compareOp op') (rI0 fun i j => .bl (g' i j)))
    (h : EV X a ρ fun x ρ1 => EV X b ρ1 fun y ρ2 => ∃ i j, x = .d (.int i) ∧ y = .d (.int j) ∧ if g i j = true then EV X c ρ2 fun z ρ3 => ∃ l, z = .d (.int l) ∧ Q (.d (.bool (g' j l))) ρ3 else Q (.d (.bool false)) ρ2)
    (hm : lastMarks [op, op'] [b, c] = false := by with_unfolding_all rfl) : EV X (.Compare a [op, op'] [b, c] pos) ρ Q := fun Γ fp F σ H Φ t k pins s I =>
  (pe_chain ho ho' pe_w pe_w pe_w hm).run pins s σ H Φ I (h Γ fp F σ H _ t fun v F1 H1 x ρ1 fp1 t1 f1 r1 h1 => h1 Γ fp1 F1 σ H1 _ t1 fun w F2 H2 y ρ2 fp2 t2 f2 r2 ⟨i, j, ex, ey, q⟩ => by
    subst ex ey
    have e1 := rep_int r1
    have e2 := rep_int r2
    subst e1 e2
    refine ⟨i, j, rfl, rfl, g i j, rfl, ?_⟩
    cases hg : g i j with
    | true =>
      rw [hg] at q
      refine iteT ((show EV X c ρ2 _ from q) Γ fp2 F2 σ H2 _ t2 fun w F3 H3 z ρ3 fp3 t3 f3 r3 ⟨l, ez, q3⟩ => ?_)
      subst ez
      exact ⟨j, l, rfl, rep_int r3, k _ F3 H3 _ ρ3 fp3 t3 ((f1.trans f2).trans f3) rpB q3⟩
    | false =>
      rw [hg] at q
      exact iteF (k _ F2 H2 _ ρ2 fp2 t2 (f1.trans f2) rpB q))
theorem et_chainI {c : Expr} {op op' : CmpOp} {g g' : Int → Int → Bool} (ho : OpR X (compareOp op) (rI0 fun i j => .bl (g i j))) (ho' : OpR X (compareOp op') (rI0 fun i j => .bl (g' i j)))
    (h : EV X a ρ fun x ρ1 => EV X b ρ1 fun y ρ2 => ∃ i j, x = .d (.int i) ∧ y = .d (.int j) ∧ if g i j = true then EV X c ρ2 fun z ρ3 => ∃ l, z = .d (.int l) ∧ Qb (g' j l) ρ3 else Qb false ρ2)
    (hm : lastMarks [op, op'] [b, c] = false := by with_unfolding_all rfl) : ET X (.Compare a [op, op'] [b, c] pos) ρ Qb := fun Γ fp F σ H Φ t k pins s I =>
  (pt_chain ho ho' pe_w pe_w pe_w hm).run pins s σ H Φ I (h Γ fp F σ H _ t fun v F1 H1 x ρ1 fp1 t1 f1 r1 h1 => h1 Γ fp1 F1 σ H1 _ t1 fun w F2 H2 y ρ2 fp2 t2 f2 r2 ⟨i, j, ex, ey, q⟩ => by
    subst ex ey
    have e1 := rep_int r1
    have e2 := rep_int r2
    subst e1 e2
    refine ⟨i, j, rfl, rfl, g i j, rfl, ?_⟩
    cases hg : g i j with
    | true =>
      rw [hg] at q
      refine iteT ((show EV X c ρ2 _ from q) Γ fp2 F2 σ H2 _ t2 fun w F3 H3 z ρ3 fp3 t3 f3 r3 ⟨l, ez, q3⟩ => ?_)
      subst ez
      exact ⟨j, l, rfl, rep_int r3, _, rfl, k _ F3 H3 ρ3 fp3 t3 ((f1.trans f2).trans f3) q3⟩
    | false =>
      rw [hg] at q
      exact iteF ⟨_, rfl, k _ F2 H2 ρ2 fp2 t2 (f1.trans f2) q⟩)
end

/-! ### arguments, displays -/
section
variable {Qa : List P → Ev → Prop} {e : Expr} {es : List Expr}
theorem ea_nil (q : Qa [] ρ) : EA X [] ρ Qa := fun Γ fp F σ H Φ t k pos pins s I => pa_nil.run pos pins s σ H Φ I (k [] F H [] ρ fp t (Same.refl _) .nil q)
theorem ea_cons (h : EV X e ρ fun x ρ1 => EA X es ρ1 fun xs ρ2 => Qa (x :: xs) ρ2) (hs : starEach (e :: es) X.env = (false, eval e X.env) :: starEach es X.env := by rfl) : EA X (e :: es) ρ Qa := fun Γ fp F σ H Φ t k pos pins s I =>
  (pa_cons pe_w pa_w hs).run pos pins s σ H Φ I (h Γ fp F σ H _ t fun v F1 H1 x ρ1 fp1 t1 f1 r1 h1 => h1 Γ fp1 F1 σ H1 _ t1 fun vs F2 H2 xs ρ2 fp2 t2 f2 r2 q =>
    k (v :: vs) F2 H2 (x :: xs) ρ2 fp2 t2 (f1.trans f2) (.cons (rep_same f2 r1) r2) q)
theorem EA.mono {Qa' : List P → Ev → Prop} (h : EA X es ρ Qa) (hq : ∀ p ρ', Qa p ρ' → Qa' p ρ') : EA X es ρ Qa' := fun Γ fp F σ H Φ t k =>
  h Γ fp F σ H Φ t fun v F' H' p ρ' fp' t' f r q => k v F' H' p ρ' fp' t' f r (hq _ _ q)
theorem reps_d {K : PySem.W.Frag} {F : Hp} : ∀ {vs : List V} {ds : List D}, Reps K F vs (ds.map P.d) → DqAll F vs ds
  | _, [], .nil => .nil
  | _, d :: ds, .cons a b => .cons a (reps_d b)
theorem ev_tup {x1} (h : EA X es ρ fun ps ρ1 => ∃ ds, ps = List.map P.d ds ∧ ds.length ≤ 100000 ∧ Q (.d (.tuple ds)) ρ1) : EV X (.Tuple es x1 pos) ρ Q := fun Γ fp F σ H Φ t k pins s I =>
  (pe_tup pa_w).run pins s σ H Φ I (h Γ fp F σ H _ t fun vs F1 H1 ps ρ1 fp1 t1 f1 r1 ⟨ds, ep, hl, q⟩ => by
    subst ep
    have r := reps_d r1
    refine ⟨by rw [r.len]; exact small5 hl, fun p hp => ?_⟩
    have g := Gr.new (o := .tup vs) t1.ex hp
    exact k _ _ _ _ ρ1 fp1 (t1.grow g) (f1.trans g.f) (rpT upd_same (dpAll_same g.f r)) q)
theorem en_fin {K : PySem.W.Frag} {Γ : Anc} {fp : Nat → List Addr} {F H : Hp} {σ : L2.St} {ρ : Ev} (t : Stt K Γ ρ fp F σ H) {p : Addr} (hp : H p = none) (o : HO) : Stt K Γ ρ fp F σ (upd H p o) ∧ F p = none ∧ Γ.H p = none ∧ ∀ i, p ∉ fp i :=
  ⟨t.grow (Gr.lay t.ex hp), none_of t.ex hp, by
    cases q : Γ.H p with
    | none => rfl
    | some o => exact absurd hp (t.thr p (by rw [q]; simp)), fun i hi => (t.own i p hi).2.1 hp⟩
variable {Qn : List D → Ev → Prop}
theorem en_lst (h : EA X es ρ fun ps ρ1 => ∃ ds, ps = List.map P.d ds ∧ ds.length ≤ 100000 ∧ Qn ds ρ1) : EN X (.List es pos) ρ Qn := fun Γ fp F σ H Φ t k pins s I =>
  (pe_lst pa_w).run pins s σ H Φ I (h Γ fp F σ H _ t fun vs F1 H1 ps ρ1 fp1 t1 f1 r1 ⟨ds, ep, hl, q⟩ => by
    subst ep
    have r := reps_d r1
    refine ⟨by rw [r.len]; exact small5 hl, fun p hp => ?_⟩
    obtain ⟨t2, n1, n2, n3⟩ := en_fin t1 hp (.lst vs)
    exact k p vs F1 _ ds ρ1 fp1 t2 f1 n1 upd_same r n2 n3 q)
end

/-! ### subscripts, slices -/
theorem atI_data {F : Hp} {vs : List V} {ds : List D} {i : Int} {z : D} (h : DqAll F vs ds) (e : atI ds i = some z) : ∃ v, atI vs i = some v ∧ Dq F v z := by
  obtain ⟨j, h1, h2, h3, h4, h5⟩ := atI_get e
  obtain ⟨v, h6, h7⟩ := h.get h2
  refine ⟨v, ?_, h7⟩
  unfold atI at e ⊢
  rw [h.len]
  cases q : ixN ds.length i with
  | none => rw [q] at e; cases e
  | some j' =>
    rw [q] at e
    have e' : ds[j']? = some z := e
    have e1 := (ixN_seq q).1
    rw [h1] at e1
    cases e1
    exact h6
theorem do_ix {K : PySem.W.Frag} {x z : D} {i : Int} {Q : P → Prop} (hx : (∃ ds, x = .list ds ∧ atI ds i = some z) ∨ (∃ ds, x = .tuple ds ∧ atI ds i = some z) ∨ ∃ (y : Str) (c : Nat), x = .str y ∧ y.length ≤ 100000 ∧ atI y.cps.toList i = some c ∧ z = .str ⟨#[c]⟩) (q : Q (.d z)) : DO K (rIx K) (.d x) (.d (.int i)) Q :=
  do_of (fun F H v w Φ s r1 r2 k => by
    rw [rep_int r2]
    rcases hx with ⟨ds, rfl, e⟩ | ⟨ds, rfl, e⟩ | ⟨y, c, rfl, hl, e, rfl⟩
    · obtain ⟨a1, vs, rfl, s1, d1⟩ := rep_lst r1
      obtain ⟨u, h1, h2⟩ := atI_data d1 e
      exact .inl ⟨a1, vs, i, u, rfl, rfl, s.seq s1, h1, k u h2⟩
    · obtain ⟨a1, vs, rfl, s1, d1⟩ := rep_tup r1
      obtain ⟨u, h1, h2⟩ := atI_data d1 e
      exact .inr (.inl ⟨a1, vs, i, u, rfl, rfl, sqT_same s s1, h1, k u h2⟩)
    · rw [rep_str r1]
      exact .inr (.inr ⟨y, i, c, rfl, rfl, small5 hl, e, k _ rpS⟩)) q
theorem ev_ix (h : EV X a ρ fun x ρ1 => EV X b ρ1 fun y ρ2 => ∃ d i z, x = .d d ∧ y = .d (.int i) ∧ ((∃ ds, d = .list ds ∧ atI ds i = some z) ∨ (∃ ds, d = .tuple ds ∧ atI ds i = some z) ∨ ∃ (y : Str) (c : Nat), d = .str y ∧ y.length ≤ 100000 ∧ atI y.cps.toList i = some c ∧ z = .str ⟨#[c]⟩) ∧ Q (.d z) ρ2)
    (hs : PlainIx b := by exact fun _ _ => rfl) : EV X (.Subscript a b pos) ρ Q := fun Γ fp F σ H Φ t k pins s I =>
  (pe_ix ix_seq pe_w pe_w hs).run pins s σ H Φ I (h Γ fp F σ H _ t fun v F1 H1 x ρ1 fp1 t1 f1 r1 h1 => h1 Γ fp1 F1 σ H1 _ t1 fun w F2 H2 y ρ2 fp2 t2 f2 r2 ⟨d, i, z, ex, ey, hx, q⟩ => by
    subst ex ey
    exact do_ix (Q := fun z => Q z ρ2) hx q F2 H2 v w Φ t2.ex (rep_same f2 r1) r2 fun u F3 H3 z g r3 q => k u F3 H3 z ρ2 fp2 (t2.grow g) ((f1.trans f2).trans g.f) r3 q)
section
variable {Qo : Option Int → Ev → Prop} {lo hi : Option Expr} {p2 : Pos}
theorem eo_none (q : Qo none ρ) : EO X none ρ Qo := fun Γ fp F σ H Φ t k pins s I => po_none.run pins s σ H Φ I (k none F H ρ fp t (Same.refl _) q)
theorem eo_some {e : Expr} (h : EV X e ρ fun x ρ1 => ∃ i, x = .d (.int i) ∧ Qo (some i) ρ1) : EO X (some e) ρ Qo := fun Γ fp F σ H Φ t k pins s I =>
  (po_some pe_w).run pins s σ H Φ I (h Γ fp F σ H _ t fun v F1 H1 x ρ1 fp1 t1 f1 r1 ⟨i, ex, q⟩ => by
    subst ex
    exact ⟨i, rep_int r1, k (some i) F1 H1 ρ1 fp1 t1 f1 q⟩)
/-- what is cut of data -/
def cutD (xs : List D) (lo hi : Option Int) : List D := (xs.drop (HT.sIx xs.length 0 lo)).take (HT.sIx xs.length xs.length hi - HT.sIx xs.length 0 lo)
theorem cut_data {F : Hp} {vs : List V} {ds : List D} {lo hi : Option Int} (h : DqAll F vs ds) : DqAll F (cutV vs lo hi) (cutD ds lo hi) := by
  unfold cutV cutD
  rw [h.len]
  exact DqAll.take _ (DqAll.drop _ h)
theorem ev_slT (h : EV X a ρ fun x ρ1 => EO X lo ρ1 fun l ρ2 => EO X hi ρ2 fun u ρ3 => ∃ ds, x = .d (.tuple ds) ∧ Q (.d (.tuple (cutD ds l u))) ρ3) : EV X (.Subscript a (.Slice lo hi none p2) pos) ρ Q := fun Γ fp F σ H Φ t k pins s I =>
  (pe_slice sl_tupA pe_w po_w po_w).run pins s σ H Φ I (h Γ fp F σ H _ t fun v F1 H1 x ρ1 fp1 t1 f1 r1 h1 => h1 Γ fp1 F1 σ H1 _ t1 fun l F2 H2 ρ2 fp2 t2 f2 h2 => h2 Γ fp2 F2 σ H2 _ t2 fun u F3 H3 ρ3 fp3 t3 f3 ⟨ds, ex, q⟩ => by
    subst ex
    obtain ⟨a1, vs, rfl, s1, d1⟩ := rep_tupX (rep_same f3 (rep_same f2 r1))
    refine ⟨a1, vs, rfl, SqT.of (t3.ex _ _ s1), fun hw => ?_, fun _ p hp => ?_⟩
    · have e : cutD ds l u = ds := by
        unfold cutD
        rw [← d1.len, hw.1, hw.2, List.drop_zero, Nat.sub_zero, d1.len, List.take_length]
      rw [e] at q
      exact k _ F3 H3 _ ρ3 fp3 t3 ((f1.trans f2).trans f3) (rpT s1 d1) q
    · have g := Gr.new (o := .tup (cutV vs l u)) t3.ex hp
      exact k _ _ _ _ ρ3 fp3 (t3.grow g) (((f1.trans f2).trans f3).trans g.f) (rpT upd_same (dpAll_same g.f (cut_data d1))) q)
theorem en_slL {Qn : List D → Ev → Prop} (h : EV X a ρ fun x ρ1 => EO X lo ρ1 fun l ρ2 => EO X hi ρ2 fun u ρ3 => ∃ ds, x = .d (.list ds) ∧ Qn (cutD ds l u) ρ3) : EN X (.Subscript a (.Slice lo hi none p2) pos) ρ Qn := fun Γ fp F σ H Φ t k pins s I =>
  (pe_slice sl_list pe_w po_w po_w).run pins s σ H Φ I (h Γ fp F σ H _ t fun v F1 H1 x ρ1 fp1 t1 f1 r1 h1 => h1 Γ fp1 F1 σ H1 _ t1 fun l F2 H2 ρ2 fp2 t2 f2 h2 => h2 Γ fp2 F2 σ H2 _ t2 fun u F3 H3 ρ3 fp3 t3 f3 ⟨ds, ex, q⟩ => by
    subst ex
    obtain ⟨a1, vs, rfl, s1, d1⟩ := rep_lst (rep_same f3 (rep_same f2 r1))
    refine ⟨a1, vs, rfl, t3.ex.seq s1, fun p hp => ?_⟩
    obtain ⟨t4, n1, n2, n3⟩ := en_fin t3 hp (.lst (cutV vs l u))
    exact k p _ F3 _ _ ρ3 fp3 t4 ((f1.trans f2).trans f3) n1 upd_same (cut_data d1) n2 n3 q)
end
/-- xs + ys, a new list (the two as they stand, fixed) -/
theorem SqL_rd {H : Hp} {a : Addr} {vs : List V} {K : PySem.W.Frag} (h : H a = some (.lst vs)) : SqL K H a vs := SqL.of h
end
end DL
end PartDL2
section PartDL3
set_option maxRecDepth 100000
set_option maxHeartbeats 2000000
/-! DL3: calls, attributes, targets, comprehensions. -/
namespace DL
open PySem PySem.Spec PyProof.Rows L2
section
variable {X : Cx} {ρ : Ev} {Q : P → Ev → Prop} {pos p : Pos} {a b e : Expr} {es : List Expr} {x : Str} {K : PySem.W.Frag}

/-! ### lists glued, any two -/
def rCatS (K : PySem.W.Frag) : R2 := fun x y H Q => ∃ l b xs zs, x = .ref l ∧ y = .ref b ∧ SqL K H l xs ∧ SqL K H b zs ∧ xs.length + zs.length ≤ sizeLine ∧ ∀ p, H p = none → Q (.ref p) (upd H p (.lst (xs ++ zs)))
theorem op_catS : OpR X (binaryOp .Add) (rCatS X.K) := by
  intro pins s σ H x y v u Q I rx ry h
  obtain ⟨l, b, xs, zs, rfl, rfl, hH, hB, hz, q⟩ := h
  cases rx
  cases ry
  obtain ⟨its, r, ⟨⟨c1, d1, da1, sl1⟩, n, e, ec, ed, eda⟩, z⟩ := I.list hH
  obtain ⟨its2, r2, ⟨⟨c2, d2, da2, sl2⟩, n2, e2, ec2, ed2, eda2⟩, z2⟩ := I.list hB
  simp only at ec ed eda ec2 ed2 eda2
  subst ec ed eda ec2 ed2 eda2
  have hl := r.length
  have hl2 := r2.length
  have ea : its.toArray ++ its2.toArray = (its ++ its2).toArray := by simp
  refine concat_meets ⟨_, e, rfl⟩ ⟨_, e2, rfl⟩ noFill_list_add seq_list_add PySem.F.slot_list_add PySem.F.entry_list_add (PySem.F.args_list_add_2 _ _) (list_addW l b its.toArray its2.toArray n n2 none none sl1 sl2 (by rw [List.size_toArray, List.size_toArray]; omega)) ⟨e, e2, ?_⟩
  rw [ea]
  exact ⟨.ref _, _, I.lnew (t' := s.toks) (r.append r2) (by rw [List.length_append]; omega), rfl, q _ I.fresh⟩
section
variable {Qn : List D → Ev → Prop}
theorem en_cat (h : EV X a ρ fun x ρ1 => EV X b ρ1 fun y ρ2 => ∃ xs ys, x = .d (.list xs) ∧ y = .d (.list ys) ∧ xs.length + ys.length ≤ 100000 ∧ Qn (xs ++ ys) ρ2) : EN X (.BinOp a .Add b pos) ρ Qn := fun Γ fp F σ H Φ t k pins s I =>
  (pe_op op_catS pe_w pe_w).run pins s σ H Φ I (h Γ fp F σ H _ t fun v F1 H1 x ρ1 fp1 t1 f1 r1 h1 => h1 Γ fp1 F1 σ H1 _ t1 fun w F2 H2 y ρ2 fp2 t2 f2 r2 ⟨xs, ys, ex, ey, hl, q⟩ => by
    subst ex ey
    obtain ⟨a1, vs, rfl, s1, d1⟩ := rep_lst (rep_same f2 r1)
    obtain ⟨a2, ws, rfl, s2, d2⟩ := rep_lst r2
    refine ⟨a1, a2, vs, ws, rfl, rfl, t2.ex.seq s1, t2.ex.seq s2, by rw [d1.len, d2.len]; exact small5 hl, fun p hp => ?_⟩
    obtain ⟨t3, n1, n2, n3⟩ := en_fin t2 hp (.lst (vs ++ ws))
    exact k p _ F2 _ _ ρ2 fp2 t3 (f1.trans f2) n1 upd_same (DqAll.app d1 d2) n2 n3 q)

/-! ### built-in calls -/
theorem ev_callB {id : String} {r : List V → Hp → VK → Prop} (hc : CallR X (.builtin id) r) (hm : X.mg x = none) (h : EA X (e :: es) ρ fun ps ρ1 => DC X.K r ps fun z => Q z ρ1) (hv : bootBuiltins x = some (.builtin id) := by decide +kernel) (hg : Gl X x := by rfl)
    (hn : x ≠ "__name__" := by decide) (hdb : (x == ("__debug__" : Str)) = false := by decide) (he : starEach (e :: es) X.env = (false, eval e X.env) :: starEach es X.env := by rfl) (hpl : (backTo pos (starEach es X.env)).any (·.1) = false := by rfl) :
    EV X (.Call (.Name x p) (e :: es) [] pos) ρ Q := fun Γ fp F σ H Φ t k pins s I =>
  (pe_callB hc hg hm hv pa_w hn hdb he hpl).run pins s σ H Φ I (h Γ fp F σ H _ t fun vs F1 H1 ps ρ1 fp1 t1 f1 r1 d => d F1 H1 vs Φ t1.ex r1 fun u F2 H2 z g r2 q => k u F2 H2 z ρ1 fp1 (t1.grow g) (f1.trans g.f) r2 q)
theorem ev_callTy {T : String} {r : List V → Hp → VK → Prop} (hc : CallR X (.type T) r) (hm : X.mg x = none) (h : EA X (e :: es) ρ fun ps ρ1 => DC X.K r ps fun z => Q z ρ1) (hv : bootBuiltins x = some (.type T) := by decide +kernel) (hg : Gl X x := by rfl)
    (hn : x ≠ "__name__" := by decide) (hdb : (x == ("__debug__" : Str)) = false := by decide) (he : starEach (e :: es) X.env = (false, eval e X.env) :: starEach es X.env := by rfl) (hpl : (backTo pos (starEach es X.env)).any (·.1) = false := by rfl) :
    EV X (.Call (.Name x p) (e :: es) [] pos) ρ Q := fun Γ fp F σ H Φ t k pins s I =>
  (pe_callTy hc hg hm hv pa_w hn hdb he hpl).run pins s σ H Φ I (h Γ fp F σ H _ t fun vs F1 H1 ps ρ1 fp1 t1 f1 r1 d => d F1 H1 vs Φ t1.ex r1 fun u F2 H2 z g r2 q => k u F2 H2 z ρ1 fp1 (t1.grow g) (f1.trans g.f) r2 q)
/-- a new list as what a call makes -/
def DN (K : PySem.W.Frag) (r : List V → Hp → VK → Prop) (ps : List P) (Qn : List D → Prop) : Prop := ∀ (F H : Hp) (vs : List V) (Φ : VK), Same F H → Reps K F vs ps → (∀ p ws ds, H p = none → DqAll F ws ds → Qn ds → Φ (.ref p) (upd H p (.lst ws))) → r vs H Φ
theorem en_callB {id : String} {r : List V → Hp → VK → Prop} (hc : CallR X (.builtin id) r) (hm : X.mg x = none) (h : EA X (e :: es) ρ fun ps ρ1 => DN X.K r ps fun z => Qn z ρ1) (hv : bootBuiltins x = some (.builtin id) := by decide +kernel) (hg : Gl X x := by rfl)
    (hn : x ≠ "__name__" := by decide) (hdb : (x == ("__debug__" : Str)) = false := by decide) (he : starEach (e :: es) X.env = (false, eval e X.env) :: starEach es X.env := by rfl) (hpl : (backTo pos (starEach es X.env)).any (·.1) = false := by rfl) :
    EN X (.Call (.Name x p) (e :: es) [] pos) ρ Qn := fun Γ fp F σ H Φ t k pins s I =>
  (pe_callB hc hg hm hv pa_w hn hdb he hpl).run pins s σ H Φ I (h Γ fp F σ H _ t fun vs F1 H1 ps ρ1 fp1 t1 f1 r1 d => d F1 H1 vs Φ t1.ex r1 fun p ws ds hp r2 q => by
    obtain ⟨t3, n1, n2, n3⟩ := en_fin t1 hp (.lst ws)
    exact k p ws F1 _ ds ρ1 fp1 t3 f1 n1 upd_same r2 n2 n3 q)
theorem en_callTy {T : String} {r : List V → Hp → VK → Prop} (hc : CallR X (.type T) r) (hm : X.mg x = none) (h : EA X (e :: es) ρ fun ps ρ1 => DN X.K r ps fun z => Qn z ρ1) (hv : bootBuiltins x = some (.type T) := by decide +kernel) (hg : Gl X x := by rfl)
    (hn : x ≠ "__name__" := by decide) (hdb : (x == ("__debug__" : Str)) = false := by decide) (he : starEach (e :: es) X.env = (false, eval e X.env) :: starEach es X.env := by rfl) (hpl : (backTo pos (starEach es X.env)).any (·.1) = false := by rfl) :
    EN X (.Call (.Name x p) (e :: es) [] pos) ρ Qn := fun Γ fp F σ H Φ t k pins s I =>
  (pe_callTy hc hg hm hv pa_w hn hdb he hpl).run pins s σ H Φ I (h Γ fp F σ H _ t fun vs F1 H1 ps ρ1 fp1 t1 f1 r1 d => d F1 H1 vs Φ t1.ex r1 fun p ws ds hp r2 q => by
    obtain ⟨t3, n1, n2, n3⟩ := en_fin t1 hp (.lst ws)
    exact k p ws F1 _ ds ρ1 fp1 t3 f1 n1 upd_same r2 n2 n3 q)
theorem dc_of {r : List V → Hp → VK → Prop} {ps : List P} {z : P} {Q : P → Prop} (h : ∀ (F H : Hp) (vs : List V) (Φ : VK), Same F H → Reps K F vs ps → (∀ u, Rep K F u z → Φ u H) → r vs H Φ) (q : Q z) : DC K r ps Q := fun F H vs Φ s r1 k =>
  h F H vs Φ s r1 fun u ru => k u F H z (Gr.refl s) ru q
theorem reps1 {F : Hp} {vs : List V} {p : P} (h : Reps K F vs [p]) : ∃ v, vs = [v] ∧ Rep K F v p := by
  cases h with
  | cons a b =>
    cases b
    exact ⟨_, rfl, a⟩
theorem reps2 {F : Hp} {vs : List V} {p q : P} (h : Reps K F vs [p, q]) : ∃ v w, vs = [v, w] ∧ Rep K F v p ∧ Rep K F w q := by
  cases h with
  | cons a b =>
    obtain ⟨w, rfl, h2⟩ := reps1 b
    exact ⟨_, _, rfl, a, h2⟩
/-- how long data are -/
def dlen : D → Option Nat
  | .list ds => some ds.length
  | .tuple ds => some ds.length
  | .str s => if s.length ≤ 100000 then some s.length else none
  | _ => none
theorem dc_len {d : D} {n : Nat} {Q : P → Prop} (hn : dlen d = some n) (q : Q (.d (.int n))) : DC K (fun xs H Q => ∃ x n, xs = [x] ∧ LenV K x H n ∧ Q (.int n) H) [.d d] Q := dc_of (fun F H vs Φ s r k => by
  obtain ⟨v, rfl, r1⟩ := reps1 r
  refine ⟨v, n, rfl, ?_, k _ rpI⟩
  cases d with
  | list ds =>
    obtain ⟨a1, ws, rfl, s1, d1⟩ := rep_lst r1
    cases hn
    exact .inl ⟨ws, s.seq s1, d1.len.symm⟩
  | tuple ds =>
    obtain ⟨a1, ws, rfl, s1, d1⟩ := rep_tup r1
    cases hn
    exact .inr ⟨ws, sqT_same s s1, d1.len.symm⟩
  | str z =>
    rw [rep_str r1]
    have hn : (if z.length ≤ 100000 then some z.length else none) = some n := hn
    by_cases c : z.length ≤ 100000
    · rw [if_pos c] at hn
      cases hn
      exact ⟨small5 c, rfl⟩
    · rw [if_neg c] at hn
      cases hn
  | _ => cases hn) q
theorem ev_len (hm : X.mg "len" = none) (h : EV X a ρ fun y ρ1 => ∃ d n, y = .d d ∧ dlen d = some n ∧ Q (.d (.int n)) ρ1) (hg : Gl X "len" := by rfl) (he : starEach [a] X.env = (false, eval a X.env) :: starEach [] X.env := by rfl) (hpl : (backTo pos (starEach [] X.env)).any (·.1) = false := by rfl) : EV X (.Call (.Name "len" p) [a] [] pos) ρ Q :=
  ev_callB call_len hm (ea_cons (h.mono fun y ρ1 ⟨d, n, ey, hn, q⟩ => ea_nil (by subst ey; exact dc_len hn q)) he) PySem.boot_len hg (by decide) (by decide) he hpl
/-- sum of a list or a tuple of ints -/
def rSumA (K : PySem.W.Frag) : List V → Hp → VK → Prop := fun vs H Q => ∃ (a : Addr) (ns : List Int), vs = [V.ref a] ∧ (SqL K H a (ns.map V.int) ∨ SqT K H a (ns.map V.int)) ∧ Q (.int ns.sum) H
theorem cr_sumA (hc : X.calm = true) : CallR X (.builtin "sum") (rSumA X.K) := by
  intro pins s σ H vs us Q I r h
  obtain ⟨a, ns, rfl, hs | hs, q⟩ := h
  · exact cr_sum hc pins s σ H _ us Q I r ⟨a, ns, rfl, hs, q⟩
  · obtain ⟨its, rv, ht, _⟩ := I.tuple hs
    rw [Vals.ref1 r]
    have hi := rv.ints
    obtain ⟨xs, e⟩ := hi.allInts.items
    have hn : numsOf (intItems xs).toList = ns := by rw [← e]; exact hi.numsOf
    rw [nums_intItems] at hn
    have ht' : s.heap.IsTuple a its.toArray := ht
    rw [e] at ht'
    refine PySem.W.ktm_sumG (I.ok.hd hc) ht' fun h' tk t' hk => ?_
    rw [preSum_eq, List.take_of_length_le (by simp), hn]
    exact ⟨.int _, H, I.kept hk, ⟨_, rfl⟩, q⟩
theorem ev_sum (hc : X.calm = true) (hm : X.mg "sum" = none) (h : EV X a ρ fun y ρ1 => ∃ ns : List Int, (y = .d (.list (ns.map .int)) ∨ y = .d (.tuple (ns.map .int))) ∧ Q (.d (.int ns.sum)) ρ1) (hg : Gl X "sum" := by rfl) (he : starEach [a] X.env = (false, eval a X.env) :: starEach [] X.env := by rfl) (hpl : (backTo pos (starEach [] X.env)).any (·.1) = false := by rfl) : EV X (.Call (.Name "sum" p) [a] [] pos) ρ Q :=
  ev_callB (cr_sumA hc) hm (ea_cons (h.mono fun y ρ1 ⟨ns, ey, q⟩ => ea_nil (dc_of (fun F H vs Φ s r k => by
    obtain ⟨v, rfl, r1⟩ := reps1 r
    rcases ey with rfl | rfl
    · obtain ⟨a1, ws, rfl, s1, d1⟩ := rep_lst r1
      have e1 := d1.toInts
      subst e1
      exact ⟨a1, ns, rfl, .inl (s.seq s1), k _ rpI⟩
    · obtain ⟨a1, ws, rfl, s1, d1⟩ := rep_tup r1
      have e1 := d1.toInts
      subst e1
      exact ⟨a1, ns, rfl, .inr (sqT_same s s1), k _ rpI⟩) q)) he) (by decide +kernel) hg (by decide) (by decide) he hpl
/-- max of a list or a tuple of ints -/
def rMaxA (K : PySem.W.Frag) : List V → Hp → VK → Prop := fun vs H Q => ∃ (a : Addr) (ns : List Int), vs = [V.ref a] ∧ (SqL K H a (ns.map V.int) ∨ SqT K H a (ns.map V.int)) ∧ 0 < ns.length ∧ ∀ m, m ∈ ns → (∀ y, y ∈ ns → y ≤ m) → Q (.int m) H
theorem foldl_max : ∀ (ns : List Int) (n : Int), (ns.foldl max n = n ∨ ns.foldl max n ∈ ns) ∧ n ≤ ns.foldl max n ∧ ∀ y ∈ ns, y ≤ ns.foldl max n
  | [], n => ⟨.inl rfl, Int.le_refl _, fun _ h => nomatch h⟩
  | a :: r, n => by
    obtain ⟨h1, h2, h3⟩ := foldl_max r (max n a)
    rw [List.foldl_cons]
    refine ⟨?_, by omega, fun y hy => ?_⟩
    · rcases h1 with h1 | h1
      · by_cases c : n ≤ a
        · rw [h1, Int.max_eq_right c]
          exact .inr List.mem_cons_self
        · rw [h1, Int.max_eq_left (by omega)]
          exact .inl rfl
      · exact .inr (List.mem_cons_of_mem _ h1)
    · rcases List.mem_cons.mp hy with rfl | hy
      · omega
      · exact h3 y hy
theorem cr_maxA (hc : X.calm = true) (hu : X.A.units + 64 < cLine) : CallR X (.builtin "max") (rMaxA X.K) := by
  intro pins s σ H vs us Q I r h
  obtain ⟨a, ns, rfl, hs | hs, hne, q⟩ := h
  · exact cr_max hc pins s σ H _ us Q I r ⟨a, ns, rfl, hs, hne, q⟩
  · obtain ⟨its, rv, ht, _⟩ := I.tuple hs
    rw [Vals.ref1 r]
    cases ns with
    | nil => cases hne
    | cons n ns =>
      have hd : L2.DpAll X.K H ((n :: ns).map V.int) ((n :: ns).map PyData.int) := (DqAll.ints (H := H)).dp
      obtain ⟨as, ra⟩ := Dp.readsAll I _ _ its hd rv
      have hdp : PyData.depthAll ((n :: ns).map PyData.int) = 0 := PySem.W.depth_ints _
      refine PySem.W.max_tuple_data (x := .int n) (xs := ns.map .int) (I.ok.hd hc) (show s.heap.IsTuple a its.toArray from ht) ra ⟨?_, ?_⟩ ?_ fun i v h' tk bs hv hr hk => ?_
      · intro x hx y hy
        obtain ⟨i, _, rfl⟩ := List.mem_map.mp (show x ∈ (n :: ns).map PyData.int from hx)
        obtain ⟨j, _, rfl⟩ := List.mem_map.mp (show y ∈ (n :: ns).map PyData.int from hy)
        rfl
      · intro x hx e
        obtain ⟨i, _, rfl⟩ := List.mem_map.mp (show x ∈ (n :: ns).map PyData.int from hx)
        cases e
      · have e0 : PyData.depthAll (PyData.int n :: ns.map PyData.int) = 0 := hdp
        rw [e0]
        omega
      · rw [PySem.W.maxD_ints] at hr
        obtain ⟨h1, h2, h3⟩ := foldl_max ns n
        have hm : ∃ t, v = .int (ns.foldl max n) t := by
          cases hr
          exact ⟨_, rfl⟩
        obtain ⟨t, rfl⟩ := hm
        refine ⟨.int _, H, I.kept hk, ⟨_, rfl⟩, q _ ?_ fun y hy => ?_⟩
        · rcases h1 with h1 | h1
          · rw [h1]
            exact List.mem_cons_self
          · exact List.mem_cons_of_mem _ h1
        · rcases List.mem_cons.mp hy with rfl | hy
          · exact h2
          · exact h3 y hy
theorem ev_max {k : Nat} (hc : X.calm = true) (hr : Room k X.A) (hm : X.mg "max" = none) (h : EV X a ρ fun y ρ1 => ∃ ns : List Int, (y = .d (.list (ns.map .int)) ∨ y = .d (.tuple (ns.map .int))) ∧ 0 < ns.length ∧ ∀ m, m ∈ ns → (∀ y, y ∈ ns → y ≤ m) → Q (.d (.int m)) ρ1) (hg : Gl X "max" := by rfl)
    (he : starEach [a] X.env = (false, eval a X.env) :: starEach [] X.env := by rfl) (hpl : (backTo pos (starEach [] X.env)).any (·.1) = false := by rfl) : EV X (.Call (.Name "max" p) [a] [] pos) ρ Q :=
  ev_callB (cr_maxA hc hr.units) hm (ea_cons (h.mono fun y ρ1 ⟨ns, ey, hne, q⟩ => ea_nil (fun F H vs Φ s r k => by
    obtain ⟨v, rfl, r1⟩ := reps1 r
    rcases ey with rfl | rfl
    · obtain ⟨a1, ws, rfl, s1, d1⟩ := rep_lst r1
      have e1 := d1.toInts
      subst e1
      exact ⟨a1, ns, rfl, .inl (s.seq s1), hne, fun m h1 h2 => k _ F H _ (Gr.refl s) rpI (q m h1 h2)⟩
    · obtain ⟨a1, ws, rfl, s1, d1⟩ := rep_tup r1
      have e1 := d1.toInts
      subst e1
      exact ⟨a1, ns, rfl, .inr (sqT_same s s1), hne, fun m h1 h2 => k _ F H _ (Gr.refl s) rpI (q m h1 h2)⟩)) he) (by decide +kernel) hg (by decide) (by decide) he hpl
theorem ev_max2 (hc : X.calm = true) (hm : X.mg "max" = none) (h : EV X a ρ fun y ρ1 => EV X b ρ1 fun z ρ2 => ∃ i j, y = .d (.int i) ∧ z = .d (.int j) ∧ Q (.d (.int (max i j))) ρ2) (hg : Gl X "max" := by rfl)
    (he : starEach [a, b] X.env = (false, eval a X.env) :: starEach [b] X.env := by rfl) (he2 : starEach [b] X.env = (false, eval b X.env) :: starEach [] X.env := by rfl) (hpl : (backTo pos (starEach [b] X.env)).any (·.1) = false := by rfl) : EV X (.Call (.Name "max" p) [a, b] [] pos) ρ Q :=
  ev_callB (call_max2 hc) hm (ea_cons (h.mono fun y ρ1 h1 => ea_cons (EV.mono h1 fun z ρ2 ⟨i, j, e1, e2, q⟩ => ea_nil (by
    subst e1 e2
    refine dc_of (fun F H vs Φ s r k => ?_) q
    obtain ⟨v, w, rfl, r1, r2⟩ := reps2 r
    rw [rep_int r1, rep_int r2]
    refine ⟨i, j, rfl, ?_⟩
    have e : (if j > i then j else i) = max i j := by split <;> omega
    rw [e]
    exact k _ rpI)) he2) he) (by decide +kernel) hg (by decide) (by decide) he hpl
theorem ev_min2 (hc : X.calm = true) (hm : X.mg "min" = none) (h : EV X a ρ fun y ρ1 => EV X b ρ1 fun z ρ2 => ∃ i j, y = .d (.int i) ∧ z = .d (.int j) ∧ Q (.d (.int (min i j))) ρ2) (hg : Gl X "min" := by rfl)
    (he : starEach [a, b] X.env = (false, eval a X.env) :: starEach [b] X.env := by rfl) (he2 : starEach [b] X.env = (false, eval b X.env) :: starEach [] X.env := by rfl) (hpl : (backTo pos (starEach [b] X.env)).any (·.1) = false := by rfl) : EV X (.Call (.Name "min" p) [a, b] [] pos) ρ Q :=
  ev_callB (call_min2 hc) hm (ea_cons (h.mono fun y ρ1 h1 => ea_cons (EV.mono h1 fun z ρ2 ⟨i, j, e1, e2, q⟩ => ea_nil (by
    subst e1 e2
    refine dc_of (fun F H vs Φ s r k => ?_) q
    obtain ⟨v, w, rfl, r1, r2⟩ := reps2 r
    rw [rep_int r1, rep_int r2]
    refine ⟨i, j, rfl, ?_⟩
    have e : (if j < i then j else i) = min i j := by split <;> omega
    rw [e]
    exact k _ rpI)) he2) he) (by decide +kernel) hg (by decide) (by decide) he hpl
theorem ev_abs (hm : X.mg "abs" = none) (h : EV X a ρ fun y ρ1 => ∃ i, y = .d (.int i) ∧ Q (.d (.int (if i < 0 then -i else i))) ρ1) (hg : Gl X "abs" := by rfl)
    (he : starEach [a] X.env = (false, eval a X.env) :: starEach [] X.env := by rfl) (hpl : (backTo pos (starEach [] X.env)).any (·.1) = false := by rfl) : EV X (.Call (.Name "abs" p) [a] [] pos) ρ Q :=
  ev_callB call_abs hm (ea_cons (h.mono fun y ρ1 ⟨i, ey, q⟩ => ea_nil (by
    subst ey
    refine dc_of (fun F H vs Φ s r k => ?_) q
    obtain ⟨v, rfl, r1⟩ := reps1 r
    rw [rep_int r1]
    exact ⟨i, rfl, k _ rpI⟩)) he) (by decide +kernel) hg (by decide) (by decide) he hpl
theorem ev_intI (hm : X.mg "int" = none) (h : EV X a ρ fun y ρ1 => ∃ i, y = .d (.int i) ∧ Q (.d (.int i)) ρ1) (hg : Gl X "int" := by rfl)
    (he : starEach [a] X.env = (false, eval a X.env) :: starEach [] X.env := by rfl) (hpl : (backTo pos (starEach [] X.env)).any (·.1) = false := by rfl) : EV X (.Call (.Name "int" p) [a] [] pos) ρ Q :=
  ev_callTy call_int1 hm (ea_cons (h.mono fun y ρ1 ⟨i, ey, q⟩ => ea_nil (by
    subst ey
    refine dc_of (fun F H vs Φ s r k => ?_) q
    obtain ⟨v, rfl, r1⟩ := reps1 r
    rw [rep_int r1]
    exact .inl ⟨i, rfl, k _ rpI⟩)) he) (by decide +kernel) hg (by decide) (by decide) he hpl
theorem ev_repr (hm : X.mg "repr" = none) (h : EV X a ρ fun y ρ1 => ∃ i, y = .d (.int i) ∧ i.natAbs.log2 < 1920 ∧ Q (.d (.str (toString i))) ρ1) (hg : Gl X "repr" := by rfl)
    (he : starEach [a] X.env = (false, eval a X.env) :: starEach [] X.env := by rfl) (hpl : (backTo pos (starEach [] X.env)).any (·.1) = false := by rfl) : EV X (.Call (.Name "repr" p) [a] [] pos) ρ Q :=
  ev_callB SkE.call_repr_int hm (ea_cons (h.mono fun y ρ1 ⟨i, ey, hz, q⟩ => ea_nil (by
    subst ey
    refine dc_of (fun F H vs Φ s r k => ?_) q
    obtain ⟨v, rfl, r1⟩ := reps1 r
    rw [rep_int r1]
    exact ⟨i, rfl, hz, k _ rpS⟩)) he) (by decide +kernel) hg (by decide) (by decide) he hpl
theorem ev_all (hc : X.calm = true) (hm : X.mg "all" = none) (h : EV X a ρ fun y ρ1 => ∃ bs : List Bool, y = .d (.list (bs.map .bool)) ∧ Q (.d (.bool (bs.all id))) ρ1) (hg : Gl X "all" := by rfl)
    (he : starEach [a] X.env = (false, eval a X.env) :: starEach [] X.env := by rfl) (hpl : (backTo pos (starEach [] X.env)).any (·.1) = false := by rfl) : EV X (.Call (.Name "all" p) [a] [] pos) ρ Q :=
  ev_callB (cr_all hc) hm (ea_cons (h.mono fun y ρ1 ⟨bs, ey, q⟩ => ea_nil (by
    subst ey
    refine dc_of (fun F H vs Φ s r k => ?_) q
    obtain ⟨v, rfl, r1⟩ := reps1 r
    obtain ⟨a1, ws, rfl, s1, d1⟩ := rep_lst r1
    have e1 := d1.toBls
    subst e1
    exact ⟨a1, bs, rfl, s.seq s1, k _ rpB⟩)) he) (by decide +kernel) hg (by decide) (by decide) he hpl
theorem ev_any (hc : X.calm = true) (hm : X.mg "any" = none) (h : EV X a ρ fun y ρ1 => ∃ bs : List Bool, y = .d (.list (bs.map .bool)) ∧ Q (.d (.bool (bs.any id))) ρ1) (hg : Gl X "any" := by rfl)
    (he : starEach [a] X.env = (false, eval a X.env) :: starEach [] X.env := by rfl) (hpl : (backTo pos (starEach [] X.env)).any (·.1) = false := by rfl) : EV X (.Call (.Name "any" p) [a] [] pos) ρ Q :=
  ev_callB (cr_any hc) hm (ea_cons (h.mono fun y ρ1 ⟨bs, ey, q⟩ => ea_nil (by
    subst ey
    refine dc_of (fun F H vs Φ s r k => ?_) q
    obtain ⟨v, rfl, r1⟩ := reps1 r
    obtain ⟨a1, ws, rfl, s1, d1⟩ := rep_lst r1
    have e1 := d1.toBls
    subst e1
    exact ⟨a1, bs, rfl, s.seq s1, k _ rpB⟩)) he) (by decide +kernel) hg (by decide) (by decide) he hpl
/-- tuple(x) of a list or a tuple -/
theorem ev_tuple (hm : X.mg "tuple" = none) (h : EV X a ρ fun y ρ1 => ∃ ds, (y = .d (.list ds) ∨ y = .d (.tuple ds)) ∧ Q (.d (.tuple ds)) ρ1) (hg : Gl X "tuple" := by rfl)
    (he : starEach [a] X.env = (false, eval a X.env) :: starEach [] X.env := by rfl) (hpl : (backTo pos (starEach [] X.env)).any (·.1) = false := by rfl) : EV X (.Call (.Name "tuple" p) [a] [] pos) ρ Q :=
  ev_callTy call_tuple_of hm (ea_cons (h.mono fun y ρ1 ⟨ds, ey, q⟩ => ea_nil (fun F H vs Φ s r k => by
    obtain ⟨v, rfl, r1⟩ := reps1 r
    rcases ey with rfl | rfl
    · obtain ⟨a1, ws, rfl, s1, d1⟩ := rep_lst r1
      refine ⟨a1, ws, rfl, .inl ⟨s.seq s1, fun l hl => ?_⟩⟩
      have g := Gr.new (o := .tup ws) s hl
      exact k _ _ _ _ g (rpT upd_same (dpAll_same g.f d1)) q
    · obtain ⟨a1, ws, rfl, s1, d1⟩ := rep_tup r1
      exact ⟨a1, ws, rfl, .inr ⟨sqT_same s s1, k _ _ _ _ (Gr.refl s) r1 q⟩⟩)) he) (by decide +kernel) hg (by decide) (by decide) he hpl
/-- list(x) of a list or a tuple -/
theorem en_list (hm : X.mg "list" = none) (h : EV X a ρ fun y ρ1 => ∃ ds, (y = .d (.list ds) ∨ y = .d (.tuple ds)) ∧ Qn ds ρ1) (hg : Gl X "list" := by rfl)
    (he : starEach [a] X.env = (false, eval a X.env) :: starEach [] X.env := by rfl) (hpl : (backTo pos (starEach [] X.env)).any (·.1) = false := by rfl) : EN X (.Call (.Name "list" p) [a] [] pos) ρ Qn :=
  en_callTy call_list_of hm (ea_cons (h.mono fun y ρ1 ⟨ds, ey, q⟩ => ea_nil (fun F H vs Φ s r k => by
    obtain ⟨v, rfl, r1⟩ := reps1 r
    rcases ey with rfl | rfl
    · obtain ⟨a1, ws, rfl, s1, d1⟩ := rep_lst r1
      exact ⟨a1, ws, rfl, .inl (s.seq s1), fun l hl => k l ws ds hl d1 q⟩
    · obtain ⟨a1, ws, rfl, s1, d1⟩ := rep_tup r1
      exact ⟨a1, ws, rfl, .inr (sqT_same s s1), fun l hl => k l ws ds hl d1 q⟩)) he) (by decide +kernel) hg (by decide) (by decide) he hpl
/-- isinstance -/
def kindOf : D → String
  | .none => "NoneType"
  | .bool _ => "bool"
  | .int _ => "int"
  | .str _ => "str"
  | .list _ => "list"
  | .tuple _ => "tuple"
  | .dict _ => "dict"
theorem tyx_of {F H : Hp} {v : V} {d : D} (s : Same F H) (h : Dq F v d) : TyX K H v (.type (kindOf d)) := by
  cases h with
  | non => exact .base .non
  | bl b => exact .base (.bl b)
  | int i => exact .base (.int i)
  | str x => exact .base (.str x)
  | lst h1 h2 =>
    exact .base (.lst (s _ _ h1))
  | tup h1 h2 =>
    exact .base (.tup (s _ _ h1))
theorem ev_isi {n : String} {nm : Str} {p2 : Pos} (hm : X.mg "isinstance" = none) (hmt : X.mg nm = none) (h : EV X a ρ fun y ρ1 => ∃ d r, y = .d d ∧ kitB (kindOf d) n = some r ∧ Q (.d (.bool r)) ρ1) (hvt : bootBuiltins nm = some (.type n) := by decide +kernel) (hgt : Gl X nm := by rfl) (hnt : nm ≠ "__name__" := by decide) (hdt : (nm == ("__debug__" : Str)) = false := by decide) (hg : Gl X "isinstance" := by rfl)
    (he : starEach [a, .Name nm p2] X.env = (false, eval a X.env) :: starEach [.Name nm p2] X.env := by rfl) (he2 : starEach [.Name nm p2] X.env = (false, eval (.Name nm p2) X.env) :: starEach [] X.env := by rfl) (hpl : (backTo pos (starEach [.Name nm p2] X.env)).any (·.1) = false := by rfl) :
    EV X (.Call (.Name "isinstance" p) [a, .Name nm p2] [] pos) ρ Q :=
  ev_callB call_isi hm (ea_cons (h.mono fun y ρ1 ⟨d, r, ey, hk, q⟩ => ea_cons (ev_ty hmt hvt (ea_nil (by
    subst ey
    refine dc_of (fun F H vs Φ s rr k => ?_) q
    obtain ⟨v, w, rfl, r1, r2⟩ := reps2 rr
    have e2 : w = .ty n := r2
    subst e2
    exact ⟨v, .ty n, _, _, r, rfl, .ty n, tyx_of s r1, kit_ty hk, k _ rpB⟩)) hgt hnt hdt) he2) he) (by decide +kernel) hg (by decide) (by decide) he hpl
end
end
end DL
end PartDL3
section PartDL4
set_option maxRecDepth 100000
set_option maxHeartbeats 2000000
/-! DL4: defs, attributes, targets, comprehensions, statements. -/
namespace DL
open PySem PySem.Spec PyProof.Rows L2
section
variable {X : Cx} {ρ : Ev} {Q : P → Ev → Prop} {pos p : Pos} {a b e : Expr} {es : List Expr} {x : Str} {K : PySem.W.Frag}

/-! ### defs -/
/-- the promise of a def that only looks: w tells what is wanted of its result, by its arguments -/
abbrev Wp := List P → (P → Prop) → Prop
def spD (K : PySem.W.Frag) (w : Wp) : Sp := fun vs H Φ _ => ∃ (F : Hp) (ps : List P) (Ψ : P → Prop), Same F H ∧ Reps K F vs ps ∧ w ps Ψ ∧ ∀ v F' H' p, Gr F H F' H' → Rep K F' v p → Ψ p → Φ v H'
/-- .. of a def whose first argument is the random heap -/
structure GrX (h c : Addr) (F H F' H' : Hp) : Prop where
  f : Same F F'
  s : Same F' H'
  h : ∀ a o, a ≠ h → a ≠ c → H a = some o → H' a = some o
  n : ∀ a, F a = none → H a ≠ none → F' a = none
def spR (K : PySem.W.Frag) (w : Wp) : Sp := fun vs H Φ _ => ∃ (F : Hp) (h c : Addr) (ns : List Int) (st : Int) (vs' : List V) (ps : List P) (Ψ : P → Prop), vs = .ref h :: vs' ∧ Same F H ∧ F h = none ∧ F c = none ∧
  H h = some (.lst [.ref c, .int st]) ∧ H c = some (.lst (ns.map V.int)) ∧ h ≠ c ∧ RndOk ns st ∧ Reps K F vs' ps ∧ w ps Ψ ∧
  ∀ v F' H' p ns' st', GrX h c F H F' H' → H' h = some (.lst [.ref c, .int st']) → H' c = some (.lst (ns'.map V.int)) → RndOk ns' st' → Rep K F' v p → Ψ p → Φ v H'
/-- a def as it stands behind the top, with its promise -/
def DefOk (P : Program) (w : World) (K : PySem.W.Frag) (mg : Str → Option Value) (base : Heap) (CX : CXT) (x : Str) (k : Nat) (ps : List Str) (sp : Sp) : Prop :=
  ∃ f fd, mg x = some (.ref f) ∧ PySem.W.keepIn K (.ref f) = true ∧ Binds K fd ps [] ∧ FnOk P w K mg base CX k f fd ps sp
theorem ev_call {k : Nat} {ps : List Str} {w : Wp} (D : DefOk X.prog X.w X.K X.mg X.base CX0 x k ps (spD X.K w)) (hr : Room k X.A) (h : EA X (e :: es) ρ fun as ρ1 => w as fun z => Q z ρ1) (hg : Gl X x := by rfl)
    (hdb : (x == ("__debug__" : Str)) = false := by decide) (he : starEach (e :: es) X.env = (false, eval e X.env) :: starEach es X.env := by rfl) (hpl : (backTo pos (starEach es X.env)).any (·.1) = false := by rfl) : EV X (.Call (.Name x p) (e :: es) [] pos) ρ Q := fun Γ fp F σ H Φ t k pins s I => by
  obtain ⟨f, fd, hm, hk, hb, G⟩ := D
  refine (pe_call G hr hg hm hk hb .nil pass0 pa_w hdb he hpl).run pins s σ H Φ I (h Γ fp F σ H _ t fun vs F1 H1 as ρ1 fp1 t1 f1 r1 q => ?_)
  show spD X.K w (vs ++ []) H1 Φ E0
  rw [List.append_nil]
  exact ⟨F1, as, _, t1.ex, r1, q, fun v F2 H2 z g r2 q2 => k v F2 H2 z ρ1 fp1 (t1.grow g) (f1.trans g.f) r2 q2⟩
theorem Stt.rnd {Γ : Anc} {fp : Nat → List Addr} {F H F' H' : Hp} {σ : L2.St} (t : Stt K Γ ρ fp F σ H) {i : Nat} {h c : Addr} {ns' : List Int} {st' : Int} (hi : ρ[i]? = some (some (.rnd h c))) (hf : fp i = [h, c]) (hv : σ[i]? = some (some (.ref h))) (hc : h ≠ c) (g : GrX h c F H F' H')
    (h1 : H' h = some (.lst [.ref c, .int st'])) (h2 : H' c = some (.lst (ns'.map V.int))) (ok : RndOk ns' st') : Stt K Γ ρ fp F' σ H' := by
  have up : ∀ a, H a ≠ none → H' a ≠ none := fun a ha => by
    by_cases z1 : a = h
    · rw [z1, h1]; simp
    by_cases z2 : a = c
    · rw [z2, h2]; simp
    cases q : H a with
    | none => exact absurd q ha
    | some o =>
      rw [g.h a o z1 z2 q]
      simp
  have own : ∀ a, a = h ∨ a = c → F a = none ∧ H a ≠ none ∧ (Γ.S a ∨ Γ.H a = none) := fun a ha => t.own i a (by rw [hf]; simpa using ha)
  refine ⟨g.s, t.exF.trans g.f, fun a o n e => ?_, fun a ha => up a (t.thr a ha), fun a n1 n2 n3 => g.n a (t.fre a n1 n2 n3) (t.thr a n2), t.len, fun j cl e => ?_, fun j a ha => ?_, t.sep⟩
  · have ne : ¬ (a = h ∨ a = c) := fun z => by
      rcases (own a z).2.2 with q | q
      · exact n q
      · rw [q] at e; cases e
    exact g.h a o (fun z => ne (.inl z)) (fun z => ne (.inr z)) (t.exH a o n e)
  · by_cases z : j = i
    · subst z
      rw [hi] at e
      cases e
      exact ⟨.ref h, hv, ns', st', hf, rfl, h1, h2, hc, ok⟩
    · obtain ⟨v, e1, e2⟩ := t.cells j cl e
      refine ⟨v, e1, cell_same g.f (fun a ha => ?_) e2⟩
      have n1 : a ≠ h := fun q => t.sep j i a z ha (by rw [hf, q]; simp)
      have n2 : a ≠ c := fun q => t.sep j i a z ha (by rw [hf, q]; simp)
      cases q : H a with
      | none => exact absurd q (t.own j a ha).2.1
      | some o => exact g.h a o n1 n2 q
  · obtain ⟨n1, n2, n3⟩ := t.own j a ha
    exact ⟨g.n a n1 n2, up a n2, n3⟩
theorem ev_callR {k : Nat} {ps : List Str} {w : Wp} {y : Str} {py : Pos} {hh cc : Addr} (i : Nat) (D : DefOk X.prog X.w X.K X.mg X.base CX0 x k ps (spR X.K w)) (hr : Room k X.A) (h : EA X es ρ fun as ρ1 => ρ1[i]? = some (some (.rnd hh cc)) ∧ w as fun z => Q z ρ1) (h0 : ρ[i]? = some (some (.rnd hh cc)) := by rfl)
    (hN : X.N[i]? = some y := by rfl) (hv : Vis X.env.scope y := by first | exact Or.inl rfl | exact Or.inr (Or.inl rfl) | exact Or.inr (Or.inr rfl)) (hd : (y == ("__debug__" : Str)) = false := by decide) (hcd : (y == ("__classdict__" : Str)) = false := by decide) (hg : Gl X x := by rfl)
    (hdb : (x == ("__debug__" : Str)) = false := by decide) (he : starEach (.Name y py :: es) X.env = (false, eval (.Name y py) X.env) :: starEach es X.env := by rfl) (hpl : (backTo pos (starEach es X.env)).any (·.1) = false := by rfl) : EV X (.Call (.Name x p) (.Name y py :: es) [] pos) ρ Q := fun Γ fp F σ H Φ t k pins s I => by
  obtain ⟨f, fd, hm, hk, hb, G⟩ := D
  obtain ⟨v0, ev0, ns0, st0, _, rfl, _⟩ := t.cells i _ h0
  refine (pe_call G hr hg hm hk hb .nil pass0 (pa_cons (pe_var hN hv hd hcd) pa_w he) hdb he hpl).run pins s σ H Φ I ⟨.ref hh, ev0, h Γ fp F σ H _ t fun vs F1 H1 as ρ1 fp1 t1 f1 r1 ⟨h1, q⟩ => ?_⟩
  show spR X.K w ((V.ref hh :: vs) ++ []) H1 Φ E0
  rw [List.append_nil]
  obtain ⟨v1, ev1, ns, st, hf, rfl, g1, g2, g3, ok⟩ := t1.cells i _ h1
  have o1 := t1.own i hh (by rw [hf]; simp)
  have o2 := t1.own i cc (by rw [hf]; simp)
  exact ⟨F1, hh, cc, ns, st, vs, as, _, rfl, t1.ex, o1.1, o2.1, g1, g2, g3, ok, r1, q, fun v F2 H2 z ns' st' g k1 k2 k3 r2 q2 =>
    k v F2 H2 z ρ1 fp1 (t1.rnd h1 hf ev0 g3 g k1 k2 k3) (f1.trans g.f) r2 q2⟩

/-! ### yard.heights -/
theorem ev_heights (h : EV X e ρ fun y ρ1 => ∃ hs, y = .yd hs ∧ Q (.d (.tuple (hs.map .int))) ρ1) (hb : attributeBase e "heights" X.env (eval e X.env) = eval e X.env := by rfl) : EV X (.Attribute e "heights" pos) ρ Q := fun Γ fp F σ H Φ t k pins s I =>
  (pe_fld pe_w hb).run pins s σ H Φ I (h Γ fp F σ H _ t fun v F1 H1 y ρ1 fp1 t1 f1 r1 ⟨hs, ey, q⟩ => by
    subst ey
    obtain ⟨a1, C, dx, tt, rfl, g1, g2, g3, g4⟩ := r1
    exact ⟨a1, C, dx, _, .ref tt, rfl, t1.ex _ _ g1, g2, g3, by simp [List.lookup], k _ F1 H1 _ ρ1 fp1 t1 f1 (rpT g4 DqAll.ints) q⟩)

/-! ### targets -/
def Upto {α : Type} (ix : List Nat) (l l2 : List α) : Prop := l2.length = l.length ∧ ∀ j, j ∉ ix → l2[j]? = l[j]?
theorem Upto.refl {α : Type} {ix : List Nat} {l : List α} : Upto ix l l := ⟨rfl, fun _ _ => rfl⟩
theorem Upto.trans {α : Type} {ix iy : List Nat} {l l2 l3 : List α} (u : Upto ix l l2) (v : Upto iy l2 l3) : Upto (ix ++ iy) l l3 :=
  ⟨v.1.trans u.1, fun j hj => (v.2 j fun z => hj (List.mem_append_right _ z)).trans (u.2 j fun z => hj (List.mem_append_left _ z))⟩
theorem Upto.set {α : Type} {i : Nat} {l : List α} {x : α} : Upto [i] l (l.set i x) := ⟨List.length_set, fun j hj => List.getElem?_set_ne (fun z => hj (by simp [z]))⟩
theorem wipe_get {σ : L2.St} {j : Nat} : ∀ {vs : List Nat}, j ∉ vs → (wipe σ vs)[j]? = σ[j]?
  | [], _ => rfl
  | v :: vs, h => by
    unfold wipe
    rw [List.getElem?_set_ne (fun z => h (by simp [z]))]
    exact wipe_get fun z => h (List.mem_cons_of_mem _ z)
theorem wipe_none {σ : L2.St} {j : Nat} (hj : j < σ.length) : ∀ {vs : List Nat}, j ∈ vs → (wipe σ vs)[j]? = some none
  | v :: vs, h => by
    unfold wipe
    by_cases z : v = j
    · subst z
      exact List.getElem?_set_self (by rw [wipe_length]; exact hj)
    · rw [List.getElem?_set_ne z]
      rcases List.mem_cons.mp h with q | q
      · exact absurd q.symm z
      · exact wipe_none hj q
theorem Upto.wipe {σ σ2 : L2.St} {ix vs : List Nat} (u : Upto ix (L2.wipe σ vs) σ2) (h : ∀ i ∈ ix, i ∈ vs) : L2.wipe σ2 vs = L2.wipe σ vs := by
  apply List.ext_getElem?
  intro j
  have hl : σ2.length = σ.length := by rw [u.1, wipe_length]
  by_cases hj : j ∈ vs
  · by_cases hs : j < σ.length
    · rw [wipe_none (by rw [hl]; exact hs) hj, wipe_none hs hj]
    · rw [List.getElem?_eq_none (by rw [wipe_length, hl]; omega), List.getElem?_eq_none (by rw [wipe_length]; omega)]
  · rw [wipe_get hj, u.2 j fun z => hj (h j z)]
def wG (X : Cx) (tg : Expr) : TG := fun v σ H Φ => ∀ (pins : List (Addr × Obj)) (s : Shared) (u : Value), L2.Inv X pins σ H s → RelV v u → wpAny (model X.prog X.w) X.A (assign tg X.env u) (fun _ s' => ∃ σ' H', L2.Inv X pins σ' H' s' ∧ Φ σ' H') X.xe s
def wGs (X : Cx) (ts : List Expr) : TGs := fun vs σ H Φ => ∀ (pins : List (Addr × Obj)) (s : Shared) (us : List Value), L2.Inv X pins σ H s → Vals vs us → wpAny (model X.prog X.w) X.A (assignInOrder ((assignEach ts X.env).map (·.2)) us) (fun _ s' => ∃ σ' H', L2.Inv X pins σ' H' s' ∧ Φ σ' H') X.xe s
theorem pg_w {tg : Expr} : PG X tg (wG X tg) := ⟨fun pins s _ _ _ u _ I r h => h pins s u I r⟩
theorem pgs_w {tg : List Expr} : PGs X tg (wGs X tg) := ⟨fun pins s _ _ _ u _ I r h => h pins s u I r⟩
def GB (X : Cx) (tg : Expr) (ix : List Nat) (x : D) (ρ : Ev) (Q : Ev → Prop) : Prop := ∀ (Γ : Anc) (fp : Nat → List Addr) (F : Hp) (σ : L2.St) (H : Hp) (v : V) (Φ : L2.St → Hp → Prop), Stt X.K Γ ρ fp F σ H → Dq F v x →
  (∀ σ' ρ' fp', Stt X.K Γ ρ' fp' F σ' H → Upto ix σ σ' → Upto ix ρ ρ' → Q ρ' → Φ σ' H) → wG X tg v σ H Φ
def GBs (X : Cx) (ts : List Expr) (ix : List Nat) (xs : List D) (ρ : Ev) (Q : Ev → Prop) : Prop := ∀ (Γ : Anc) (fp : Nat → List Addr) (F : Hp) (σ : L2.St) (H : Hp) (vs : List V) (Φ : L2.St → Hp → Prop), Stt X.K Γ ρ fp F σ H → DqAll F vs xs →
  (∀ σ' ρ' fp', Stt X.K Γ ρ' fp' F σ' H → Upto ix σ σ' → Upto ix ρ ρ' → Q ρ' → Φ σ' H) → wGs X ts vs σ H Φ
section
variable {Qg : Ev → Prop} {d : D} {ds : List D} {tg : Expr} {ts : List Expr} {ix iy : List Nat}
theorem gb_name (i : Nat) {x : Str} (q : Qg (ρ.set i (some (.p (.d d))))) (hN : X.N.Nodup) (hi : X.N[i]? = some x := by rfl) (hx : Loc X.env.scope x := by first | exact Or.inl rfl | exact Or.inr rfl) (hf : X.fn x = true ∨ X.env.scope.names.lookup x = some .local := by first | exact .inl rfl | exact .inr rfl) : GB X (.Name x pos) [i] d ρ Qg := fun Γ fp F σ H v Φ t r k pins s u I rv =>
  (pg_name hN hi hx hf).run pins s σ H v u Φ I rv (k _ _ _ (t.setP i (p := .d d) r) Upto.set Upto.set q)
theorem gbs_nil (q : Qg ρ) : GBs X [] [] [] ρ Qg := fun Γ fp F σ H vs Φ t r k pins s u I rv => pgs_nil.run pins s σ H vs u Φ I rv ⟨by cases r; rfl, k σ ρ fp t Upto.refl Upto.refl q⟩
theorem gbs_cons (h : GB X tg ix d ρ fun ρ1 => GBs X ts iy ds ρ1 Qg) (hs : (assignEach (tg :: ts) X.env).map (·.2) = assign tg X.env :: (assignEach ts X.env).map (·.2) := by rfl) : GBs X (tg :: ts) (ix ++ iy) (d :: ds) ρ Qg := fun Γ fp F σ H vs Φ t r k pins s u I rv => by
  cases r with
  | cons r1 r2 =>
    exact (pgs_cons pg_w pgs_w hs).run pins s σ H _ u Φ I rv ⟨_, _, rfl, h Γ fp F σ H _ _ t r1 fun σ1 ρ1 fp1 t1 u1 w1 h1 => h1 Γ fp1 F σ1 H _ Φ t1 r2 fun σ2 ρ2 fp2 t2 u2 w2 q => k σ2 ρ2 fp2 t2 (u1.trans u2) (w1.trans w2) q⟩
theorem gb_tup {k0 : Nat} (hc : X.calm = true) (h : GBs X ts ix ds ρ Qg) (hn : (assignEach ts X.env).length = ds.length := by rfl) (hst : (assignEach ts X.env).findIdx? (·.1) = none := by rfl) : GB X (.Tuple ts k0 pos) ix (.tuple ds) ρ Qg := fun Γ fp F σ H v Φ t r k pins s u I rv => by
  cases r with
  | tup h1 h2 => exact (pg_tup hc pgs_w hn hst).run pins s σ H _ u Φ I rv ⟨_, _, rfl, SqT.of (t.ex _ _ h1), h2.len, h Γ fp F σ H _ Φ t h2 k⟩
end

/-! ### tests of a comprehension -/
def wTs (X : Cx) (ifs : List Expr) : TT := fun σ H Φ => ∀ (pins : List (Addr × Obj)) (s : Shared), L2.Inv X pins σ H s →
    wpAny (model X.prog X.w) X.A (forIn ifs true fun c r => if r = true then do let ok ← isTrue c X.env (eval c X.env); pure (ForInStep.yield ok) else pure (ForInStep.yield r)) (TP X pins σ Φ) X.xe s
theorem pts_w {ifs : List Expr} : PTs X ifs (wTs X ifs) := ⟨fun pins s _ _ _ I h => h pins s I⟩
def ETs (X : Cx) (ifs : List Expr) (ρ : Ev) (Q : Bool → Ev → Prop) : Prop := ∀ (Γ : Anc) (fp : Nat → List Addr) (F : Hp) (σ : L2.St) (H : Hp) (Φ : Bool → Hp → Prop), Stt X.K Γ ρ fp F σ H →
  (∀ b F' H' ρ' fp', Stt X.K Γ ρ' fp' F' σ H' → Same F F' → Q b ρ' → Φ b H') → wTs X ifs σ H Φ
theorem ets_nil {Q : Bool → Ev → Prop} (q : Q true ρ) : ETs X [] ρ Q := fun Γ fp F σ H Φ t k pins s I => pts_nil.run pins s σ H Φ I (k true F H ρ fp t (Same.refl _) q)
theorem ets_one {Q : Bool → Ev → Prop} (h : ET X e ρ Q) : ETs X [e] ρ Q := fun Γ fp F σ H Φ t k pins s I => (pts_one pt_w).run pins s σ H Φ I (h Γ fp F σ H Φ t k)

/-! ### what is walked -/
def wI (X : Cx) (tg iter : Expr) : TI := fun σ H R => ∀ (pins : List (Addr × Obj)) (s : Shared), L2.Inv X pins σ H s → wpAny (model X.prog X.w) X.A (eval iter X.env) (fun v s1 => wpAny (model X.prog X.w) X.A (pyIter v) (PIE X pins σ tg R) X.xe s1) X.xe s
theorem pi_w {tg iter : Expr} : PI X tg iter (wI X tg iter) := ⟨fun pins s _ _ _ I h => h pins s I⟩
/-- the iterable gives these data, one after another -/
def IE (X : Cx) (tg iter : Expr) (ρ : Ev) (Qi : List D → Ev → Prop) : Prop := ∀ (Γ : Anc) (fp : Nat → List Addr) (F : Hp) (σ : L2.St) (H : Hp) (R : It → Hp → Prop), Stt X.K Γ ρ fp F σ H →
  (∀ (J : It) (items : List D) (G : Hp → Prop) (Y : Nat → Hp → V → Hp → Prop) F' H' ρ' fp', Stt X.K Γ ρ' fp' F' σ H' → Same F F' → Walk J items.length G Y → (∀ F2 H2, Same F' F2 → Same F2 H2 → G H2) →
    (∀ i F2 H2 v H3, i < items.length → Same F' F2 → Same F2 H2 → Y i H2 v H3 → ∃ F3 d, Gr F2 H2 F3 H3 ∧ items[i]? = some d ∧ Dq F3 v d) → Qi items ρ' → R J H') → wI X tg iter σ H R
section
variable {Qi : List D → Ev → Prop} {tg : Expr}
theorem ie_list (h : EV X e ρ fun y ρ1 => ∃ ds, y = .d (.list ds) ∧ Qi ds ρ1) : IE X tg e ρ Qi := fun Γ fp F σ H R t k pins s I =>
  (pi_list pe_w).run pins s σ H R I (h Γ fp F σ H _ t fun v F1 H1 y ρ1 fp1 t1 f1 r1 ⟨ds, ey, q⟩ => by
    subst ey
    obtain ⟨a1, vs, rfl, s1, d1⟩ := rep_lst r1
    refine ⟨a1, rfl, ⟨vs, t1.ex.seq s1⟩, k _ ds (fun H => SqL X.K H a1 vs) (YAt vs) F1 H1 ρ1 fp1 t1 f1 (by rw [← d1.len]; exact walk_list) (fun F2 H2 e1 e2 => e2.seq (e1.seq s1)) (fun i F2 H2 v H3 hi e1 e2 y => ?_) q⟩
    obtain ⟨rfl, hv⟩ := y
    obtain ⟨d, h1, h2⟩ := d1.getV hv
    exact ⟨F2, d, Gr.refl e2, h1, dp_same e1 h2⟩)
theorem ie_tup (h : EV X e ρ fun y ρ1 => ∃ ds, y = .d (.tuple ds) ∧ Qi ds ρ1) : IE X tg e ρ Qi := fun Γ fp F σ H R t k pins s I =>
  (pi_tup pe_w).run pins s σ H R I (h Γ fp F σ H _ t fun v F1 H1 y ρ1 fp1 t1 f1 r1 ⟨ds, ey, q⟩ => by
    subst ey
    obtain ⟨a1, vs, rfl, s1, d1⟩ := rep_tup r1
    refine ⟨a1, rfl, ⟨vs, sqT_same t1.ex s1⟩, k _ ds (fun H => SqT X.K H a1 vs) (YAt vs) F1 H1 ρ1 fp1 t1 f1 (by rw [← d1.len]; exact walk_tup) (fun F2 H2 e1 e2 => sqT_same e2 (sqT_same e1 s1)) (fun i F2 H2 v H3 hi e1 e2 y => ?_) q⟩
    obtain ⟨rfl, hv⟩ := y
    obtain ⟨d, h1, h2⟩ := d1.getV hv
    exact ⟨F2, d, Gr.refl e2, h1, dp_same e1 h2⟩)
/-- the ints of a range -/
def rangeD (lo : Int) (n : Nat) : List D := (List.range n).map fun i => .int (lo + (i : Nat))
theorem rangeD_len {lo : Int} {n : Nat} : (rangeD lo n).length = n := by unfold rangeD; rw [List.length_map, List.length_range]
theorem rangeD_get {lo : Int} {n i : Nat} (h : i < n) : (rangeD lo n)[i]? = some (.int (lo + (i : Nat))) := by
  unfold rangeD
  rw [List.getElem?_map, List.getElem?_range h]
  rfl
theorem ie_of_range {Γ : Anc} {fp : Nat → List Addr} {F H : Hp} {σ : L2.St} {R : It → Hp → Prop} {lo : Int} {n : Nat} (t : Stt X.K Γ ρ fp F σ H) (q : Qi (rangeD lo n) ρ)
    (k : ∀ (J : It) (items : List D) (G : Hp → Prop) (Y : Nat → Hp → V → Hp → Prop) F' H' ρ' fp', Stt X.K Γ ρ' fp' F' σ H' → Same F F' → Walk J items.length G Y → (∀ F2 H2, Same F' F2 → Same F2 H2 → G H2) →
      (∀ i F2 H2 v H3, i < items.length → Same F' F2 → Same F2 H2 → Y i H2 v H3 → ∃ F3 d, Gr F2 H2 F3 H3 ∧ items[i]? = some d ∧ Dq F3 v d) → Qi items ρ' → R J H') : R (Itr lo n) H :=
  k _ (rangeD lo n) (fun _ => True) (YFn fun i => .int (lo + i)) F H ρ fp t (Same.refl _) (by rw [rangeD_len]; exact walk_range) (fun _ _ _ _ => trivial) (fun i F2 H2 v H3 hi e1 e2 y => by
    obtain ⟨rfl, rfl⟩ := y
    exact ⟨F2, _, Gr.refl e2, rangeD_get (by rw [rangeD_len] at hi; exact hi), .int _⟩) q
theorem ie_range1 (hm : X.mg "range" = none) (h : EV X a ρ fun y ρ1 => ∃ n : Int, y = .d (.int n) ∧ n ≤ 1000000 ∧ -1000000 ≤ n ∧ Qi (rangeD 0 n.toNat) ρ1) (hg : Gl X "range" := by rfl) (hs : starEach [a] X.env = [(false, eval a X.env)] := by rfl) : IE X tg (.Call (.Name "range" p) [a] [] pos) ρ Qi := fun Γ fp F σ H R t k pins s I =>
  (pi_range1 hg hm pa_w hs).run pins s σ H R I (ea_cons (Qa := fun ps ρ1 => ∃ n : Int, ps = [.d (.int n)] ∧ n ≤ 1000000 ∧ -1000000 ≤ n ∧ Qi (rangeD 0 n.toNat) ρ1) (h.mono fun y ρ1 ⟨n, ey, h1, h2, q⟩ => ea_nil ⟨n, by rw [ey], h1, h2, q⟩) (by rw [hs]; rfl) Γ fp F σ H _ t fun vs F1 H1 ps ρ1 fp1 t1 f1 r1 ⟨n, ep, h1, h2, q⟩ => by
    subst ep
    obtain ⟨v, rfl, r⟩ := reps1 r1
    rw [rep_int r]
    refine ⟨n, rfl, by omega, by omega, ie_of_range t1 q fun J items G Y F2 H2 ρ2 fp2 t2 f2 w g y q2 => k J items G Y F2 H2 ρ2 fp2 t2 (f1.trans f2) w g y q2⟩)
theorem ie_range2 (hm : X.mg "range" = none) (h : EV X a ρ fun y ρ1 => EV X b ρ1 fun z ρ2 => ∃ m n : Int, y = .d (.int m) ∧ z = .d (.int n) ∧ (n ≤ 1000000 ∧ -1000000 ≤ n ∧ m ≤ 1000000 ∧ -1000000 ≤ m) ∧ Qi (rangeD m (n - m).toNat) ρ2) (hg : Gl X "range" := by rfl)
    (hs : starEach [a, b] X.env = [(false, eval a X.env), (false, eval b X.env)] := by rfl) (hs2 : starEach [b] X.env = [(false, eval b X.env)] := by rfl) (hs1 : starEach [a, b] X.env = (false, eval a X.env) :: starEach [b] X.env := by rfl) : IE X tg (.Call (.Name "range" p) [a, b] [] pos) ρ Qi := fun Γ fp F σ H R t k pins s I =>
  (pi_range2 hg hm pa_w hs hs2).run pins s σ H R I (ea_cons (Qa := fun ps ρ1 => ∃ m n : Int, ps = [.d (.int m), .d (.int n)] ∧ (n ≤ 1000000 ∧ -1000000 ≤ n ∧ m ≤ 1000000 ∧ -1000000 ≤ m) ∧ Qi (rangeD m (n - m).toNat) ρ1)
      (h.mono fun y ρ1 hh => ea_cons (EV.mono hh fun z ρ2 ⟨m, n, ey, ez, h1, q⟩ => ea_nil ⟨m, n, by rw [ey, ez], h1, q⟩) (by rw [hs2]; rfl)) hs1 Γ fp F σ H _ t fun vs F1 H1 ps ρ1 fp1 t1 f1 r1 ⟨m, n, ep, h1, q⟩ => by
    subst ep
    obtain ⟨v, w, rfl, r, r'⟩ := reps2 r1
    rw [rep_int r, rep_int r']
    refine ⟨m, n, rfl, by omega, ie_of_range t1 q fun J items G Y F2 H2 ρ2 fp2 t2 f2 w g y q2 => k J items G Y F2 H2 ρ2 fp2 t2 (f1.trans f2) w g y q2⟩)
/-- the signs of a text -/
def signsD (z : Str) : List D := z.cps.toList.map fun c => .str ⟨#[c]⟩
theorem ie_str (h : EV X e ρ fun y ρ1 => ∃ z, y = .d (.str z) ∧ Qi (signsD z) ρ1) : IE X tg e ρ Qi := fun Γ fp F σ H R t k pins s I =>
  (pi_str pe_w).run pins s σ H R I (h Γ fp F σ H _ t fun v F1 H1 y ρ1 fp1 t1 f1 r1 ⟨z, ey, q⟩ => by
    subst ey
    have hl : (signsD z).length = z.cps.size := by unfold signsD; rw [List.length_map, Array.length_toList]
    refine ⟨z, rep_str r1, k _ (signsD z) (fun _ => True) _ F1 H1 ρ1 fp1 t1 f1 (by rw [hl]; exact walk_str) (fun _ _ _ _ => trivial) (fun i F2 H2 v H3 hi e1 e2 y => ?_) q⟩
    obtain ⟨rfl, c, hc, rfl⟩ := y
    refine ⟨F2, .str ⟨#[c]⟩, Gr.refl e2, ?_, .str _⟩
    unfold signsD
    rw [List.getElem?_map, Array.getElem?_toList, hc]
    rfl)
end

/-! ### list comprehensions -/
structure Bk where
  s : Shared
  H : Hp
  C : Addr
  cl : List (Str × Addr)
  fp : List Addr
abbrev Bx (X : Cx) (scope : Scope) (B : Bk) : Cx := X.blk B.s B.H scope (compEnvC scope B.cl B.C X.env) B.fp
/-- one turn, in any block's context -/
def LcT (X : Cx) (scope : Scope) (tg : Expr) (ix : List Nat) (ifs : List Expr) (elt : Expr) (ρ : Ev) (x : D) (acc : List D) (J : List D → Prop) : Prop :=
  ∀ B, GB (Bx X scope B) tg ix x ρ fun ρ2 => ∀ B, ETs (Bx X scope B) ifs ρ2 fun b ρ3 => ρ3 = ρ2 ∧ if b = true then ∀ B, EV (Bx X scope B) elt ρ3 fun y ρ4 => ρ4 = ρ3 ∧ ∃ y', y = .d y' ∧ J (acc ++ [y']) else J acc
/-- what all blocks' contexts share, as one reading -/
def bE (X : Cx) (scope : Scope) (elt : Expr) : TE := fun σ H Φ => ∀ B, wE (Bx X scope B) elt σ H Φ
def bTs (X : Cx) (scope : Scope) (ifs : List Expr) : TT := fun σ H Φ => ∀ B, wTs (Bx X scope B) ifs σ H Φ
def bG (X : Cx) (scope : Scope) (tg : Expr) : TG := fun v σ H Φ => ∀ B, wG (Bx X scope B) tg v σ H Φ
theorem noForget {ρ : Ev} {vs : List Nat} (h : forget ρ vs = ρ) {j : Nat} (hj : j ∈ vs) {c : Cell} : ρ[j]? ≠ some (some c) := fun e => by
  have q : (forget ρ vs)[j]? = some (some c) := by rw [h]; exact e
  clear h e
  induction vs with
  | nil => cases hj
  | cons v vs ih =>
    unfold forget at q
    by_cases z : v = j
    · subst z
      by_cases hl : v < (forget ρ vs).length
      · rw [List.getElem?_set_self hl] at q; cases q
      · rw [List.getElem?_eq_none (by simpa using hl)] at q; cases q
    · rw [List.getElem?_set_ne z] at q
      rcases List.mem_cons.mp hj with y | y
      · exact z y.symm
      · exact ih y q
/-- an object of nobody's cells is changed -/
theorem Stt.poke {Γ : Anc} {fp : Nat → List Addr} {F H : Hp} {σ : L2.St} (t : Stt K Γ ρ fp F σ H) {p : Addr} {o : HO} (h1 : F p = none) (h2 : Γ.H p = none) (h3 : ∀ j, p ∉ fp j) : Stt K Γ ρ fp F σ (upd H p o) where
  ex := fun a u e => by
    rw [upd_ne fun z => by subst z; rw [h1] at e; cases e]
    exact t.ex a u e
  exF := t.exF
  exH := fun a u n e => by
    rw [upd_ne fun z => by subst z; rw [h2] at e; cases e]
    exact t.exH a u n e
  thr := fun a h => by
    by_cases z : a = p
    · subst z; rw [upd_same]; simp
    · rw [upd_ne z]; exact t.thr a h
  fre := t.fre
  len := t.len
  cells := fun j c e => by
    obtain ⟨v, e1, e2⟩ := t.cells j c e
    exact ⟨v, e1, cell_same (Same.refl _) (fun a ha => upd_ne fun z => by subst z; exact h3 j ha) e2⟩
  own := fun j a ha => by
    obtain ⟨n1, n2, n3⟩ := t.own j a ha
    refine ⟨n1, ?_, n3⟩
    rw [upd_ne fun z => by subst z; exact h3 j ha]
    exact n2
  sep := t.sep
theorem lc_read {Qn : List D → Ev → Prop} {elt tg iter : Expr} {ifs : List Expr} {scope : Scope} {ix : List Nat} (own : List (Str × Nat))
    (h : IE X tg iter ρ fun items ρ1 => forget ρ1 (own.map (·.2)) = ρ1 ∧ items.length ≤ 100000 ∧ ∃ I : Nat → List D → Prop, I 0 [] ∧ (∀ i x acc, items[i]? = some x → I i acc → LcT X scope tg ix ifs elt ρ1 x acc (I (i + 1))) ∧ ∀ acc, I items.length acc → Qn acc ρ1) (hix : ∀ i ∈ ix, i ∈ own.map (·.2)) (Γ : Anc) (fp : Nat → List Addr) (F : Hp) (σ : L2.St) (H : Hp) (Φ : VK) (t : Stt X.K Γ ρ fp F σ H)
    (k : ∀ a vs F' H' ds ρ' fp', Stt X.K Γ ρ' fp' F' σ H' → Same F F' → F' a = none → H' a = some (.lst vs) → DqAll F' vs ds → Γ.H a = none → (∀ i, a ∉ fp' i) → Qn ds ρ' → Φ (.ref a) H') : tLc (wI X tg iter) (bG X scope tg) (bTs X scope ifs) (bE X scope elt) (own.map (·.2)) σ H Φ := by
  refine h Γ fp F σ H _ t fun J items G Y F1 H1 ρ1 fp1 t1 f1 w hG hY ⟨hfg, hlen, Iv, i0, turn, fin⟩ => fun p hp => ?_
  obtain ⟨t2, n1, n2, n3⟩ := en_fin t1 hp (.lst [])
  refine lc_it w (fun i H' => ∃ F' acc vs fp', Stt X.K Γ ρ1 fp' F' σ H' ∧ Same F1 F' ∧ F' p = none ∧ H' p = some (.lst vs) ∧ DqAll F' vs acc ∧ (∀ j, p ∉ fp' j) ∧ acc.length ≤ i ∧ Iv i acc)
    ⟨F1, [], [], fp1, t2, Same.refl _, n1, upd_same, .nil, n3, Nat.le_refl _, i0⟩ (fun i H' _ ⟨F', acc, vs, fp', t', e', _⟩ => hG F' H' e' t'.ex) ?_ ?_
  · rintro i v H2 H3 hi ⟨F2, acc, vs, fp2, t3, e2, m1, m2, m3, m4, m5, iv⟩ y
    obtain ⟨F3, d, g, hd, hv⟩ := hY i F2 H2 v H3 hi e2 t3.ex y
    have t4 := t3.grow g
    have m2' := g.h _ _ m2
    have m1' := g.n p m1 (by rw [m2]; simp)
    have t5 : Stt X.K (Here fp2 F3 H3) ρ1 fp2 F3 (wipe σ (own.map (·.2))) H3 := by
      have q := t4.here.wipe (own.map (·.2))
      rw [hfg] at q
      exact q
    intro B
    refine turn i d acc hd iv B _ fp2 F3 _ H3 v _ t5 hv fun σ2 ρ2 fp3 t6 u6 w6 h6 => ⟨u6.wipe hix, fun B => ?_⟩
    -- back to the outer slots
    have out : ∀ {fp4 : Nat → List Addr} {F4 H4 : Hp}, Stt X.K (Here fp2 F3 H3) ρ2 fp4 F4 σ2 H4 → Stt X.K Γ ρ1 fp4 F4 σ H4 ∧ H4 p = some (.lst vs) ∧ F4 p = none ∧ (∀ j, p ∉ fp4 j) := fun t7 => by
      obtain ⟨k1, k2, k3⟩ := t7.kept m2' m1' m4
      refine ⟨(t4.back t7).weak t4.len fun j c e => ?_, k1, k2, k3⟩
      have nj : j ∉ own.map (·.2) := fun z => noForget hfg z e
      have ni : j ∉ ix := fun z => nj (hix j z)
      exact ⟨by rw [w6.2 j ni]; exact e, by rw [u6.2 j ni, wipe_get nj]⟩
    refine h6 B _ fp3 F3 σ2 H3 _ t6 fun b F4 H4 ρ3 fp4 t7 f7 ⟨e3, h7⟩ => ?_
    subst e3
    cases b with
    | false =>
      obtain ⟨t8, k1, k2, k3⟩ := out t7
      exact iteF ⟨F4, acc, vs, fp4, t8, (e2.trans g.f).trans f7, k2, k1, dpAll_same (g.f.trans f7) m3, k3, by omega, h7⟩
    | true =>
      refine iteT fun B => (show ∀ B, EV (Bx X scope B) elt ρ3 _ from h7) B _ fp4 F4 σ2 H4 _ t7 fun u F5 H5 z ρ4 fp5 t9 f9 r9 ⟨e4, z', ez, iv'⟩ => ?_
      subst e4 ez
      obtain ⟨t8, k1, k2, k3⟩ := out t9
      have hp0 : Γ.H p = none := n2
      refine ⟨vs, k1, by rw [m3.len]; exact small5' (by omega), F5, acc ++ [z'], vs ++ [u], fp5, t8.poke k2 hp0 k3, ((e2.trans g.f).trans f7).trans f9, k2, upd_same, DqAll.app (dpAll_same ((g.f.trans f7).trans f9) m3) (.cons r9 .nil), k3, ?_, iv'⟩
      rw [List.length_append, List.length_singleton]
      omega
  · rintro H2 ⟨F2, acc, vs, fp2, t3, e2, m1, m2, m3, m4, m5, iv⟩
    exact k p vs F2 H2 acc ρ1 fp2 t3 (f1.trans e2) m1 m2 m3 n2 m4 (fin acc iv)
theorem en_lc {Qn : List D → Ev → Prop} {elt tg iter : Expr} {ifs : List Expr} {scope : Scope} {ix : List Nat} (own : List (Str × Nat)) (hc : X.calm = true) (hN : X.N.Nodup)
    (h : IE X tg iter ρ fun items ρ1 => forget ρ1 (own.map (·.2)) = ρ1 ∧ items.length ≤ 100000 ∧ ∃ I : Nat → List D → Prop, I 0 [] ∧ (∀ i x acc, items[i]? = some x → I i acc → LcT X scope tg ix ifs elt ρ1 x acc (I (i + 1))) ∧ ∀ acc, I items.length acc → Qn acc ρ1)
    (ok : BlkOk X.N X.env.scope scope own := by exact blkOk_by (by kernel_rfl)) (hix : ∀ i ∈ ix, i ∈ own.map (·.2) := by decide) (hs : ∀ x, foldedSetIterable iter X.env x = pure x := by intro _; rfl) : EN X (.ListComp elt [⟨tg, iter, ifs, 0⟩] scope pos) ρ Qn := fun Γ fp F σ H Φ t k pins s I =>
  (pe_lc (g := bG X scope tg) (tt := bTs X scope ifs) (te := bE X scope elt) hc hN pi_w ok (fun s H C cl fp => ⟨fun pins s1 σ H1 v u Q I r h => h ⟨s, H, C, cl, fp⟩ pins s1 u I r⟩) (fun s H C cl fp => ⟨fun pins s1 σ H1 Q I h => h ⟨s, H, C, cl, fp⟩ pins s1 I⟩)
    (fun s H C cl fp => ⟨fun pins s1 σ H1 Q I h => h ⟨s, H, C, cl, fp⟩ pins s1 I⟩) hs).run pins s σ H Φ I (lc_read own h hix Γ fp F σ H Φ t k)
end
end DL
end PartDL4
section PartDL5
set_option maxRecDepth 100000
set_option maxHeartbeats 2000000
/-! DL5: statements, defs. -/
namespace DL
open PySem PySem.Spec PyProof.Rows L2
section
variable {X : Cx} {ρ : Ev} {pos p : Pos} {a b e : Expr} {es : List Expr} {x : Str} {K : PySem.W.Frag}

def wS (X : Cx) (st : Stmt) : TS := fun D σ H => ∀ (pins : List (Addr × Obj)) (s : Shared), L2.Inv X pins σ H s → wpAny (model X.prog X.w) X.A (exec st X.env) (SP X pins D) X.xe s
def wSs (X : Cx) (st : List Stmt) : TS := fun D σ H => ∀ (pins : List (Addr × Obj)) (s : Shared), L2.Inv X pins σ H s → wpAny (model X.prog X.w) X.A (execs st X.env) (SP X pins D) X.xe s
theorem ps_w {st : Stmt} : PS X st (wS X st) := ⟨fun pins s _ _ _ I h => h pins s I⟩
theorem pss_w {st : List Stmt} : PSs X st (wSs X st) := ⟨fun pins s _ _ _ I h => h pins s I⟩
/-- an exception: its class's name, its one field, what the field holds -/
structure Exn where
  nm : Str
  fld : Str
  x : D
def ExnRep (mg : Str → Option Value) (F : Hp) (cls : Value) (d : Option Addr) (c : Exn) : Prop := ∃ C dd v, cls = .ref C ∧ mg c.nm = some (.ref C) ∧ d = some dd ∧ F dd = some (.xd [(c.fld, v)]) ∧ Dq F v c.x
/-- an exception may leave -/
def XOk (X : Cx) (cls : Value) (d : Option Addr) (σ : L2.St) (H : Hp) : Prop := ∃ W : WX, Takes X W ∧ W cls d σ H
/-- what is wanted behind a statement, by data -/
structure Rt where
  nx : Ev → Prop
  rt : P → Ev → Prop
  bk : Ev → Prop := fun _ => False
  ct : Ev → Prop := fun _ => False
  xc : Exn → Prop := fun _ => False
structure EndsOk (X : Cx) (Γ : Anc) (R : Rt) (D : Ends) : Prop where
  nx : ∀ ρ' fp' F' σ' H', Stt X.K Γ ρ' fp' F' σ' H' → R.nx ρ' → D.nx σ' H'
  rt : ∀ v p ρ' fp' F' σ' H', Stt X.K Γ ρ' fp' F' σ' H' → Rep X.K F' v p → R.rt p ρ' → D.rt v H'
  bk : ∀ ρ' fp' F' σ' H', Stt X.K Γ ρ' fp' F' σ' H' → R.bk ρ' → D.bk σ' H'
  ct : ∀ ρ' fp' F' σ' H', Stt X.K Γ ρ' fp' F' σ' H' → R.ct ρ' → D.ct σ' H'
  xc : ∀ c cls d ρ' fp' F' σ' H', Stt X.K Γ ρ' fp' F' σ' H' → ExnRep X.mg F' cls d c → R.xc c → XOk X cls d σ' H'
def SS (X : Cx) (st : Stmt) (ρ : Ev) (R : Rt) : Prop := ∀ (Γ : Anc) (fp : Nat → List Addr) (F : Hp) (σ : L2.St) (H : Hp) (D : Ends), Stt X.K Γ ρ fp F σ H → EndsOk X Γ R D → wS X st D σ H
def SSs (X : Cx) (st : List Stmt) (ρ : Ev) (R : Rt) : Prop := ∀ (Γ : Anc) (fp : Nat → List Addr) (F : Hp) (σ : L2.St) (H : Hp) (D : Ends), Stt X.K Γ ρ fp F σ H → EndsOk X Γ R D → wSs X st D σ H
variable {R : Rt} {st : Stmt} {sts : List Stmt}
theorem ss_nil (q : R.nx ρ) : SSs X [] ρ R := fun Γ fp F σ H D t k pins s I => pss_nil.run pins s σ H D I (k.nx ρ fp F σ H t q)
theorem ss_cons (h : SS X st ρ { R with nx := fun ρ1 => SSs X sts ρ1 R }) : SSs X (st :: sts) ρ R := fun Γ fp F σ H D t k pins s I =>
  (pss_cons ps_w (pss_w (st := sts))).run pins s σ H D I (h Γ fp F σ H _ t ⟨fun ρ1 fp1 F1 σ1 H1 t1 q => q Γ fp1 F1 σ1 H1 D t1 k, k.rt, k.bk, k.ct, k.xc⟩)
theorem ss_one (h : SS X st ρ R) : SSs X [st] ρ R := fun Γ fp F σ H D t k pins s I => (pss_one ps_w).run pins s σ H D I (h Γ fp F σ H D t k)
theorem SS.mono {R' : Rt} (h : SS X st ρ R) (h1 : ∀ ρ', R.nx ρ' → R'.nx ρ') (h2 : ∀ p ρ', R.rt p ρ' → R'.rt p ρ') (h3 : ∀ ρ', R.bk ρ' → R'.bk ρ') (h4 : ∀ ρ', R.ct ρ' → R'.ct ρ') (h5 : ∀ c, R.xc c → R'.xc c) : SS X st ρ R' := fun Γ fp F σ H D t k =>
  h Γ fp F σ H D t ⟨fun ρ' fp' F' σ' H' t' q => k.nx ρ' fp' F' σ' H' t' (h1 _ q), fun v p ρ' fp' F' σ' H' t' r q => k.rt v p ρ' fp' F' σ' H' t' r (h2 _ _ q), fun ρ' fp' F' σ' H' t' q => k.bk ρ' fp' F' σ' H' t' (h3 _ q), fun ρ' fp' F' σ' H' t' q => k.ct ρ' fp' F' σ' H' t' (h4 _ q), fun c cls d ρ' fp' F' σ' H' t' r q => k.xc c cls d ρ' fp' F' σ' H' t' r (h5 _ q)⟩
theorem SSs.mono {R' : Rt} (h : SSs X sts ρ R) (h1 : ∀ ρ', R.nx ρ' → R'.nx ρ') (h2 : ∀ p ρ', R.rt p ρ' → R'.rt p ρ') (h3 : ∀ ρ', R.bk ρ' → R'.bk ρ') (h4 : ∀ ρ', R.ct ρ' → R'.ct ρ') (h5 : ∀ c, R.xc c → R'.xc c) : SSs X sts ρ R' := fun Γ fp F σ H D t k =>
  h Γ fp F σ H D t ⟨fun ρ' fp' F' σ' H' t' q => k.nx ρ' fp' F' σ' H' t' (h1 _ q), fun v p ρ' fp' F' σ' H' t' r q => k.rt v p ρ' fp' F' σ' H' t' r (h2 _ _ q), fun ρ' fp' F' σ' H' t' q => k.bk ρ' fp' F' σ' H' t' (h3 _ q), fun ρ' fp' F' σ' H' t' q => k.ct ρ' fp' F' σ' H' t' (h4 _ q), fun c cls d ρ' fp' F' σ' H' t' r q => k.xc c cls d ρ' fp' F' σ' H' t' r (h5 _ q)⟩
theorem ss_ret (h : EV X e ρ R.rt) : SS X (.Return (some e) pos) ρ R := fun Γ fp F σ H D t k pins s I => (ps_ret pe_w).run pins s σ H D I (h Γ fp F σ H _ t fun v F' H' p ρ' fp' t' f r q => k.rt v p ρ' fp' F' σ H' t' r q)
theorem ss_retN (h : R.rt (.d .none) ρ) : SS X (.Return none pos) ρ R := fun Γ fp F σ H D t k pins s I => ps_retN.run pins s σ H D I (k.rt _ _ ρ fp F σ H t rpN h)
theorem ss_pass (h : R.nx ρ) : SS X (.Pass pos) ρ R := fun Γ fp F σ H D t k pins s I => ps_pass.run pins s σ H D I (k.nx ρ fp F σ H t h)
theorem ss_break (h : R.bk ρ) : SS X (.Break pos) ρ R := fun Γ fp F σ H D t k pins s I => ps_break.run pins s σ H D I (k.bk ρ fp F σ H t h)
theorem ss_continue (h : R.ct ρ) : SS X (.Continue pos) ρ R := fun Γ fp F σ H D t k pins s I => ps_continue.run pins s σ H D I (k.ct ρ fp F σ H t h)
theorem ss_expr (h : EV X e ρ fun _ ρ1 => R.nx ρ1) (hs : swapsWith e none pos.line X.env = pure false := by rfl) : SS X (.Expr e pos) ρ R := fun Γ fp F σ H D t k pins s I =>
  (ps_expr pe_w hs).run pins s σ H D I (h Γ fp F σ H _ t fun v F' H' p ρ' fp' t' f r q => k.nx ρ' fp' F' σ H' t' q)
theorem ss_if {c : Expr} {s1 s2 : List Stmt} (h : ET X c ρ fun z ρ1 => if z = true then SSs X s1 ρ1 R else SSs X s2 ρ1 R) : SS X (.If c s1 s2 pos) ρ R := fun Γ fp F σ H D t k pins s I =>
  (ps_if pt_w (pss_w (st := s1)) (pss_w (st := s2))).run pins s σ H D I (h Γ fp F σ H _ t fun z F1 H1 ρ1 fp1 t1 f1 q => by
    cases z with
    | true => exact iteT ((show SSs X s1 ρ1 R from q) Γ fp1 F1 σ H1 D t1 k)
    | false => exact iteF ((show SSs X s2 ρ1 R from q) Γ fp1 F1 σ H1 D t1 k))

/-! ### what a slot may be given -/
def EC (X : Cx) (e : Expr) (ρ : Ev) (Q : Cell → Ev → Prop) : Prop := ∀ (Γ : Anc) (fp : Nat → List Addr) (F : Hp) (σ : L2.St) (H : Hp) (Φ : VK), Stt X.K Γ ρ fp F σ H →
  (∀ v F' H' c as ρ' fp', Stt X.K Γ ρ' fp' F' σ H' → Same F F' → CellOk X.K F' H' v c as → (∀ a ∈ as, F' a = none ∧ H' a ≠ none ∧ Γ.H a = none) → (∀ a ∈ as, ∀ j, a ∉ fp' j) → Q c ρ' → Φ v H') → wE X e σ H Φ
section
variable {Q : Cell → Ev → Prop}
theorem EV.ec (h : EV X e ρ fun y ρ1 => Q (.p y) ρ1) : EC X e ρ Q := fun Γ fp F σ H Φ t k => h Γ fp F σ H Φ t fun v F' H' p ρ' fp' t' f r q => k v F' H' (.p p) [] ρ' fp' t' f r (fun _ z => nomatch z) (fun _ z => nomatch z) q
theorem EN.ec (h : EN X e ρ fun ds ρ1 => Q (.own ds) ρ1) : EC X e ρ Q := fun Γ fp F σ H Φ t k => h Γ fp F σ H Φ t fun a vs F' H' ds ρ' fp' t' f n1 n2 r n3 n4 q =>
  k (.ref a) F' H' (.own ds) [a] ρ' fp' t' f ⟨a, vs, rfl, rfl, n2, r⟩ (fun b hb => by
    have e : b = a := by simpa using hb
    subst e
    exact ⟨n1, by rw [n2]; simp, n3⟩) (fun b hb => by
    have e : b = a := by simpa using hb
    subst e
    exact n4) q
theorem ec_dict {n : Nat} (q : Q (.dk []) ρ) (h : PE X e fun σ H Φ => ∀ d, H d = none → Φ (.ref d) (upd H d (.dK []))) : EC X e ρ Q := fun Γ fp F σ H Φ t k pins s I => h.run pins s σ H Φ I fun d hd => by
  obtain ⟨t2, n1, n2, n3⟩ := en_fin t hd (.dK [])
  exact k (.ref d) F _ (.dk []) [d] ρ fp t2 (Same.refl _) ⟨d, [], rfl, rfl, upd_same, .nil⟩ (fun b hb => by
    have e : b = d := by simpa using hb
    subst e
    exact ⟨n1, by rw [upd_same]; simp, n2⟩) (fun b hb => by
    have e : b = d := by simpa using hb
    subst e
    exact n3) q
end
/-- x = e -/
theorem ss_set (i : Nat) {x : Str} {p1 : Pos} (h : EC X e ρ fun c ρ1 => R.nx (ρ1.set i (some c))) (hN : X.N.Nodup) (hi : X.N[i]? = some x := by rfl) (hx : Loc X.env.scope x := by first | exact Or.inl rfl | exact Or.inr rfl) (hs : swapsWith e (some (.Name x p1)) pos.line X.env = pure false := by rfl)
    (hf : X.fn x = true ∨ X.env.scope.names.lookup x = some .local := by first | exact .inl rfl | exact .inr rfl) : SS X (.Assign [.Name x p1] e pos) ρ R := fun Γ fp F σ H D t k pins s I =>
  (ps_set hN hi hx pe_w hs hf).run pins s σ H D I (h Γ fp F σ H _ t fun v F' H' c as ρ' fp' t' f r o n q => k.nx _ _ F' _ H' (t'.set r (fun a ha => ⟨(o a ha).1, (o a ha).2.1, .inr (o a ha).2.2⟩) n) q)
/-- x = [..], a comprehension -/
theorem ss_setLc (i : Nat) {x : Str} {p1 : Pos} {elt tg iter : Expr} {ifs : List Expr} {scope : Scope} {ix : List Nat} {cpos : Pos} (own : List (Str × Nat)) (hc : X.calm = true) (hN : X.N.Nodup)
    (h : IE X tg iter ρ fun items ρ1 => forget ρ1 (own.map (·.2)) = ρ1 ∧ items.length ≤ 100000 ∧ ∃ I : Nat → List D → Prop, I 0 [] ∧ (∀ i x acc, items[i]? = some x → I i acc → LcT X scope tg ix ifs elt ρ1 x acc (I (i + 1))) ∧ ∀ acc, I items.length acc → R.nx (ρ1.set i (some (.own acc))))
    (hi : X.N[i]? = some x := by rfl) (hyl : X.env.scope.names.lookup x = some .local := by rfl) (ok : BlkOk X.N X.env.scope scope own := by exact blkOk_by (by kernel_rfl)) (hix : ∀ i ∈ ix, i ∈ own.map (·.2) := by decide) (hs : ∀ x, foldedSetIterable iter X.env x = pure x := by intro _; rfl)
    (hsw : swapsWith (.ListComp elt [⟨tg, iter, ifs, 0⟩] scope cpos) (some (.Name x p1)) pos.line X.env = pure true := by exact sw_true rfl rfl rfl (by kernel_rfl)) : SS X (.Assign [.Name x p1] (.ListComp elt [⟨tg, iter, ifs, 0⟩] scope cpos) pos) ρ R := fun Γ fp F σ H Dd t k pins s I => by
  have h' : EN X (.ListComp elt [⟨tg, iter, ifs, 0⟩] scope cpos) ρ (fun acc ρ1 => R.nx (ρ1.set i (some (.own acc)))) := en_lc own hc hN h ok hix hs
  refine (ps_setLc (g := bG X scope tg) (tt := bTs X scope ifs) (te := bE X scope elt) hc hN hi hyl hsw pi_w ok (fun s H C cl fp => ⟨fun pins s1 σ H1 v u Q I r h => h ⟨s, H, C, cl, fp⟩ pins s1 u I r⟩) (fun s H C cl fp => ⟨fun pins s1 σ H1 Q I h => h ⟨s, H, C, cl, fp⟩ pins s1 I⟩)
    (fun s H C cl fp => ⟨fun pins s1 σ H1 Q I h => h ⟨s, H, C, cl, fp⟩ pins s1 I⟩) hs).run pins s σ H Dd I ?_
  exact lc_read own h hix Γ fp F σ H _ t fun a vs F' H' ds ρ' fp' t' f n1 n2 r n3 n4 q => k.nx _ _ F' _ H' (t'.set (c := .own ds) (as := [a]) ⟨a, vs, rfl, rfl, n2, r⟩ (fun b hb => by
    have e : b = a := by simpa using hb
    subst e
    exact ⟨n1, by rw [n2]; simp, .inr n3⟩) (fun b hb => by
    have e : b = a := by simpa using hb
    subst e
    exact n4)) q
/-- target = e, the target a tuple (or any) -/
theorem ss_asg {tg : Expr} {ix : List Nat} (h : EV X e ρ fun y ρ1 => ∃ d, y = .d d ∧ GB X tg ix d ρ1 R.nx) (hs : swapsWithSole [tg] e pos.line X.env = pure false := by rfl) (hw : swappedStores [tg] e X.env = pure none := by rfl)
    (h1 : (assignEach [tg] X.env).map (·.2) = [assign tg X.env] := by rfl) : SS X (.Assign [tg] e pos) ρ R := fun Γ fp F σ H D t k pins s I =>
  (ps_asg pe_w pg_w hs hw h1).run pins s σ H D I (h Γ fp F σ H _ t fun v F1 H1 y ρ1 fp1 t1 f1 r1 ⟨d, ey, g⟩ => by
    subst ey
    exact g Γ fp1 F1 σ H1 v _ t1 r1 fun σ' ρ' fp' t' _ _ q => k.nx ρ' fp' F1 σ' H1 t' q)
theorem cell_kept {c : Cell} {as : List Addr} {v : V} {ρ2 : Ev} {fp1 fp2 : Nat → List Addr} {F1 H1 F2 H2 : Hp} {σ' : L2.St} {Γ : Anc} (u : Stt K (Here fp1 F1 H1) ρ2 fp2 F2 σ' H2) (f : Same F1 F2) (r : CellOk K F1 H1 v c as)
    (o : ∀ a ∈ as, F1 a = none ∧ H1 a ≠ none ∧ Γ.H a = none) (n : ∀ a ∈ as, ∀ j, a ∉ fp1 j) : CellOk K F2 H2 v c as ∧ (∀ a ∈ as, F2 a = none ∧ H2 a ≠ none ∧ Γ.H a = none) ∧ ∀ a ∈ as, ∀ j, a ∉ fp2 j := by
  have key : ∀ a ∈ as, H2 a = H1 a ∧ F2 a = none ∧ ∀ j, a ∉ fp2 j := fun a ha => by
    obtain ⟨o1, o2, o3⟩ := o a ha
    cases q : H1 a with
    | none => exact absurd q o2
    | some ob => exact u.kept q o1 (n a ha)
  refine ⟨cell_same f (fun a ha => (key a ha).1) r, fun a ha => ⟨(key a ha).2.1, ?_, (o a ha).2.2⟩, fun a ha => (key a ha).2.2⟩
  rw [(key a ha).1]
  exact (o a ha).2.1
/-- a, b = x, y -/
theorem ss_par (i j : Nat) {x y : Str} {px py pt : Pos} {kt k2 pt2} (hij : i ≠ j) (hc : X.calm = true) (hN : X.N.Nodup) (h : EC X a ρ fun c ρ1 => EC X b ρ1 fun c2 ρ2 => R.nx ((ρ2.set i (some c)).set j (some c2)))
    (hi : X.N[i]? = some x := by rfl) (hj : X.N[j]? = some y := by rfl) (hx : X.env.scope.names.lookup x = some .local := by rfl) (hy : X.env.scope.names.lookup y = some .local := by rfl)
    (hw : swappedStores [.Tuple [.Name x px, .Name y py] kt pt] (.Tuple [a, b] k2 pt2) X.env = pure (some [x, y]) := by rfl) (hs : swapsWithSole [.Tuple [.Name x px, .Name y py] kt pt] (.Tuple [a, b] k2 pt2) pos.line X.env = pure false := by rfl)
    (he : starEach [a, b] X.env = (false, eval a X.env) :: starEach [b] X.env := by rfl) (he2 : starEach [b] X.env = (false, eval b X.env) :: starEach [] X.env := by rfl) :
    SS X (.Assign [.Tuple [.Name x px, .Name y py] kt pt] (.Tuple [a, b] k2 pt2) pos) ρ R := fun Γ fp F σ H D t k pins s I =>
  (ps_par hc hN hi hj hij hx hy (pa_cons pe_w (pa_cons pe_w pa_nil he2) he) hw hs).run pins s σ H D I (h Γ fp F σ H _ t fun v F1 H1 c as ρ1 fp1 t1 f1 r1 o1 n1 h2 =>
    h2 _ fp1 F1 σ H1 _ t1.here fun w F2 H2 c2 as2 ρ2 fp2 t2 f2 r2 o2 n2 q => by
      obtain ⟨r3, o3, n3⟩ := cell_kept (Γ := Γ) t2 f2 r1 o1 n1
      have dis : ∀ z ∈ as2, z ∉ as := fun z hz hz' => by
        have e1 : H1 z = none := (o2 z hz).2.2
        exact (o1 z hz').2.1 e1
      have t3 := (t1.back t2).set (i := i) r3 (fun z hz => ⟨(o3 z hz).1, (o3 z hz).2.1, .inr (o3 z hz).2.2⟩) n3
      have t4 := t3.set (i := j) r2 (fun z hz => ⟨(o2 z hz).1, (o2 z hz).2.1, .inr (by
        have e1 : H1 z = none := (o2 z hz).2.2
        cases qq : Γ.H z with
        | none => rfl
        | some ob => exact absurd e1 (t1.thr z (by rw [qq]; simp)))⟩) (fun z hz l hl => by
        by_cases zz : l = i
        · subst zz
          rw [fset_same] at hl
          exact dis z hz hl
        · rw [fset_ne zz] at hl
          exact n2 z hz l hl)
      exact ⟨v, w, rfl, k.nx _ _ F2 _ H2 t4 q⟩)
/-- x, y, z = a, b, c -/
theorem ss_par3 (i j l : Nat) {c : Expr} {x y z : Str} {px py pz pt : Pos} {kt k2 pt2} (hij : i ≠ j) (hil : i ≠ l) (hjl : j ≠ l) (hc : X.calm = true) (hN : X.N.Nodup) (h : EC X a ρ fun c1 ρ1 => EC X b ρ1 fun c2 ρ2 => EC X c ρ2 fun c3 ρ3 => R.nx (((ρ3.set i (some c1)).set j (some c2)).set l (some c3)))
    (hi : X.N[i]? = some x := by rfl) (hj : X.N[j]? = some y := by rfl) (hl : X.N[l]? = some z := by rfl) (hx : X.env.scope.names.lookup x = some .local := by rfl) (hy : X.env.scope.names.lookup y = some .local := by rfl) (hz : X.env.scope.names.lookup z = some .local := by rfl)
    (hw : swappedStores [.Tuple [.Name x px, .Name y py, .Name z pz] kt pt] (.Tuple [a, b, c] k2 pt2) X.env = pure (some [x, y, z]) := by rfl) (hs : swapsWithSole [.Tuple [.Name x px, .Name y py, .Name z pz] kt pt] (.Tuple [a, b, c] k2 pt2) pos.line X.env = pure false := by rfl)
    (he : starEach [a, b, c] X.env = (false, eval a X.env) :: starEach [b, c] X.env := by rfl) (he2 : starEach [b, c] X.env = (false, eval b X.env) :: starEach [c] X.env := by rfl) (he3 : starEach [c] X.env = (false, eval c X.env) :: starEach [] X.env := by rfl) :
    SS X (.Assign [.Tuple [.Name x px, .Name y py, .Name z pz] kt pt] (.Tuple [a, b, c] k2 pt2) pos) ρ R := fun Γ fp F σ H D t k pins s I =>
  (ps_par3 hc hN hi hj hl hij hil hjl hx hy hz (pa_cons pe_w (pa_cons pe_w (pa_cons pe_w pa_nil he3) he2) he) hw hs).run pins s σ H D I (h Γ fp F σ H _ t fun v F1 H1 c as ρ1 fp1 t1 f1 r1 o1 n1 h2 =>
    h2 _ fp1 F1 σ H1 _ t1.here fun w F2 H2 c2 as2 ρ2 fp2 t2 f2 r2 o2 n2 h3 => h3 _ fp2 F2 σ H2 _ t2.here fun u F3 H3 c3 as3 ρ3 fp3 t3 f3 r3 o3 n3 q => by
      obtain ⟨r1', o1', n1'⟩ := cell_kept (Γ := Γ) t2 f2 r1 o1 n1
      obtain ⟨r1'', o1'', n1''⟩ := cell_kept (Γ := Γ) t3 f3 r1' o1' n1'
      have up : ∀ z, H1 z = none → Γ.H z = none := fun z e1 => by
        cases qq : Γ.H z with
        | none => rfl
        | some ob => exact absurd e1 (t1.thr z (by rw [qq]; simp))
      have T2 := t1.back t2
      have up2 : ∀ z, H2 z = none → Γ.H z = none := fun z e1 => by
        cases qq : Γ.H z with
        | none => rfl
        | some ob => exact absurd e1 (T2.thr z (by rw [qq]; simp))
      have o2g : ∀ a ∈ as2, F2 a = none ∧ H2 a ≠ none ∧ Γ.H a = none := fun z hz => ⟨(o2 z hz).1, (o2 z hz).2.1, up z (o2 z hz).2.2⟩
      obtain ⟨r2', o2', n2'⟩ := cell_kept (Γ := Γ) t3 f3 r2 o2g n2
      have o3g : ∀ a ∈ as3, F3 a = none ∧ H3 a ≠ none ∧ Γ.H a = none := fun z hz => ⟨(o3 z hz).1, (o3 z hz).2.1, up2 z (o3 z hz).2.2⟩
      have d12 : ∀ z ∈ as2, z ∉ as := fun z hz hz' => (o1 z hz').2.1 (o2 z hz).2.2
      have d23 : ∀ z ∈ as3, z ∉ as2 := fun z hz hz' => (o2 z hz').2.1 (o3 z hz).2.2
      have d13 : ∀ z ∈ as3, z ∉ as := fun z hz hz' => (o1' z hz').2.1 (o3 z hz).2.2
      have T3 := T2.back t3
      have t4 := T3.set (i := i) r1'' (fun z hz => ⟨(o1'' z hz).1, (o1'' z hz).2.1, .inr (o1'' z hz).2.2⟩) n1''
      have t5 := t4.set (i := j) r2' (fun z hz => ⟨(o2' z hz).1, (o2' z hz).2.1, .inr (o2' z hz).2.2⟩) (fun z hz m hm => by
        by_cases zz : m = i
        · subst zz
          rw [fset_same] at hm
          exact d12 z hz hm
        · rw [fset_ne zz] at hm
          exact n2' z hz m hm)
      have t6 := t5.set (i := l) r3 (fun z hz => ⟨(o3g z hz).1, (o3g z hz).2.1, .inr (o3g z hz).2.2⟩) (fun z hz m hm => by
        by_cases z1 : m = j
        · subst z1
          rw [fset_same] at hm
          exact d23 z hz hm
        · rw [fset_ne z1] at hm
          by_cases zz : m = i
          · subst zz
            rw [fset_same] at hm
            exact d13 z hz hm
          · rw [fset_ne zz] at hm
            exact n3 z hz m hm)
      exact ⟨v, w, u, rfl, k.nx _ _ F3 _ H3 t6 q⟩)

/-! ### lists of one's own -/
theorem own_at {Γ : Anc} {fp : Nat → List Addr} {F H : Hp} {σ : L2.St} (t : Stt K Γ ρ fp F σ H) {i : Nat} {ds : List D} (h : ρ[i]? = some (some (.own ds))) : ∃ a vs, fp i = [a] ∧ σ[i]? = some (some (.ref a)) ∧ H a = some (.lst vs) ∧ DqAll F vs ds ∧ i < ρ.length := by
  obtain ⟨v, h1, a, vs, hf, rfl, ha, hd⟩ := t.cells i _ h
  exact ⟨a, vs, hf, h1, ha, hd, (List.getElem?_eq_some_iff.mp h).1⟩
/-- x.append(e) -/
theorem ss_app (i : Nat) {x : Str} {p1 apos cpos : Pos} {ds0 : List D} (h : EV X e ρ fun y ρ1 => ∃ d ds, y = .d d ∧ ρ1[i]? = some (some (.own ds)) ∧ ds.length < 100000 ∧ R.nx (ρ1.set i (some (.own (ds ++ [d]))))) (h0 : ρ[i]? = some (some (.own ds0)) := by rfl)
    (hN : X.N[i]? = some x := by rfl) (hv : Vis X.env.scope x := by first | exact Or.inl rfl | exact Or.inr (Or.inl rfl) | exact Or.inr (Or.inr rfl)) (hd : (x == ("__debug__" : Str)) = false := by decide) (hcd : (x == ("__classdict__" : Str)) = false := by decide)
    (hbase : attributeBase (.Name x p1) "append" X.env (eval (.Name x p1) X.env) = eval (.Name x p1) X.env := by rfl)
    (hfew : ((backTo cpos (starEach [e] X.env)).all (fun x => !x.1) && (backToKw cpos (keywordEach [] X.env)).all (fun x => x.1.isSome)
      && decide ([e].length + ([] : List Keyword).length + (if ([] : List Keyword).isEmpty then 0 else 1) < 30)) = true := by rfl)
    (hline : (apos.endLine == cpos.line) = true := by rfl) (hs : starEach [e] X.env = (false, eval e X.env) :: starEach [] X.env := by rfl) (hplain : (backTo cpos (starEach [] X.env)).any (·.1) = false := by rfl)
    (hsw : swapsWith (.Call (.Attribute (.Name x p1) "append" apos) [e] [] cpos) none pos.line X.env = pure false := by rfl) : SS X (.Expr (.Call (.Attribute (.Name x p1) "append" apos) [e] [] cpos) pos) ρ R := fun Γ fp F σ H Dd t k pins s I => by
  obtain ⟨a0, vs0, hf0, hv0, ha0, hd0, hl0⟩ := own_at t h0
  refine (ps_expr (pe_bm PySem.F.plainAttrs_list PySem.F.slot_list_append PySem.F.type_list_append mt_append (pe_var hN hv hd hcd) (pa_cons pe_w pa_nil hs) hbase hfew hline hs hplain) hsw).run pins s σ H Dd I ⟨.ref a0, hv0, .inl ⟨rfl, vs0, SqL.of ha0⟩,
    h Γ fp F σ H _ t fun v F1 H1 y ρ1 fp1 t1 f1 r1 ⟨d, ds, ey, h1, hl, q⟩ => ?_⟩
  subst ey
  obtain ⟨a1, vs1, hf1, hv1, ha1, hd1, hl1⟩ := own_at t1 h1
  rw [hv0] at hv1
  cases hv1
  refine ⟨a0, vs1, v, rfl, rfl, ha1, by rw [hd1.len]; exact small5' (by omega), k.nx _ fp1 F1 σ _ (t1.write (c := .own (ds ++ [d])) hf1 hv0 hl1 ⟨a0, vs1 ++ [v], rfl, rfl, upd_same, DqAll.app hd1 (.cons r1 .nil)⟩) q⟩
variable {Q : P → Ev → Prop}
theorem dropLast_dp {F : Hp} : ∀ {vs : List V} {ds : List D}, DqAll F vs ds → DqAll F vs.dropLast ds.dropLast := fun {vs ds} h => by
  rw [List.dropLast_eq_take, List.dropLast_eq_take, h.len]
  exact DqAll.take _ h
/-- x.pop() -/
theorem ev_pop (i : Nat) {x : Str} {p1 apos cpos : Pos} {ds : List D} {d : D} (hl : ds.getLast? = some d) (q : Q (.d d) (ρ.set i (some (.own ds.dropLast)))) (h0 : ρ[i]? = some (some (.own ds)) := by rfl)
    (hN : X.N[i]? = some x := by rfl) (hv : Vis X.env.scope x := by first | exact Or.inl rfl | exact Or.inr (Or.inl rfl) | exact Or.inr (Or.inr rfl)) (hd : (x == ("__debug__" : Str)) = false := by decide) (hcd : (x == ("__classdict__" : Str)) = false := by decide)
    (hbase : attributeBase (.Name x p1) "pop" X.env (eval (.Name x p1) X.env) = eval (.Name x p1) X.env := by rfl) (hline : (apos.endLine == cpos.line) = true := by rfl) : EV X (.Call (.Attribute (.Name x p1) "pop" apos) [] [] cpos) ρ Q := fun Γ fp F σ H Φ t k pins s I => by
  obtain ⟨a0, vs0, hf0, hv0, ha0, hd0, hl0⟩ := own_at t h0
  have e1 : ds[ds.length - 1]? = some d := by rw [← List.getLast?_eq_getElem?]; exact hl
  obtain ⟨v, h1, h2⟩ := hd0.get e1
  refine (pe_bm0 PySem.F.plainAttrs_list PySem.F.slot_list_pop PySem.F.type_list_pop mt_pop (pe_var hN hv hd hcd) hbase hline).run pins s σ H Φ I ⟨.ref a0, hv0, .inl ⟨rfl, vs0, SqL.of ha0⟩, a0, vs0, v, rfl, rfl, ha0, by rw [hd0.len]; exact h1, ?_⟩
  exact k v F _ (.d d) _ fp (t.write (c := .own ds.dropLast) hf0 hv0 hl0 ⟨a0, vs0.dropLast, rfl, rfl, upd_same, dropLast_dp hd0⟩) (Same.refl _) h2 q
/-- x.pop(e) -/
theorem ev_popAt (i : Nat) {x : Str} {p1 apos cpos : Pos} {ds0 : List D} (h : EV X e ρ fun y ρ1 => ∃ (j : Nat) (d : D) (ds : List D), y = .d (.int j) ∧ ρ1[i]? = some (some (.own ds)) ∧ ds.length < 100000 ∧ ds[j]? = some d ∧ Q (.d d) (ρ1.set i (some (.own (ds.eraseIdx j))))) (h0 : ρ[i]? = some (some (.own ds0)) := by rfl)
    (hN : X.N[i]? = some x := by rfl) (hv : Vis X.env.scope x := by first | exact Or.inl rfl | exact Or.inr (Or.inl rfl) | exact Or.inr (Or.inr rfl)) (hd : (x == ("__debug__" : Str)) = false := by decide) (hcd : (x == ("__classdict__" : Str)) = false := by decide)
    (hbase : attributeBase (.Name x p1) "pop" X.env (eval (.Name x p1) X.env) = eval (.Name x p1) X.env := by rfl)
    (hfew : ((backTo cpos (starEach [e] X.env)).all (fun x => !x.1) && (backToKw cpos (keywordEach [] X.env)).all (fun x => x.1.isSome)
      && decide ([e].length + ([] : List Keyword).length + (if ([] : List Keyword).isEmpty then 0 else 1) < 30)) = true := by rfl)
    (hline : (apos.endLine == cpos.line) = true := by rfl) (hs : starEach [e] X.env = (false, eval e X.env) :: starEach [] X.env := by rfl) (hplain : (backTo cpos (starEach [] X.env)).any (·.1) = false := by rfl) : EV X (.Call (.Attribute (.Name x p1) "pop" apos) [e] [] cpos) ρ Q := fun Γ fp F σ H Φ t k pins s I => by
  obtain ⟨a0, vs0, hf0, hv0, ha0, hd0, hl0⟩ := own_at t h0
  refine (pe_bm PySem.F.plainAttrs_list PySem.F.slot_list_pop PySem.F.type_list_pop mt_popAt (pe_var hN hv hd hcd) (pa_cons pe_w pa_nil hs) hbase hfew hline hs hplain).run pins s σ H Φ I ⟨.ref a0, hv0, .inl ⟨rfl, vs0, SqL.of ha0⟩,
    h Γ fp F σ H _ t fun w F1 H1 y ρ1 fp1 t1 f1 r1 ⟨j, d, ds, ey, h1, hl, hj, q⟩ => ?_⟩
  subst ey
  obtain ⟨a1, vs1, hf1, hv1, ha1, hd1, hl1⟩ := own_at t1 h1
  rw [hv0] at hv1
  cases hv1
  obtain ⟨v, g1, g2⟩ := hd1.get hj
  have hjl : j < ds.length := (List.getElem?_eq_some_iff.mp hj).1
  have hsx : seqIndex? (j : Int) vs1.length = some j := by
    have q : ixN vs1.length (j : Int) = some j := by
      unfold ixN
      rw [if_pos (by omega), if_pos (by rw [hd1.len]; omega)]
      simp
    exact (ixN_seq q).1
  refine ⟨a0, vs1, (j : Int), j, v, rfl, by rw [rep_int r1], ha1, by omega, by omega, hsx, g1, ?_⟩
  exact k v F1 _ (.d d) _ fp1 (t1.write (c := .own (ds.eraseIdx j)) hf1 hv0 hl1 ⟨a0, vs1.eraseIdx j, rfl, rfl, upd_same, DqAll.erase j hd1⟩) f1 g2 q

/-! ### loops -/
theorem ss_for {tg iter : Expr} {ix : List Nat} {body : List Stmt} (hp : PassesOwn (model X.prog X.w) X.A X.env X.xe) (hc : X.calm = true)
    (h : IE X tg iter ρ fun items ρ1 => ∃ W : Nat → Ev → Prop, W 0 ρ1 ∧ (∀ i x ρ', items[i]? = some x → W i ρ' → GB X tg ix x ρ' fun ρ2 => SSs X body ρ2 ⟨W (i + 1), R.rt, R.nx, W (i + 1), R.xc⟩) ∧ ∀ ρ', W items.length ρ' → R.nx ρ')
    (hs : ∀ x, foldedSetIterable iter X.env x = pure x := by intro _; rfl) : SS X (.For tg iter body [] pos) ρ R := fun Γ fp F σ H D t k pins s I => by
  refine (ps_for hp hc pi_w pg_w (pss_w (st := body)) hs).run pins s σ H D I (h Γ fp F σ H _ t fun J items G Y F1 H1 ρ1 fp1 t1 f1 w hG hY ⟨W, w0, turn, fin⟩ => ?_)
  refine for_it w (fun i σ' H' => ∃ F' ρ' fp', Stt X.K Γ ρ' fp' F' σ' H' ∧ Same F1 F' ∧ W i ρ') ⟨F1, ρ1, fp1, t1, Same.refl _, w0⟩ (fun i σ' H' _ ⟨F', ρ', fp', t', e', _⟩ => hG F' H' e' t'.ex) ?_ ?_
  · rintro i v σ2 H2 H3 hi ⟨F2, ρ2, fp2, t2, e2, w2⟩ y
    obtain ⟨F3, d, g, hd, hv⟩ := hY i F2 H2 v H3 hi e2 t2.ex y
    -- the anchor moved to the turn's start: what was fixed there stays
    have t3 := (t2.grow g)
    refine turn i d ρ2 hd w2 _ fp2 F3 σ2 H3 v _ t3.here hv fun σ' ρ' fp' t4 _ _ h4 => h4 _ fp' F3 σ' H3 _ t4 ⟨fun ρ5 fp5 F5 σ5 H5 t5 q => ?_, fun u pp ρ5 fp5 F5 σ5 H5 t5 r q => ?_, fun ρ5 fp5 F5 σ5 H5 t5 q => ?_, fun ρ5 fp5 F5 σ5 H5 t5 q => ?_, fun c cls d ρ5 fp5 F5 σ5 H5 t5 r q => k.xc c cls d ρ5 fp5 F5 σ5 H5 (t3.back t5) r q⟩
    · exact ⟨F5, ρ5, fp5, t3.back t5, (e2.trans g.f).trans t5.exF, q⟩
    · exact k.rt u pp ρ5 fp5 F5 σ5 H5 (t3.back t5) r q
    · exact k.nx ρ5 fp5 F5 σ5 H5 (t3.back t5) q
    · exact ⟨F5, ρ5, fp5, t3.back t5, (e2.trans g.f).trans t5.exF, q⟩
  · rintro σ2 H2 ⟨F2, ρ2, fp2, t2, e2, w2⟩
    exact k.nx ρ2 fp2 F2 σ2 H2 t2 (fin ρ2 w2)
theorem ss_while {c : Expr} {body : List Stmt} (hp : PassesOwn (model X.prog X.w) X.A X.env X.xe) (W : Nat → Ev → Prop) (m : Nat) (w0 : W m ρ)
    (h : ∀ m ρ', W m ρ' → ET X c ρ' fun b ρ1 => if b = true then SSs X body ρ1 ⟨fun ρ2 => ∃ m', m' < m ∧ W m' ρ2, R.rt, R.nx, fun ρ2 => ∃ m', m' < m ∧ W m' ρ2, R.xc⟩ else R.nx ρ1) : SS X (.While c body [] pos) ρ R := fun Γ fp F σ H D t k pins s I => by
  refine (ps_while hp pt_w (pss_w (st := body))).run pins s σ H D I ⟨fun m σ' H' => ∃ F' ρ' fp', Stt X.K Γ ρ' fp' F' σ' H' ∧ W m ρ', ⟨m, F, ρ, fp, t, w0⟩, ?_⟩
  rintro m σ2 H2 ⟨F2, ρ2, fp2, t2, w2⟩
  refine h m ρ2 w2 Γ fp2 F2 σ2 H2 _ t2 fun b F3 H3 ρ3 fp3 t3 f3 q => ?_
  cases b with
  | true =>
    refine iteT ⟨fun σ' H' => ∃ m', m' < m ∧ ∃ F' ρ' fp', Stt X.K Γ ρ' fp' F' σ' H' ∧ W m' ρ', fun σ' H' z => z, (show SSs X body ρ3 _ from q) Γ fp3 F3 σ2 H3 _ t3 ⟨fun ρ5 fp5 F5 σ5 H5 t5 ⟨m', hm, q5⟩ => ⟨m', hm, F5, ρ5, fp5, t5, q5⟩, k.rt, k.nx, fun ρ5 fp5 F5 σ5 H5 t5 ⟨m', hm, q5⟩ => ⟨m', hm, F5, ρ5, fp5, t5, q5⟩, k.xc⟩⟩
  | false => exact iteF (k.nx ρ3 fp3 F3 σ2 H3 t3 q)
end

/-! ### defs -/
/-- the slots at a def's entry -/
def st0 (N : List Str) (ps : List P) : Ev := ps.map (fun p => some (.p p)) ++ List.replicate (N.length - ps.length) none
section
variable {P : Program} {w : World} {K : PySem.W.Frag} {mg : Str → Option Value} {base : Heap}
abbrev BX (P : Program) (w : World) (K : PySem.W.Frag) (mg : Str → Option Value) (base : Heap) (N : List Str) (qual : Str) (sc : Scope) (f : Addr) (cdv : Value) (A : Around) (outer : List Env) (s : Shared) (H : Hp) (E : XK) : Cx := (cxOf CX0 P w K mg base N qual sc f cdv A outer s H E).nox
theorem reps_get {F : Hp} : ∀ {vs : List V} {ps : List DL.P} {i : Nat} {p : DL.P}, Reps K F vs ps → ps[i]? = some p → ∃ v, vs[i]? = some v ∧ Rep K F v p
  | _, _, _, _, .nil, e => by simp at e
  | _, _, 0, _, .cons a _, e => by
    simp at e
    subst e
    exact ⟨_, rfl, a⟩
  | _, _, i + 1, d, .cons _ b, e => by
    obtain ⟨v, h1, h2⟩ := reps_get (i := i) (p := d) b (by simpa using e)
    exact ⟨v, by simpa using h1, h2⟩
theorem stt_start {F H : Hp} {N : List Str} {vs : List V} {ps : List DL.P} (s : Same F H) (r : Reps K F vs ps) (S : Addr → Prop) : Stt K ⟨F, H, S⟩ (st0 N ps) (fun _ => []) F (start N vs) H where
  ex := s
  exF := Same.refl _
  exH := fun _ _ _ h => h
  thr := fun _ h => h
  fre := fun _ h _ _ => h
  len := by
    unfold st0 L2.start
    rw [List.length_append, List.length_append, List.length_map, List.length_map, List.length_replicate, List.length_replicate, Paired.length r]
  cells := fun i c e => by
    unfold st0 at e
    have hl := Paired.length r
    by_cases hi : i < ps.length
    · rw [List.getElem?_append_left (by rw [List.length_map]; exact hi), List.getElem?_map] at e
      cases q : ps[i]? with
      | none => rw [q] at e; cases e
      | some p =>
        rw [q] at e
        cases e
        obtain ⟨v, h1, h2⟩ := reps_get r q
        refine ⟨v, ?_, h2⟩
        unfold L2.start
        rw [List.getElem?_append_left (by rw [List.length_map, hl]; exact hi), List.getElem?_map, h1]
        rfl
    · rw [List.getElem?_append_right (by rw [List.length_map]; omega)] at e
      rw [List.getElem?_replicate] at e
      split at e <;> cases e
  own := fun _ _ h => nomatch h
  sep := fun _ _ _ _ h => nomatch h
/-- THE RULE for a def that only looks -/
theorem fnD {x qual : Str} {st : Stmt} {f : Addr} {fd : FuncData} {N ps : List Str} {k : Nat} {wp : Wp} (F : Fun K x qual st f fd) (S : FnScope N ps (defScope st)) (len : ∀ as Ψ, wp as Ψ → as.length = ps.length)
    (body : ∀ (cdv : Value) (A : Around) (outer : List Env) (s : Shared) (H : Hp) (E : XK) (as : List DL.P) (Ψ : DL.P → Prop), Room k (BX P w K mg base N qual (defScope st) f cdv A outer s H E).A → wp as Ψ →
      SSs (BX P w K mg base N qual (defScope st) f cdv A outer s H E) (defBody st) (st0 N as) ⟨fun _ => Ψ (.d .none), fun p _ => Ψ p, fun _ => False, fun _ => False, fun _ => False⟩) : FnOk P w K mg base CX0 (k + 1) f fd ps (spD K wp) := by
  refine F.ok S (fun vs H Q E ⟨F0, as, Ψ, s, r, h, _⟩ => by rw [Paired.length r]; exact len as Ψ h) (fun cdv A outer s H vs Φ E hr ⟨F0, as, Ψ, sm, r, h, kk⟩ => ⟨_, pss_w, ?_⟩)
  refine body cdv A outer s H E as Ψ hr h _ _ F0 _ H _ (stt_start sm r fun _ => False) ⟨fun ρ' fp' F' σ' H' t q => ?_, fun v p ρ' fp' F' σ' H' t rp q => ?_, fun _ _ _ _ _ _ q => q, fun _ _ _ _ _ _ q => q, fun _ _ _ _ _ _ _ _ _ _ q => q.elim⟩
  · exact kk .non F' H' (.d .none) ⟨t.exF, t.ex, fun a o e => t.exH a o (fun z => z) e, fun a n1 n2 => t.fre a n1 n2 fun z => z⟩ rpN q
  · exact kk v F' H' p ⟨t.exF, t.ex, fun a o e => t.exH a o (fun z => z) e, fun a n1 n2 => t.fre a n1 n2 fun z => z⟩ rp q
theorem stt_startR {F H : Hp} {N : List Str} {vs : List V} {ps : List DL.P} {h c : Addr} {ns : List Int} {st : Int} (s : Same F H) (r : Reps K F vs ps) (h1 : F h = none) (h2 : F c = none) (h3 : H h = some (.lst [.ref c, .int st])) (h4 : H c = some (.lst (ns.map V.int))) (h5 : h ≠ c) (ok : RndOk ns st)
    (hN : (V.ref h :: vs).length ≤ N.length) : Stt K ⟨F, H, fun a => a = h ∨ a = c⟩ (some (.rnd h c) :: (ps.map (fun p => some (.p p)) ++ List.replicate (N.length - (ps.length + 1)) none)) (fun i => if i = 0 then [h, c] else []) F (start N (V.ref h :: vs)) H where
  ex := s
  exF := Same.refl _
  exH := fun _ _ _ h => h
  thr := fun _ h => h
  fre := fun _ h _ _ => h
  len := by
    unfold L2.start
    have hl := Paired.length r
    simp only [List.length_append, List.length_cons, List.length_map, List.length_replicate]
    omega
  cells := fun i cl e => by
    have hl := Paired.length r
    cases i with
    | zero =>
      have e' : some (some (Cell.rnd h c)) = some (some cl) := e
      cases e'
      exact ⟨.ref h, rfl, ns, st, rfl, rfl, h3, h4, h5, ok⟩
    | succ i =>
      have e' : (ps.map (fun p => some (Cell.p p)) ++ List.replicate (N.length - (ps.length + 1)) none)[i]? = some (some cl) := by simpa using e
      by_cases hi : i < ps.length
      · rw [List.getElem?_append_left (by rw [List.length_map]; exact hi), List.getElem?_map] at e'
        cases q : ps[i]? with
        | none => rw [q] at e'; cases e'
        | some p =>
          rw [q] at e'
          cases e'
          obtain ⟨v, g1, g2⟩ := reps_get r q
          refine ⟨v, ?_, g2⟩
          unfold L2.start
          rw [List.getElem?_append_left (by rw [List.length_map, List.length_cons, hl]; omega), List.getElem?_map, List.getElem?_cons_succ, g1]
          rfl
      · rw [List.getElem?_append_right (by rw [List.length_map]; omega), List.getElem?_replicate] at e'
        split at e' <;> cases e'
  own := fun i a ha => by
    by_cases z : i = 0
    · simp only [z, if_true] at ha
      have ha' : a = h ∨ a = c := by simpa using ha
      rcases ha' with rfl | rfl
      · exact ⟨h1, by rw [h3]; simp, .inl (.inl rfl)⟩
      · exact ⟨h2, by rw [h4]; simp, .inl (.inr rfl)⟩
    · simp only [z, if_false] at ha
      cases ha
  sep := fun i j a hij ha hj => by
    by_cases z : i = 0
    · by_cases z' : j = 0
      · exact hij (z.trans z'.symm)
      · simp only [z', if_false] at hj
        cases hj
    · simp only [z, if_false] at ha
      cases ha
/-- .. for a def that draws from the random heap, its first argument -/
theorem fnR {x qual : Str} {st : Stmt} {f : Addr} {fd : FuncData} {N ps : List Str} {k : Nat} {wp : Wp} (F : Fun K x qual st f fd) (S : FnScope N ps (defScope st)) (len : ∀ as Ψ, wp as Ψ → as.length + 1 = ps.length)
    (body : ∀ (cdv : Value) (A : Around) (outer : List Env) (s : Shared) (H : Hp) (E : XK) (as : List DL.P) (Ψ : DL.P → Prop) (h c : Addr), Room k (BX P w K mg base N qual (defScope st) f cdv A outer s H E).A → wp as Ψ →
      SSs (BX P w K mg base N qual (defScope st) f cdv A outer s H E) (defBody st) (some (.rnd h c) :: (as.map (fun p => some (.p p)) ++ List.replicate (N.length - (as.length + 1)) none))
        ⟨fun ρ => ρ[0]? = some (some (.rnd h c)) ∧ Ψ (.d .none), fun p ρ => ρ[0]? = some (some (.rnd h c)) ∧ Ψ p, fun _ => False, fun _ => False, fun _ => False⟩) : FnOk P w K mg base CX0 (k + 1) f fd ps (spR K wp) := by
  have ln : ∀ {vs' : List V} {as : List DL.P} {Ψ : DL.P → Prop} {F0 : Hp} {h : Addr}, Reps K F0 vs' as → wp as Ψ → (V.ref h :: vs').length = ps.length := fun r h => by rw [List.length_cons, Paired.length r]; exact len _ _ h
  have hNp : ps.length ≤ N.length := by
    have e := S.pre
    have q := congrArg List.length e
    rw [List.length_take] at q
    omega
  refine F.ok S (fun vs H Q E ⟨F0, h, c, ns, st, vs', as, Ψ, ev, _, _, _, _, _, _, _, r, hw, _⟩ => by rw [ev]; exact ln r hw) (fun cdv A outer s H vs Φ E hr ⟨F0, h, c, ns, st, vs', as, Ψ, ev, sm, h1, h2, h3, h4, h5, ok, r, hw, kk⟩ => ⟨_, pss_w, ?_⟩)
  subst ev
  have fin : ∀ {v : V} {p : DL.P} {ρ' : Ev} {fp' : Nat → List Addr} {F' : Hp} {σ' : L2.St} {H' : Hp}, Stt K ⟨F0, H, fun a => a = h ∨ a = c⟩ ρ' fp' F' σ' H' → Rep K F' v p → ρ'[0]? = some (some (.rnd h c)) → Ψ p → Φ v H' := fun {v p ρ' fp' F' σ' H'} t rp e q => by
    obtain ⟨_, _, ns', st', hf, _, g3, g4, g5, ok'⟩ := t.cells 0 _ e
    have o1 := t.own 0 h (by rw [hf]; simp)
    have o2 := t.own 0 c (by rw [hf]; simp)
    refine kk v F' H' p ns' st' ⟨t.exF, t.ex, fun a o n1 n2 e => t.exH a o (fun z => by rcases z with z | z; exact n1 z; exact n2 z) e, fun a n1 n2 => ?_⟩ g3 g4 ok' rp q
    by_cases z1 : a = h
    · rw [z1]; exact o1.1
    by_cases z2 : a = c
    · rw [z2]; exact o2.1
    exact t.fre a n1 n2 fun z => by rcases z with z | z; exact z1 z; exact z2 z
  exact body cdv A outer s H E as Ψ h c hr hw _ _ F0 _ H _ (stt_startR sm r h1 h2 h3 h4 h5 ok (by rw [ln r hw]; exact hNp)) ⟨fun ρ' fp' F' σ' H' t ⟨e, q⟩ => fin t rpN e q, fun v p ρ' fp' F' σ' H' t rp ⟨e, q⟩ => fin t rp e q, fun _ _ _ _ _ _ q => q, fun _ _ _ _ _ _ q => q, fun _ _ _ _ _ _ _ _ _ _ q => q.elim⟩
end
end DL
end PartDL5
section PartDL6
set_option maxRecDepth 100000
set_option maxHeartbeats 2000000
/-! DL6: forms that one uses. -/
namespace DL
open PySem PySem.Spec PyProof.Rows L2
section
variable {X : Cx} {ρ : Ev} {pos p : Pos} {a b e : Expr} {es : List Expr} {x : Str} {K : PySem.W.Frag}
/-- [g(x) for x in xs] -/
theorem en_mp {Qn : List D → Ev → Prop} {elt tg iter : Expr} {scope : Scope} {ix : List Nat} {α : Type} (xs : List α) (enc g : α → D) (own : List (Str × Nat)) (hc : X.calm = true) (hN : X.N.Nodup)
    (h : IE X tg iter ρ fun items ρ1 => items = xs.map enc ∧ forget ρ1 (own.map (·.2)) = ρ1 ∧ xs.length ≤ 100000 ∧ (∀ x ∈ xs, ∀ B, GB (Bx X scope B) tg ix (enc x) ρ1 fun ρ2 => ∀ B, EV (Bx X scope B) elt ρ2 fun y ρ4 => ρ4 = ρ2 ∧ y = .d (g x)) ∧ Qn (xs.map g) ρ1)
    (ok : BlkOk X.N X.env.scope scope own := by exact blkOk_by (by kernel_rfl)) (hix : ∀ i ∈ ix, i ∈ own.map (·.2) := by decide) (hs : ∀ x, foldedSetIterable iter X.env x = pure x := by intro _; rfl) : EN X (.ListComp elt [⟨tg, iter, [], 0⟩] scope pos) ρ Qn := by
  refine en_lc (ix := ix) own hc hN (fun Γ fp F σ H R t k => h Γ fp F σ H R t fun J items G Y F' H' ρ' fp' t' f w hG hY ⟨e1, e2, e3, turn, q⟩ => k J items G Y F' H' ρ' fp' t' f w hG hY ?_) ok hix hs
  subst e1
  refine ⟨e2, by rw [List.length_map]; exact e3, fun i acc => acc = (xs.take i).map g, by simp, fun i x acc hx ha => ?_, fun acc ha => ?_⟩
  · rw [List.getElem?_map] at hx
    cases q1 : xs[i]? with
    | none => rw [q1] at hx; cases hx
    | some z =>
      rw [q1] at hx
      cases hx
      intro B
      have hz : z ∈ xs := List.mem_of_getElem? q1
      intro Γ fp F σ H v Φ t r k
      refine turn z hz B Γ fp F σ H v Φ t r fun σ' ρ2 fp' t' u1 u2 hq => k σ' ρ2 fp' t' u1 u2 fun B => ets_nil ⟨rfl, iteT fun B => (hq B).mono fun y ρ4 ⟨e4, ey⟩ => ⟨e4, g z, ey, ?_⟩⟩
      show acc ++ [g z] = (xs.take (i + 1)).map g
      rw [ha, List.take_add_one, q1, List.map_append]
      rfl
  · rw [List.length_map, List.take_length] at ha
    rw [ha]
    exact q
/-- [g(x) for x in xs if ..] -/
theorem en_fm {Qn : List D → Ev → Prop} {elt tg iter c : Expr} {scope : Scope} {ix : List Nat} {α : Type} (xs : List α) (enc : α → D) (g : α → Option D) (own : List (Str × Nat)) (hc : X.calm = true) (hN : X.N.Nodup)
    (h : IE X tg iter ρ fun items ρ1 => items = xs.map enc ∧ forget ρ1 (own.map (·.2)) = ρ1 ∧ xs.length ≤ 100000 ∧ (∀ x ∈ xs, ∀ B, GB (Bx X scope B) tg ix (enc x) ρ1 fun ρ2 => ∀ B, ET (Bx X scope B) c ρ2 fun b ρ3 => ρ3 = ρ2 ∧
      if b = true then ∀ B, EV (Bx X scope B) elt ρ3 fun y ρ4 => ρ4 = ρ3 ∧ ∃ y', y = .d y' ∧ g x = some y' else g x = none) ∧ Qn (xs.filterMap g) ρ1)
    (ok : BlkOk X.N X.env.scope scope own := by exact blkOk_by (by kernel_rfl)) (hix : ∀ i ∈ ix, i ∈ own.map (·.2) := by decide) (hs : ∀ x, foldedSetIterable iter X.env x = pure x := by intro _; rfl) : EN X (.ListComp elt [⟨tg, iter, [c], 0⟩] scope pos) ρ Qn := by
  refine en_lc (ix := ix) own hc hN (fun Γ fp F σ H R t k => h Γ fp F σ H R t fun J items G Y F' H' ρ' fp' t' f w hG hY ⟨e1, e2, e3, turn, q⟩ => k J items G Y F' H' ρ' fp' t' f w hG hY ?_) ok hix hs
  subst e1
  refine ⟨e2, by rw [List.length_map]; exact e3, fun i acc => acc = (xs.take i).filterMap g, by simp, fun i x acc hx ha => ?_, fun acc ha => ?_⟩
  · rw [List.getElem?_map] at hx
    cases q1 : xs[i]? with
    | none => rw [q1] at hx; cases hx
    | some z =>
      rw [q1] at hx
      cases hx
      intro B
      have hz : z ∈ xs := List.mem_of_getElem? q1
      intro Γ fp F σ H v Φ t r k
      refine turn z hz B Γ fp F σ H v Φ t r fun σ' ρ2 fp' t' u1 u2 hq => k σ' ρ2 fp' t' u1 u2 fun B => ets_one ((hq B).mono fun b ρ3 ⟨e3, hb⟩ => ⟨e3, ?_⟩)
      cases b with
      | true => exact iteT fun B => ((show ∀ B, EV (Bx X scope B) elt ρ3 _ from hb) B).mono fun y ρ4 ⟨e4, y', ey, hg⟩ => ⟨e4, y', ey, by
          show acc ++ [y'] = (xs.take (i + 1)).filterMap g
          rw [ha, List.take_add_one, q1, List.filterMap_append]
          simp [hg]⟩
      | false =>
        refine iteF ?_
        have hg : g z = none := hb
        show acc = (xs.take (i + 1)).filterMap g
        rw [ha, List.take_add_one, q1, List.filterMap_append]
        simp [hg]
  · rw [List.length_map, List.take_length] at ha
    rw [ha]
    exact q
end
/-- the built-in names are not the program's -/
structure Bl (mg : Str → Option Value) : Prop where
  sum : mg "sum" = none
  max : mg "max" = none
  min : mg "min" = none
  len : mg "len" = none
  range : mg "range" = none
  tuple : mg "tuple" = none
  list : mg "list" = none
  sorted : mg "sorted" = none
  set : mg "set" = none
  isinstance : mg "isinstance" = none
  abs : mg "abs" = none
  int : mg "int" = none
  str : mg "str" = none
  bool : mg "bool" = none
  repr : mg "repr" = none
  all : mg "all" = none
  any : mg "any" = none
  enumerate : mg "enumerate" = none
  super : mg "super" = none
end DL
end PartDL6
section PartDL7
set_option maxRecDepth 100000
set_option maxHeartbeats 2000000
/-! DL7: dicts of one's own. -/
namespace DL
open PySem PySem.Spec PyProof.Rows L2
section
variable {κ : Type} [DecidableEq κ] {F : Hp} {K : PySem.W.Frag}
def valD (kvs : List (κ × D)) (k : κ) : Option D := (kvs.find? fun kv => decide (kv.1 = k)).map (·.2)
def putD (kvs : List (κ × D)) (k : κ) (v : D) : List (κ × D) := if (kvs.any fun kv => decide (kv.1 = k)) = true then kvs.map fun kv => if kv.1 = k then (kv.1, v) else kv else kvs ++ [(k, v)]
theorem KvOk.val {k : κ} : ∀ {ws : List (κ × V)} {kvs : List (κ × D)}, KvOk K F ws kvs → (valV ws k).isSome = (valD kvs k).isSome ∧ ∀ d, valD kvs k = some d → ∃ v, valV ws k = some v ∧ Dq F v d
  | _, _, .nil => ⟨rfl, fun _ h => nomatch h⟩
  | p :: ws, q :: kvs, .cons a b => by
    obtain ⟨a1, a2⟩ := a
    by_cases e : p.1 = k
    · have e' : q.1 = k := a1.symm.trans e
      have h1 : valD (q :: kvs) k = some q.2 := by simp [valD, List.find?_cons, e']
      rw [valV_pos e, h1]
      exact ⟨rfl, fun d hd => by cases hd; exact ⟨_, rfl, a2⟩⟩
    · have e' : ¬ q.1 = k := fun z => e (a1.trans z)
      have h1 : valD (q :: kvs) k = valD kvs k := by simp [valD, List.find?_cons, e']
      rw [valV_neg e, h1]
      exact KvOk.val b
theorem KvOk.any {k : κ} : ∀ {ws : List (κ × V)} {kvs : List (κ × D)}, KvOk K F ws kvs → (ws.any fun kv => decide (kv.1 = k)) = kvs.any fun kv => decide (kv.1 = k)
  | _, _, .nil => rfl
  | p :: ws, q :: kvs, .cons a b => by rw [List.any_cons, List.any_cons, a.1, KvOk.any b]
theorem KvOk.repl {k : κ} {v : V} {d : D} (r : Dq F v d) : ∀ {ws : List (κ × V)} {kvs : List (κ × D)}, KvOk K F ws kvs → KvOk K F (ws.map fun kv => if kv.1 = k then (kv.1, v) else kv) (kvs.map fun kv => if kv.1 = k then (kv.1, d) else kv)
  | _, _, .nil => .nil
  | p :: ws, q :: kvs, .cons a b => by
    rw [List.map_cons, List.map_cons]
    refine .cons ?_ (KvOk.repl r b)
    by_cases e : p.1 = k
    · rw [if_pos e, if_pos (a.1.symm.trans e)]
      exact ⟨a.1, r⟩
    · rw [if_neg e, if_neg fun z => e (a.1.trans z)]
      exact a
theorem KvOk.snoc {k : κ} {v : V} {d : D} (r : Dq F v d) : ∀ {ws : List (κ × V)} {kvs : List (κ × D)}, KvOk K F ws kvs → KvOk K F (ws ++ [(k, v)]) (kvs ++ [(k, d)])
  | _, _, .nil => .cons ⟨rfl, r⟩ .nil
  | _, _, .cons a b => .cons a (KvOk.snoc r b)
theorem KvOk.put {k : κ} {v : V} {d : D} (r : Dq F v d) {ws : List (κ × V)} {kvs : List (κ × D)} (h : KvOk K F ws kvs) : KvOk K F (putK ws k v) (putD kvs k d) := by
  unfold putK putD
  rw [h.any]
  by_cases e : (kvs.any fun kv => decide (kv.1 = k)) = true
  · rw [if_pos e, if_pos e]
    exact h.repl r
  · rw [if_neg e, if_neg e]
    exact h.snoc r
theorem KvOk.len {ws : List (κ × V)} {kvs : List (κ × D)} (h : KvOk K F ws kvs) : ws.length = kvs.length := Paired.length h
end
def kD : Key → D
  | .inl i => .int i
  | .inr s => .str s
theorem kD_val {F : Hp} {v : V} : ∀ {k : Key}, Dq F v (kD k) → v = kV k
  | .inl _, h => by
    cases h
    rfl
  | .inr _, h => by
    cases h
    rfl
theorem kDs_val {F : Hp} : ∀ {ks : List Key} {vs : List V}, DqAll F vs (ks.map kD) → vs = ks.map kV
  | [], _, .nil => rfl
  | k :: ks, _, .cons a b => by rw [kD_val a, kDs_val b]; rfl
/-- what a dict's cell gives for a key -/
def DictIs (c : Cell) (y : P) (o : Option D) : Prop := (∃ kvs k, c = .dk kvs ∧ y = .d (kD k) ∧ o = valD kvs k) ∨ ∃ kvs k, c = .dt kvs ∧ y = .d (.tuple (k.map kD)) ∧ o = valD kvs k
def DictPut (c : Cell) (y : P) (d : D) (c' : Cell) : Prop := (∃ kvs k, c = .dk kvs ∧ y = .d (kD k) ∧ kvs.length < 100000 ∧ c' = .dk (putD kvs k d)) ∨ ∃ kvs k, c = .dt kvs ∧ y = .d (.tuple (k.map kD)) ∧ kvs.length < 100000 ∧ c' = .dt (putD kvs k d)
section
variable {X : Cx} {ρ : Ev} {pos p : Pos} {a b e : Expr} {es : List Expr} {x : Str} {K : PySem.W.Frag} {Q : P → Ev → Prop}
theorem dict_get {Γ : Anc} {fp : Nat → List Addr} {F H : Hp} {σ : L2.St} (t : Stt K Γ ρ fp F σ H) {i : Nat} {c : Cell} (h : ρ[i]? = some (some c)) {y : P} {v : V} {o : Option D} (r : Rep K F v y) (d : DictIs c y o) :
    ∃ a ov, σ[i]? = some (some (.ref a)) ∧ DGet H a v ov ∧ ov.isSome = o.isSome ∧ ∀ d, o = some d → ∃ u, ov = some u ∧ Dq F u d := by
  obtain ⟨w, hw, hc⟩ := t.cells i c h
  rcases d with ⟨kvs, k, rfl, rfl, rfl⟩ | ⟨kvs, k, rfl, rfl, rfl⟩
  · obtain ⟨a, ws, hf, rfl, ha, hk⟩ := hc
    have e := kD_val (show Dq F v (kD k) from r)
    subst e
    obtain ⟨h1, h2⟩ := KvOk.val (k := k) hk
    exact ⟨a, _, hw, DGet.k ha, h1, h2⟩
  · obtain ⟨a, ws, hf, rfl, ha, hk⟩ := hc
    obtain ⟨b, vs, rfl, hb, hd⟩ := rep_tupX r
    have e := kDs_val hd
    subst e
    obtain ⟨h1, h2⟩ := KvOk.val (k := k) hk
    exact ⟨a, _, hw, DGet.t ha (t.ex _ _ hb), h1, h2⟩
theorem dict_put {Γ : Anc} {fp : Nat → List Addr} {F H : Hp} {σ : L2.St} (t : Stt K Γ ρ fp F σ H) {i : Nat} {c c' : Cell} (h : ρ[i]? = some (some c)) {y : P} {v u : V} {d : D} (r : Rep K F v y) (ru : Dq F u d) (dp : DictPut c y d c') :
    ∃ a H', σ[i]? = some (some (.ref a)) ∧ DPut H a v u H' ∧ Stt K Γ (ρ.set i (some c')) fp F σ H' := by
  obtain ⟨w, hw, hc⟩ := t.cells i c h
  have hi : i < ρ.length := (List.getElem?_eq_some_iff.mp h).1
  rcases dp with ⟨kvs, k, rfl, rfl, hl, rfl⟩ | ⟨kvs, k, rfl, rfl, hl, rfl⟩
  · obtain ⟨a, ws, hf, rfl, ha, hk⟩ := hc
    have e := kD_val (show Dq F v (kD k) from r)
    subst e
    exact ⟨a, _, hw, DPut.k ha (by rw [hk.len]; exact small5' (by omega)), t.write (c := .dk (putD kvs k d)) hf hw hi ⟨a, _, rfl, rfl, upd_same, KvOk.put ru hk⟩⟩
  · obtain ⟨a, ws, hf, rfl, ha, hk⟩ := hc
    obtain ⟨b, vs, rfl, hb, hd⟩ := rep_tupX r
    have e := kDs_val hd
    subst e
    exact ⟨a, _, hw, DPut.t ha (t.ex _ _ hb) (by rw [hk.len]; exact small5' (by omega)), t.write (c := .dt (putD kvs k d)) hf hw hi ⟨a, _, rfl, rfl, upd_same, KvOk.put ru hk⟩⟩
section
variable (i : Nat) {p1 : Pos} {k : Nat}
theorem din_read {Γ : Anc} {fp : Nat → List Addr} {F H : Hp} {σ : L2.St} {Φ : VK} (t : Stt X.K Γ ρ fp F σ H) (h : EV X e ρ fun y ρ1 => ∃ c o, ρ1[i]? = some (some c) ∧ DictIs c y o ∧ Q (.d (.bool o.isSome)) ρ1)
    (kk : ∀ v F' H' p ρ' fp', Stt X.K Γ ρ' fp' F' σ H' → Same F F' → Rep X.K F' v p → Q p ρ' → Φ v H') : tDIn (wE X e) (tVar i) σ H Φ :=
  h Γ fp F σ H _ t fun v F1 H1 y ρ1 fp1 t1 f1 r1 ⟨c, o, h1, h2, q⟩ => by
    obtain ⟨a, ov, g1, g2, g3, g4⟩ := dict_get t1 h1 r1 h2
    refine ⟨.ref a, g1, a, ov, rfl, g2, ?_⟩
    rw [g3]
    exact kk _ F1 H1 _ ρ1 fp1 t1 f1 rpB q
theorem dni_read {Γ : Anc} {fp : Nat → List Addr} {F H : Hp} {σ : L2.St} {Φ : VK} (t : Stt X.K Γ ρ fp F σ H) (h : EV X e ρ fun y ρ1 => ∃ c o, ρ1[i]? = some (some c) ∧ DictIs c y o ∧ Q (.d (.bool (!o.isSome))) ρ1)
    (kk : ∀ v F' H' p ρ' fp', Stt X.K Γ ρ' fp' F' σ H' → Same F F' → Rep X.K F' v p → Q p ρ' → Φ v H') : tDNotIn (wE X e) (tVar i) σ H Φ :=
  h Γ fp F σ H _ t fun v F1 H1 y ρ1 fp1 t1 f1 r1 ⟨c, o, h1, h2, q⟩ => by
    obtain ⟨a, ov, g1, g2, g3, g4⟩ := dict_get t1 h1 r1 h2
    refine ⟨.ref a, g1, a, ov, rfl, g2, ?_⟩
    rw [g3]
    exact kk _ F1 H1 _ ρ1 fp1 t1 f1 rpB q
theorem ev_din (hr : Room k X.A) (h : EV X e ρ fun y ρ1 => ∃ c o, ρ1[i]? = some (some c) ∧ DictIs c y o ∧ Q (.d (.bool o.isSome)) ρ1)
    (hN : X.N[i]? = some x := by rfl) (hv : Vis X.env.scope x := by first | exact Or.inl rfl | exact Or.inr (Or.inl rfl) | exact Or.inr (Or.inr rfl)) (hd : (x == ("__debug__" : Str)) = false := by decide) (hcd : (x == ("__classdict__" : Str)) = false := by decide)
    (hm : behindInMarks .In (.Name x p1) = false := by rfl) : EV X (.Compare e [.In] [.Name x p1] pos) ρ Q := fun Γ fp F σ H Φ t kk pins s I =>
  (pe_cmp (pc_din (hu_of hr) pe_w (pe_var hN hv hd hcd)) hm).run pins s σ H Φ I (din_read i t h kk)
theorem et_din {Qb : Bool → Ev → Prop} (hr : Room k X.A) (h : EV X e ρ fun y ρ1 => ∃ c o, ρ1[i]? = some (some c) ∧ DictIs c y o ∧ Qb o.isSome ρ1)
    (hN : X.N[i]? = some x := by rfl) (hv : Vis X.env.scope x := by first | exact Or.inl rfl | exact Or.inr (Or.inl rfl) | exact Or.inr (Or.inr rfl)) (hd : (x == ("__debug__" : Str)) = false := by decide) (hcd : (x == ("__classdict__" : Str)) = false := by decide)
    (hm : behindInMarks .In (.Name x p1) = false := by rfl) : ET X (.Compare e [.In] [.Name x p1] pos) ρ Qb := fun Γ fp F σ H Φ t kk pins s I =>
  (pt_cmp (pc_din (hu_of hr) pe_w (pe_var hN hv hd hcd)) hm).run pins s σ H Φ I (din_read (Q := fun z ρ1 => ∃ c, z = .d (.bool c) ∧ Qb c ρ1) i t (h.mono fun y ρ1 ⟨c, o, h1, h2, q⟩ => ⟨c, o, h1, h2, _, rfl, q⟩) fun v F' H' p ρ' fp' t' f r ⟨c, ez, q⟩ => by
    subst ez
    exact ⟨c, rep_bool r, kk c F' H' ρ' fp' t' f q⟩)
theorem et_dni {Qb : Bool → Ev → Prop} (hr : Room k X.A) (h : EV X e ρ fun y ρ1 => ∃ c o, ρ1[i]? = some (some c) ∧ DictIs c y o ∧ Qb (!o.isSome) ρ1)
    (hN : X.N[i]? = some x := by rfl) (hv : Vis X.env.scope x := by first | exact Or.inl rfl | exact Or.inr (Or.inl rfl) | exact Or.inr (Or.inr rfl)) (hd : (x == ("__debug__" : Str)) = false := by decide) (hcd : (x == ("__classdict__" : Str)) = false := by decide)
    (hm : behindInMarks .NotIn (.Name x p1) = false := by rfl) : ET X (.Compare e [.NotIn] [.Name x p1] pos) ρ Qb := fun Γ fp F σ H Φ t kk pins s I =>
  (pt_cmp (pc_dnotin (hu_of hr) pe_w (pe_var hN hv hd hcd)) hm).run pins s σ H Φ I (dni_read (Q := fun z ρ1 => ∃ c, z = .d (.bool c) ∧ Qb c ρ1) i t (h.mono fun y ρ1 ⟨c, o, h1, h2, q⟩ => ⟨c, o, h1, h2, _, rfl, q⟩) fun v F' H' p ρ' fp' t' f r ⟨c, ez, q⟩ => by
    subst ez
    exact ⟨c, rep_bool r, kk c F' H' ρ' fp' t' f q⟩)
/-- x[e] -/
theorem ev_dget {c0 : Cell} (hr : Room k X.A) (h : EV X e ρ fun y ρ1 => ∃ c d, ρ1[i]? = some (some c) ∧ DictIs c y (some d) ∧ Q (.d d) ρ1) (h0 : ρ[i]? = some (some c0) := by rfl) (hd0 : (∃ kvs, c0 = .dk kvs) ∨ ∃ kvs, c0 = .dt kvs := by first | exact .inl ⟨_, rfl⟩ | exact .inr ⟨_, rfl⟩)
    (hN : X.N[i]? = some x := by rfl) (hv : Vis X.env.scope x := by first | exact Or.inl rfl | exact Or.inr (Or.inl rfl) | exact Or.inr (Or.inr rfl)) (hd : (x == ("__debug__" : Str)) = false := by decide) (hcd : (x == ("__classdict__" : Str)) = false := by decide)
    (hs : NoSl e := by exact fun _ _ => rfl) : EV X (.Subscript (.Name x p1) e pos) ρ Q := fun Γ fp F σ H Φ t kk pins s I => by
  obtain ⟨w, hw, hc⟩ := t.cells i c0 h0
  refine (pe_dget (hu_of hr) (pe_var hN hv hd hcd) pe_w hs).run pins s σ H Φ I ⟨w, hw, h Γ fp F σ H _ t fun v F1 H1 y ρ1 fp1 t1 f1 r1 ⟨c, d, h1, h2, q⟩ => ?_⟩
  obtain ⟨a, ov, g1, g2, g3, g4⟩ := dict_get t1 h1 r1 h2
  rw [hw] at g1
  cases g1
  obtain ⟨u, rfl, hu⟩ := g4 d rfl
  exact ⟨a, u, rfl, g2, kk u F1 H1 (.d d) ρ1 fp1 t1 f1 hu q⟩
/-- x[e] = v -/
theorem ss_dput {v : Expr} {R : Rt} {pos' : Pos} (hr : Room k X.A) (h : EV X v ρ fun z ρ1 => ∃ c0, ρ1[i]? = some (some c0) ∧ EV X e ρ1 fun y ρ2 => ∃ c d c', z = .d d ∧ ρ2[i]? = some (some c) ∧ DictPut c y d c' ∧ R.nx (ρ2.set i (some c')))
    (hN : X.N[i]? = some x := by rfl) (hv : Vis X.env.scope x := by first | exact Or.inl rfl | exact Or.inr (Or.inl rfl) | exact Or.inr (Or.inr rfl)) (hd : (x == ("__debug__" : Str)) = false := by decide) (hcd : (x == ("__classdict__" : Str)) = false := by decide)
    (hs : swapsWith v (some (.Subscript (.Name x p1) e pos')) pos.line X.env = pure false := by rfl) : SS X (.Assign [.Subscript (.Name x p1) e pos'] v pos) ρ R := fun Γ fp F σ H Dd t kk pins s I => by
  refine (ps_dput (hu_of hr) (pe_var hN hv hd hcd) pe_w pe_w hs).run pins s σ H Dd I (h Γ fp F σ H _ t fun u F1 H1 z ρ1 fp1 t1 f1 r1 ⟨c0, hc, h1⟩ => ?_)
  obtain ⟨w, hw, _⟩ := t1.cells i c0 hc
  refine ⟨w, hw, h1 Γ fp1 F1 σ H1 _ t1 fun v2 F2 H2 y ρ2 fp2 t2 f2 r2 ⟨c, d, c', ez, g2, g3, q⟩ => ?_⟩
  subst ez
  obtain ⟨a, H3, k1, k2, t3⟩ := dict_put t2 g2 r2 (rep_same f2 r1) g3
  rw [hw] at k1
  cases k1
  exact ⟨a, H3, rfl, k2, kk.nx _ fp2 F2 σ H3 t3 q⟩
/-- len(x) -/
theorem ev_lenD {kvs : List (Key × D)} (hm : X.mg "len" = none) (q : Q (.d (.int kvs.length)) ρ) (h0 : ρ[i]? = some (some (.dk kvs)) := by rfl) (hN : X.N[i]? = some x := by rfl) (hv : Vis X.env.scope x := by first | exact Or.inl rfl | exact Or.inr (Or.inl rfl) | exact Or.inr (Or.inr rfl)) (hd : (x == ("__debug__" : Str)) = false := by decide) (hcd : (x == ("__classdict__" : Str)) = false := by decide)
    (hg : Gl X "len" := by rfl) (he : starEach [.Name x p1] X.env = (false, eval (.Name x p1) X.env) :: starEach [] X.env := by rfl) (hpl : (backTo pos (starEach [] X.env)).any (·.1) = false := by rfl) : EV X (.Call (.Name "len" p) [.Name x p1] [] pos) ρ Q := fun Γ fp F σ H Φ t kk pins s I => by
  obtain ⟨w, hw, a, ws, hf, rfl, ha, hk⟩ := t.cells i _ h0
  refine (pe_callB call_lenD hg hm PySem.boot_len (pa_cons (pe_var hN hv hd hcd) pa_nil he) (by decide) (by decide) he hpl).run pins s σ H Φ I ⟨.ref a, hw, a, ws, rfl, ha, ?_⟩
  rw [hk.len]
  exact kk _ F H _ ρ fp t (Same.refl _) rpI q
end
end
end DL
end PartDL7
section PartDL8
set_option maxRecDepth 100000
set_option maxHeartbeats 2000000
/-! DL8: enumerate of a tuple. -/
namespace DL
open PySem PySem.Spec PyProof.Rows L2

set_option maxHeartbeats 4000000 in
theorem meets_enum1 {v : Value} {o : Obj} {H : Heap → Prop} (B : Begins v o H) :
    Meets (Builtin.«enumerate.__new__» ⟨[.type "enumerate", v], []⟩) (fun _ R s => H s.heap ∧
      R (.ok (.ret (.ref (s.heap.push o).objs.size))) { s with heap := (s.heap.push o).push { cls := .type "enumerate", data := .fields #[.none, .bool false, .ref s.heap.objs.size, rawInt 0, .none, .none] } }) :=
  .of_wp fun prog w A R s h => by
    obtain ⟨hp, g, d, tk, os⟩ := s; obtain ⟨h1, h⟩ := h
    have hsub := sub_enumerate
    have q1 : ∀ {A' : Around} {E : Value → Shared → Prop} {Q : Value → Shared → Prop}, Q (.ref hp.objs.size) ⟨hp.push o, g, d, tk, os⟩ → wpAny (model prog w) A' (pyIter v) Q E ⟨hp, g, d, tk, os⟩ :=
      fun q => B.iter prog w _ _ ⟨hp, g, d, tk, os⟩ _ h1 q
    wp_walk using q1
    refine wpAny_stack_any fun st => wpAny_pure ?_
    split
    · rename_i c _ _ _ _ _
      cases (c == Value.type "enumerate")
      · wp_walk using q1
        exact ⟨_, rfl, h⟩
      · wp_walk using q1
        exact ⟨_, rfl, h⟩
    · wp_walk using q1
      exact ⟨_, rfl, h⟩
theorem enum_begins1 {prog : Program} {w : World} {A : Around} {E : Value → Shared → Prop} {s : Shared} {v : Value} {o : Obj} {H : Heap → Prop} {Q : Value → Shared → Prop} (B : Begins v o H) (h1 : H s.heap)
    (h : ∀ h', IsEnum h' (s.heap.objs.size + 1) s.heap.objs.size 0 .none → h'.get? s.heap.objs.size = some o → h'.objs.size = s.heap.objs.size + 2 →
      (∀ b o, s.heap.get? b = some o → h'.get? b = some o) → Q (.ref (s.heap.objs.size + 1)) { s with heap := h' }) :
    wpAny (model prog w) A (call (.type "enumerate") [v]) Q E s := by
  refine callType_new F.called_enumerate (by decide) (F.typeCall_enumerate_1 _) (F.newCall_enumerate_1 _) (fun obj => F.args_object_init_2 obj _) F.entry_enumerate_new
    (meets_enum1 B) ⟨h1, ?_⟩
  have hz : (s.heap.push o).objs.size = s.heap.objs.size + 1 := Heap.size_push ..
  show _ ∧ _
  rw [hz]
  have he : IsEnum ((s.heap.push o).push { cls := .type "enumerate", data := .fields #[.none, .bool false, .ref s.heap.objs.size, rawInt 0, .none, .none] }) (s.heap.objs.size + 1) s.heap.objs.size 0 .none := by
    have := Heap.get?_push_size (s.heap.push o) (o := { cls := .type "enumerate", data := .fields #[.none, .bool false, .ref s.heap.objs.size, rawInt 0, .none, .none] }) rfl
    rw [hz] at this; exact this
  refine ⟨⟨_, he, rfl⟩, h _ he (Heap.get?_push_of_some _ (Heap.get?_push_size _ B.free)) (by rw [Heap.size_push, hz]) fun b o x => Heap.get?_push_of_some _ (Heap.get?_push_of_some _ x)⟩

/-- the tuple at a, its items in new pairs -/
def IteT (K : PySem.W.Frag) (a : Addr) : It :=
  ⟨fun i H => ∃ (xs : List V) (x : V), SqT K H a xs ∧ xs[i]? = some x, fun i H v H' => ∃ T x, v = .ref T ∧ H T = none ∧ H' = upd H T (.tup [.int (i : Nat), x]) ∧ ∀ xs, SqT K H a xs → xs[i]? = some x, fun i H => ∃ xs : List V, SqT K H a xs ∧ xs.length = i⟩
theorem enum_ne {h : Heap} {e it t : Addr} {c : Int} {old : Value} {items : Array Value} (he : IsEnum h e it c old) (ht : h.IsTuple t items) : e ≠ t := fun z => by
  subst z
  obtain ⟨o, ho, hc, _⟩ := ht
  have he' := he
  unfold IsEnum at he'
  rw [ho] at he'
  cases he'
  have hc' : Value.type "enumerate" = Value.type "tuple" := hc
  exact absurd hc' (by decide)
theorem iter_ne {h : Heap} {it t u : Addr} {i : Nat} {items : Array Value} (he : h.IsTupleIter it u i) (ht : h.IsTuple t items) : t ≠ it := fun z => by
  subst z
  obtain ⟨o, ho, hc, _⟩ := ht
  obtain ⟨o2, ho2, hc2, _⟩ := he
  rw [ho] at ho2
  cases ho2
  rw [hc] at hc2
  exact absurd hc2 (by decide)
theorem turn_enumT {P : Program} {w : World} {K : PySem.W.Frag} {elts : List Expr} {kk : Nat} {tpos : Pos} (a e it : Addr) :
    Turn P w K (.Tuple elts kk tpos) (IteT K a) [e, it] e (fun i h => (∃ old, IsEnum h e it ((i : Nat) : Int) old) ∧ h.IsTupleIter it a i ∧ e ≠ it) where
  mem := by simp
  obj := fun i h st b hb => by
    obtain ⟨⟨old, he⟩, ⟨o, ho, hc, hd⟩, _⟩ := st
    have e' : b = e ∨ b = it := by simpa using hb
    rcases e' with z | z
    · rw [z]; exact ⟨_, he, fun v q => nomatch q⟩
    · rw [z]; exact ⟨o, ho, fun v q => by rw [hd] at q; cases q⟩
  keep := fun i h h' st k => let ⟨⟨old, he⟩, hi, hne⟩ := st; ⟨⟨old, k e (by simp) _ he⟩, hi.at fun o q => k it (by simp) o q, hne⟩
  item := by
    intro X hP hw hK hc i pins s σ H E I hf st hg
    subst hP hw hK
    obtain ⟨⟨old, he⟩, hit, hne⟩ := st
    obtain ⟨xs, x, hq, hx⟩ := hg
    obtain ⟨its, rv, p, hz⟩ := I.tuple hq
    have p' : s.heap.IsTuple a its.toArray := p
    obtain ⟨u, hu, ru⟩ := rv.get hx
    have hel : e < s.heap.objs.size := Heap.lt_size he
    have hil : it < s.heap.objs.size := by obtain ⟨_, q, _⟩ := hit; exact Heap.lt_size q
    have hti := iter_ne hit p'
    have hte := enum_ne he p'
    have hlt : i < its.toArray.size := by rw [List.size_toArray]; exact (List.getElem?_eq_some_iff.mp hu).1
    refine wpAny_pyNext_enum_itemC (Draws.tuple (A := X.A.in1) (I.ok.hd hc) it a hti its.toArray) he ⟨hit, p'⟩ hlt hne (by simp [hne, hte]) fun y h' tk hy ho hst hT hsz hk => ?_
    have hy' : its.toArray[i]? = some y := hy
    have ey : y = u := by
      have q : its[i]? = some y := by simpa using hy'
      rw [hu] at q
      exact (Option.some.inj q).symm
    subst ey
    refine ⟨_, rfl, wpAny_letOwnedTupleGo_enum (s := { s with heap := h', toks := tk + 1 }) ho fun h'' he' sb => ?_⟩
    have hT2 : h''.get? s.heap.objs.size = some { cls := .type "tuple", data := .seq #[.int i tk, y] } := (sb.2 _ (Nat.ne_of_gt hel)).trans hT
    have new : ObjOk X.prog X.w (upd H s.heap.objs.size (.tup [.int (i : Nat), x])) h'' s.heap.objs.size (.tup [.int (i : Nat), x]) :=
      ⟨by show 2 ≤ sizeLine; decide, [.int i tk, y], .cons ⟨_, rfl⟩ (.cons ru .nil), ⟨_, hT2, rfl, _, rfl⟩⟩
    have I1 : L2.Inv X pins σ (upd H s.heap.objs.size (.tup [.int (i : Nat), x])) { s with heap := h'', toks := tk + 1 } :=
      I.turnedNew (ch := [e, it]) (fun b ob hb q => (sb.2 b (fun z => hb (by simp [z]))).trans (hk b ob (fun z => hb (by simp [z])) (fun z => hb (by simp [z])) q)) hf (Nat.le_refl _) new
    refine ⟨.ref s.heap.objs.size, _, I1, rfl, ⟨_, x, rfl, I.hok.fresh (Nat.le_refl _), rfl, fun ys hy => by rw [I.tuple_inj hy hq]; exact hx⟩, ⟨⟨y, ?_⟩, hst.1.at fun o q => (sb.2 it (Ne.symm hne)).trans q, hne⟩, fun b hb => ?_⟩
    · have e1 : ((i + 1 : Nat) : Int) = (i : Int) + 1 := by omega
      rw [e1]; exact he'
    · have hb' : b < s.heap.objs.size := by
        have e' : b = e ∨ b = it := by simpa using hb
        rcases e' with z | z
        · rw [z]; exact hel
        · rw [z]; exact hil
      rw [upd_ne (Nat.ne_of_lt hb')]
      exact (hf b hb).1
  done := by
    intro X hP hw hK hc i pins s σ H E I hf st hg
    subst hP hw hK
    obtain ⟨⟨old, he⟩, hit, hne⟩ := st
    obtain ⟨xs, hq, hx⟩ := hg
    obtain ⟨its, rv, p, hz⟩ := I.tuple hq
    have p' : s.heap.IsTuple a its.toArray := p
    obtain ⟨f0, f1, f2, f3, f4, f5⟩ := hf it (by simp)
    have hl := rv.length
    have hn : i = its.toArray.size := by rw [List.size_toArray]; omega
    exact wpAny_pyNext_enum_endD (Draws.tuple (A := X.A.in1) (I.ok.hd hc) it a (iter_ne hit p') its.toArray) he ⟨by rw [← hn]; exact hit, p'⟩ fun h' eb => ⟨rfl, I.turned (t' := s.toks) (fun b o hb q => eb b o hb q) f0 f1 f3 f4 f5⟩
  self := fun A i s Q E st h => let ⟨⟨_, he⟩, _⟩ := st; wpAny_pyIter_enum he h
def iEnumT (K : PySem.W.Frag) (ta : TA) : TI := fun σ H R => ta σ H fun vs H1 => ∃ a xs, vs = [.ref a] ∧ SqT K H1 a xs ∧ R (IteT K a) H1
theorem pi_enumT {X : Cx} {e : Expr} {ta : TA} {p pos tpos : Pos} {elts : List Expr} {kk : Nat} (hg : Gl X "enumerate") (hm : X.mg "enumerate" = none) (ha : PA X [e] ta) (hs : starEach [e] X.env = [(false, eval e X.env)] := by rfl) :
    PI X (.Tuple elts kk tpos) (.Call (.Name "enumerate" p) [e] [] pos) (iEnumT X.K ta) := by
  refine ⟨fun pins s σ H R I h => ?_⟩
  refine Call_ (ld_blt I hg hm boot_enumerate (PyProof.Rows.callWith_type1 (thn (ha.run pos pins s σ H _ I h) fun us s1 ⟨vs, H1, I1, r1, q1⟩ => ?_) hs rfl))
  obtain ⟨a, xs, ex, hq, q⟩ := q1
  subst ex
  cases r1 with
  | cons r rr =>
    cases rr
    cases r
    obtain ⟨its, rv, p', hz⟩ := I1.tuple hq
    refine enum_begins1 (begins_tuple a its.toArray) p' fun h' he hit hsz hk => wpAny_pyIter_enum he ?_
    have I2 : L2.Inv X pins σ H1 { s1 with heap := h' } := I1.kept (t' := s1.toks) hk
    refine ⟨s1.heap.objs.size + 1, [s1.heap.objs.size + 1, s1.heap.objs.size], _, _, H1, rfl, I2, turn_enumT a (s1.heap.objs.size + 1) s1.heap.objs.size, ⟨⟨.none, he⟩, ⟨_, hit, rfl, rfl⟩, Nat.succ_ne_self _⟩, fun b hb => ?_, q⟩
    have e' : b = s1.heap.objs.size + 1 ∨ b = s1.heap.objs.size := by simpa using hb
    have hle : s1.heap.objs.size ≤ b := by
      rcases e' with z | z
      · rw [z]; exact Nat.le_add_right _ _
      · rw [z]; exact Nat.le_refl _
    exact I1.fpOk hle (I1.hok.fresh hle)
theorem walk_enumT {K : PySem.W.Frag} {a : Addr} {xs : List V} : Walk (IteT K a) xs.length (fun H => SqT K H a xs) (YPair (fun i => some (.int (i : Nat))) (fun i => xs[i]?)) := by
  refine ⟨fun i _ hi q => ⟨xs, xs[i], q, by simp [hi]⟩, fun _ q => ⟨xs, q, rfl⟩, fun i H v H' _ q y => ?_⟩
  obtain ⟨T, x, h1, h2, h3, h4⟩ := y
  exact ⟨T, .int (i : Nat), x, h1, h2, h3, rfl, h4 xs q⟩
section
variable {X : Cx} {ρ : Ev} {pos p : Pos} {e : Expr} {Qi : List D → Ev → Prop}
/-- the pairs of enumerate -/
def enumD (ds : List D) : List D := (List.range ds.length).map fun i => .tuple [.int (i : Nat), ds.getD i .none]
theorem enumD_len {ds : List D} : (enumD ds).length = ds.length := by unfold enumD; rw [List.length_map, List.length_range]
theorem enumD_get {ds : List D} {i : Nat} {d : D} (h : ds[i]? = some d) : (enumD ds)[i]? = some (.tuple [.int (i : Nat), d]) := by
  have hi := (List.getElem?_eq_some_iff.mp h).1
  unfold enumD
  rw [List.getElem?_map, List.getElem?_range hi]
  simp [h]
theorem pair_dq {F2 H2 H3 : Hp} {T : Addr} {x y : V} {d e : D} (s : Same F2 H2) (hT : H2 T = none) (h3 : H3 = upd H2 T (.tup [x, y])) (r1 : Dq F2 x d) (r2 : Dq F2 y e) : ∃ F3, Gr F2 H2 F3 H3 ∧ Dq F3 (.ref T) (.tuple [d, e]) := by
  subst h3
  have g := Gr.new (o := .tup [x, y]) s hT
  exact ⟨_, g, .tup upd_same (.cons (dp_same g.f r1) (.cons (dp_same g.f r2) .nil))⟩
theorem ie_enumT {tpos : Pos} {elts : List Expr} {kk : Nat} (hm : X.mg "enumerate" = none) (h : EV X e ρ fun y ρ1 => ∃ ds, y = .d (.tuple ds) ∧ Qi (enumD ds) ρ1) (hg : Gl X "enumerate" := by rfl) (hs : starEach [e] X.env = [(false, eval e X.env)] := by rfl) : IE X (.Tuple elts kk tpos) (.Call (.Name "enumerate" p) [e] [] pos) ρ Qi := fun Γ fp F σ H R t k pins s I =>
  (pi_enumT hg hm pa_w hs).run pins s σ H R I (ea_cons (Qa := fun ps ρ1 => ∃ ds, ps = [.d (.tuple ds)] ∧ Qi (enumD ds) ρ1) (h.mono fun y ρ1 ⟨ds, ey, q⟩ => ea_nil ⟨ds, by rw [ey], q⟩) (by rw [hs]; rfl) Γ fp F σ H _ t fun vs F1 H1 ps ρ1 fp1 t1 f1 r1 ⟨ds, ep, q⟩ => by
    subst ep
    obtain ⟨v, rfl, r⟩ := reps1 r1
    obtain ⟨a1, vs1, rfl, s1, d1⟩ := rep_tupX r
    refine ⟨a1, vs1, rfl, SqT.of (t1.ex _ _ s1), k _ (enumD ds) (fun H => SqT X.K H a1 vs1) _ F1 H1 ρ1 fp1 t1 f1 (by rw [enumD_len, ← d1.len]; exact walk_enumT) (fun F2 H2 e1 e2 => SqT.of (e2 _ _ (e1 _ _ s1))) (fun i F2 H2 v H3 hi e1 e2 y => ?_) q⟩
    obtain ⟨T, x, y, rfl, hT, h3, hx, hy⟩ := y
    cases hx
    obtain ⟨d, hd, r2⟩ := d1.getV hy
    obtain ⟨F3, g, r3⟩ := pair_dq e2 hT h3 (.int _) (dp_same e1 r2)
    exact ⟨F3, _, g, enumD_get hd, r3⟩)
theorem ie_enum {tpos : Pos} {elts : List Expr} {kk : Nat} (hm : X.mg "enumerate" = none) (h : EV X e ρ fun y ρ1 => ∃ ds, y = .d (.list ds) ∧ Qi (enumD ds) ρ1) (hg : Gl X "enumerate" := by rfl) (hs : starEach [e] X.env = [(false, eval e X.env)] := by rfl) : IE X (.Tuple elts kk tpos) (.Call (.Name "enumerate" p) [e] [] pos) ρ Qi := fun Γ fp F σ H R t k pins s I =>
  (pi_enum hg hm pa_w hs).run pins s σ H R I (ea_cons (Qa := fun ps ρ1 => ∃ ds, ps = [.d (.list ds)] ∧ Qi (enumD ds) ρ1) (h.mono fun y ρ1 ⟨ds, ey, q⟩ => ea_nil ⟨ds, by rw [ey], q⟩) (by rw [hs]; rfl) Γ fp F σ H _ t fun vs F1 H1 ps ρ1 fp1 t1 f1 r1 ⟨ds, ep, q⟩ => by
    subst ep
    obtain ⟨v, rfl, r⟩ := reps1 r1
    obtain ⟨a1, vs1, rfl, s1, d1⟩ := rep_lst r
    refine ⟨a1, vs1, rfl, t1.ex.seq s1, k _ (enumD ds) (fun H => SqL X.K H a1 vs1) _ F1 H1 ρ1 fp1 t1 f1 (by rw [enumD_len, ← d1.len]; exact walk_enum) (fun F2 H2 e1 e2 => e2.seq (e1.seq s1)) (fun i F2 H2 v H3 hi e1 e2 y => ?_) q⟩
    obtain ⟨T, x, y, rfl, hT, h3, hx, hy⟩ := y
    cases hx
    obtain ⟨d, hd, r2⟩ := d1.getV hy
    obtain ⟨F3, g, r3⟩ := pair_dq e2 hT h3 (.int _) (dp_same e1 r2)
    exact ⟨F3, _, g, enumD_get hd, r3⟩)
end
end DL
end PartDL8
section PartDX1
set_option maxRecDepth 100000
set_option maxHeartbeats 2000000
/-! DX1: defs that may raise. -/
namespace DL
open PySem PySem.Spec PyProof.Rows L2
/-- an expression that raises -/
def ER (X : Cx) (e : Expr) (ρ : Ev) (Θ : Exn → Prop) : Prop := ∀ (Γ : Anc) (fp : Nat → List Addr) (F : Hp) (σ : L2.St) (H : Hp) (Φ : VK), Stt X.K Γ ρ fp F σ H →
  (∀ c cls d ρ' fp' F' H', Stt X.K Γ ρ' fp' F' σ H' → ExnRep X.mg F' cls d c → Θ c → XOk X cls d σ H') → wE X e σ H Φ
abbrev Wx := List P → (Exn → Prop) → Prop
/-- the promise of a def that looks, and may raise -/
def spX (mg : Str → Option Value) (K : PySem.W.Frag) (w : Wp) (wx : Wx) : Sp := fun vs H Φ E =>
  (∃ (F : Hp) (ps : List P) (Ψ : P → Prop), Same F H ∧ Reps K F vs ps ∧ w ps Ψ ∧ ∀ v F' H' p, Gr F H F' H' → Rep K F' v p → Ψ p → Φ v H') ∨
  (∃ (F : Hp) (ps : List P) (Θ : Exn → Prop), Same F H ∧ Reps K F vs ps ∧ wx ps Θ ∧ ∀ c cls d F' H', Gr F H F' H' → ExnRep mg F' cls d c → Θ c → E cls d H')
theorem xn_same {mg : Str → Option Value} {F F' : Hp} {cls : Value} {d : Option Addr} {c : Exn} (s : Same F F') (h : ExnRep mg F cls d c) : ExnRep mg F' cls d c := by
  obtain ⟨C, dd, v, h1, h2, h3, h4, h5⟩ := h
  exact ⟨C, dd, v, h1, h2, h3, s _ _ h4, dp_same s h5⟩
section
variable {X : Cx} {ρ : Ev} {Q : P → Ev → Prop} {pos p : Pos} {a b e : Expr} {es : List Expr} {x : Str} {K : PySem.W.Frag} {k : Nat} {ps : List Str} {w : Wp} {wx : Wx} {Θ : Exn → Prop} {R : Rt}
theorem passX {X : Cx} (σ : L2.St) : PassesAt (L2.CX X.prog X.w) X σ (fun cls d H => XOk X cls d σ H) := fun pins H s e s' I h => by
  obtain ⟨a, B, H', cls, d, h1, h2, h3, h4, h5, h6, h7, W, tk, w⟩ := h
  exact passAt tk σ pins H s e s' I ⟨a, B, H', cls, d, h1, h2, h3, h4, h5, h6, h7, w⟩
theorem ev_callX (D : DefOk X.prog X.w X.K X.mg X.base (L2.CX X.prog X.w) x k ps (spX X.mg X.K w wx)) (hr : Room k X.A) (h : EA X (e :: es) ρ fun as ρ1 => w as fun z => Q z ρ1) (hg : Gl X x := by rfl)
    (hdb : (x == ("__debug__" : Str)) = false := by decide) (he : starEach (e :: es) X.env = (false, eval e X.env) :: starEach es X.env := by rfl) (hpl : (backTo pos (starEach es X.env)).any (·.1) = false := by rfl) : EV X (.Call (.Name x p) (e :: es) [] pos) ρ Q := fun Γ fp F σ H Φ t k pins s I => by
  obtain ⟨f, fd, hm, hk, hb, G⟩ := D
  refine (pe_call G hr hg hm hk hb .nil passL pa_w hdb he hpl).run pins s σ H Φ I (h Γ fp F σ H _ t fun vs F1 H1 as ρ1 fp1 t1 f1 r1 q => ?_)
  show spX X.mg X.K w wx (vs ++ []) H1 Φ E0
  rw [List.append_nil]
  exact .inl ⟨F1, as, _, t1.ex, r1, q, fun v F2 H2 z g r2 q2 => k v F2 H2 z ρ1 fp1 (t1.grow g) (f1.trans g.f) r2 q2⟩
theorem er_call (D : DefOk X.prog X.w X.K X.mg X.base (L2.CX X.prog X.w) x k ps (spX X.mg X.K w wx)) (hr : Room k X.A) (h : EA X (e :: es) ρ fun as ρ1 => wx as Θ) (hg : Gl X x := by rfl)
    (hdb : (x == ("__debug__" : Str)) = false := by decide) (he : starEach (e :: es) X.env = (false, eval e X.env) :: starEach es X.env := by rfl) (hpl : (backTo pos (starEach es X.env)).any (·.1) = false := by rfl) : ER X (.Call (.Name x p) (e :: es) [] pos) ρ Θ := fun Γ fp F σ H Φ t k pins s I => by
  obtain ⟨f, fd, hm, hk, hb, G⟩ := D
  refine (pe_callS (E := fun σ cls d H => XOk X cls d σ H) G hr hg hm hk hb passX pa_w hdb he hpl).run pins s σ H Φ I (h Γ fp F σ H _ t fun vs F1 H1 as ρ1 fp1 t1 f1 r1 q => ?_)
  exact .inr ⟨F1, as, _, t1.ex, r1, q, fun c cls d F2 H2 g r2 q2 => k c cls d ρ1 fp1 F2 H2 (t1.grow g) r2 q2⟩
/-- f(e), e raises; f a built-in -/
theorem er_callB {id : String} {r : List V → Hp → VK → Prop} (hc : CallR X (.builtin id) r) (hm : X.mg x = none) (h : ER X e ρ Θ) (hv : bootBuiltins x = some (.builtin id) := by decide +kernel) (hg : Gl X x := by rfl)
    (hn : x ≠ "__name__" := by decide) (hdb : (x == ("__debug__" : Str)) = false := by decide) (he : starEach [e] X.env = (false, eval e X.env) :: starEach [] X.env := by rfl) (hpl : (backTo pos (starEach [] X.env)).any (·.1) = false := by rfl) :
    ER X (.Call (.Name x p) [e] [] pos) ρ Θ := fun Γ fp F σ H Φ t k pins s I =>
  (pe_callB hc hg hm hv (pa_cons pe_w pa_nil he) hn hdb he hpl).run pins s σ H Φ I (h Γ fp F σ H _ t k)
/-- [.. for .. in e], e raises -/
theorem er_lc {elt tg iter : Expr} {ifs : List Expr} {scope : Scope} (own : List (Str × Nat)) (hc : X.calm = true) (hN : X.N.Nodup) (h : ER X iter ρ Θ)
    (ok : BlkOk X.N X.env.scope scope own := by exact blkOk_by (by kernel_rfl)) (hs : ∀ x, foldedSetIterable iter X.env x = pure x := by intro _; rfl) : ER X (.ListComp elt [⟨tg, iter, ifs, 0⟩] scope pos) ρ Θ := fun Γ fp F σ H Φ t k pins s I =>
  (pe_lc (g := bG X scope tg) (tt := bTs X scope ifs) (te := bE X scope elt) hc hN pi_w ok (fun s H C cl fp => ⟨fun pins s1 σ H1 v u Q I r h => h ⟨s, H, C, cl, fp⟩ pins s1 u I r⟩) (fun s H C cl fp => ⟨fun pins s1 σ H1 Q I h => h ⟨s, H, C, cl, fp⟩ pins s1 I⟩)
    (fun s H C cl fp => ⟨fun pins s1 σ H1 Q I h => h ⟨s, H, C, cl, fp⟩ pins s1 I⟩) hs).run pins s σ H Φ I (fun pins s I => h Γ fp F σ H (fun _ _ => False) t k pins s I |> fun z => wpAny_mono z (fun v s1 ⟨_, _, _, _, q⟩ => q.elim) fun _ _ q => q)
/-! ### statements that raise -/
theorem ss_retR (h : ER X e ρ R.xc) : SS X (.Return (some e) pos) ρ R := fun Γ fp F σ H D t k pins s I => (ps_ret pe_w).run pins s σ H D I (h Γ fp F σ H _ t fun c cls d ρ' fp' F' H' t' r q => k.xc c cls d ρ' fp' F' σ H' t' r q)
theorem ss_exprR (h : ER X e ρ R.xc) (hs : swapsWith e none pos.line X.env = pure false := by rfl) : SS X (.Expr e pos) ρ R := fun Γ fp F σ H D t k pins s I =>
  (ps_expr pe_w hs).run pins s σ H D I (h Γ fp F σ H _ t fun c cls d ρ' fp' F' H' t' r q => k.xc c cls d ρ' fp' F' σ H' t' r q)
theorem ss_setR (i : Nat) {x : Str} {p1 : Pos} (h : ER X e ρ R.xc) (hN : X.N.Nodup) (hi : X.N[i]? = some x := by rfl) (hx : Loc X.env.scope x := by first | exact Or.inl rfl | exact Or.inr rfl) (hs : swapsWith e (some (.Name x p1)) pos.line X.env = pure false := by rfl)
    (hf : X.fn x = true ∨ X.env.scope.names.lookup x = some .local := by first | exact .inl rfl | exact .inr rfl) : SS X (.Assign [.Name x p1] e pos) ρ R := fun Γ fp F σ H D t k pins s I =>
  (ps_set hN hi hx pe_w hs hf).run pins s σ H D I (h Γ fp F σ H _ t fun c cls d ρ' fp' F' H' t' r q => k.xc c cls d ρ' fp' F' σ H' t' r q)
/-! ### keyword calls, no positional argument -/
theorem pe_callK0 {CX : CXT} {f : Addr} {fd : FuncData} {ks : List Str} {sp : Sp} {E : XK} {g : List Value → List Value → List Value} {gV : List V → List V → List V} {kws : List Keyword} {tk : TA} (F : FnOk X.prog X.w X.K X.mg X.base CX k f fd ps sp) (hr : Room k X.A) (hg : Gl X x) (hm : X.mg x = some (.ref f)) (hk : PySem.W.keepIn X.K (.ref f) = true) (hb : KBinds X.K fd ps ks g gV) (hx : Passes CX X E)
    (hkw : PK X kws tk) (hall : (backToKw pos (keywordEach kws X.env)).all (·.1.isSome) = true := by rfl) (hks : (backToKw pos (keywordEach kws X.env)).filterMap (·.1) = ks := by rfl)
    (hdb : (x == ("__debug__" : Str)) = false := by decide) (hpl : (backToKw pos (keywordEach kws X.env)).any (·.1.isNone) = false := by rfl) :
    PE X (.Call (.Name x p) [] kws pos) (tCallK sp gV E tNil tk) := by
  refine ⟨fun pins s σ H Q I h => ?_⟩
  refine wpAny_Call_Name_kw (ld_glob I hg hm ?_ hdb)
  refine PySem.W.callWith_KW0 (h₀ := X.base) I.ok.mod.kin hk hall (thn (hkw.run pos pins s σ H _ I h) fun ws s2 ⟨zs, H2, I2, rz, q2⟩ => ⟨I2.kIn, ?_⟩) hpl
  rw [hks]
  exact run_fnk F hr hb hx I2 .nil rz q2
/-- keyword values -/
def EK (X : Cx) (kws : List Keyword) (ρ : Ev) (Q : List P → Ev → Prop) : Prop := ∀ (Γ : Anc) (fp : Nat → List Addr) (F : Hp) (σ : L2.St) (H : Hp) (Φ : List V → Hp → Prop), Stt X.K Γ ρ fp F σ H →
  (∀ vs F' H' ps ρ' fp', Stt X.K Γ ρ' fp' F' σ H' → Same F F' → Reps X.K F' vs ps → Q ps ρ' → Φ vs H') → ∀ (pos : Pos) (pins : List (Addr × Obj)) (s : Shared), L2.Inv X pins σ H s → wpAny (model X.prog X.w) X.A (evalAll ((backToKw pos (keywordEach kws X.env)).map (·.2))) (AP X pins σ Φ) X.xe s
def wK (X : Cx) (kws : List Keyword) : TA := fun σ H Φ => ∀ (pos : Pos) (pins : List (Addr × Obj)) (s : Shared), L2.Inv X pins σ H s → wpAny (model X.prog X.w) X.A (evalAll ((backToKw pos (keywordEach kws X.env)).map (·.2))) (AP X pins σ Φ) X.xe s
theorem pk_w {kws : List Keyword} : PK X kws (wK X kws) := ⟨fun pos pins s _ _ _ I h => h pos pins s I⟩
section
variable {Qa : List P → Ev → Prop} {kws : List Keyword} {nm : Option Str} {kpos : Pos}
theorem ek_nil (q : Qa [] ρ) : EK X [] ρ Qa := fun Γ fp F σ H Φ t k pos pins s I => pk_nil.run pos pins s σ H Φ I (k [] F H [] ρ fp t (Same.refl _) .nil q)
theorem ek_cons (h : EV X e ρ fun x ρ1 => EK X kws ρ1 fun xs ρ2 => Qa (x :: xs) ρ2) : EK X (⟨nm, e, kpos⟩ :: kws) ρ Qa := fun Γ fp F σ H Φ t k pos pins s I =>
  (pk_cons pe_w pk_w).run pos pins s σ H Φ I (h Γ fp F σ H _ t fun v F1 H1 x ρ1 fp1 t1 f1 r1 h1 => h1 Γ fp1 F1 σ H1 _ t1 fun vs F2 H2 xs ρ2 fp2 t2 f2 r2 q =>
    k (v :: vs) F2 H2 (x :: xs) ρ2 fp2 t2 (f1.trans f2) (.cons (rep_same f2 r1) r2) q)
/-- a def's keywords in the parameters' order -/
def KwOk (K : PySem.W.Frag) (mg : Str → Option Value) (x : Str) (ps : List Str) : Prop := ∀ f fd, mg x = some (.ref f) → Binds K fd ps [] → KBinds K fd ps ps (fun _ ws => ws) (fun _ zs => zs)
theorem ev_callXK {f : Addr} {fd : FuncData} (G : FnOk X.prog X.w X.K X.mg X.base (L2.CX X.prog X.w) k f fd ps (spX X.mg X.K w wx)) (hm : X.mg x = some (.ref f)) (hk : PySem.W.keepIn X.K (.ref f) = true) (hb : KBinds X.K fd ps ps (fun _ ws => ws) (fun _ zs => zs)) (hr : Room k X.A) (h : EK X kws ρ fun as ρ1 => w as fun z => Q z ρ1) (hg : Gl X x := by rfl)
    (hall : (backToKw pos (keywordEach kws X.env)).all (·.1.isSome) = true := by rfl) (hks : (backToKw pos (keywordEach kws X.env)).filterMap (·.1) = ps := by rfl)
    (hdb : (x == ("__debug__" : Str)) = false := by decide) (hpl : (backToKw pos (keywordEach kws X.env)).any (·.1.isNone) = false := by rfl) : EV X (.Call (.Name x p) [] kws pos) ρ Q := fun Γ fp F σ H Φ t k pins s I =>
  (pe_callK0 G hr hg hm hk hb passL pk_w hall hks hdb hpl).run pins s σ H Φ I (h Γ fp F σ H _ t fun vs F1 H1 as ρ1 fp1 t1 f1 r1 q =>
    .inl ⟨F1, as, _, t1.ex, r1, q, fun v F2 H2 z g r2 q2 => k v F2 H2 z ρ1 fp1 (t1.grow g) (f1.trans g.f) r2 q2⟩)
end
end
/-! ### a def that may raise keeps its promise -/
section
variable {P : Program} {w : World} {K : PySem.W.Frag} {mg : Str → Option Value} {base : Heap}
abbrev BXX (P : Program) (w : World) (K : PySem.W.Frag) (mg : Str → Option Value) (base : Heap) (N : List Str) (qual : Str) (sc : Scope) (f : Addr) (cdv : Value) (A : Around) (outer : List Env) (s : Shared) (H : Hp) (E : XK) : Cx := cxOf (L2.CX P w) P w K mg base N qual sc f cdv A outer s H E
theorem fnX {x qual : Str} {st : Stmt} {f : Addr} {fd : FuncData} {N ps : List Str} {k : Nat} {wp : Wp} {wx : Wx} (F : Fun K x qual st f fd) (S : FnScope N ps (defScope st)) (len : ∀ as Ψ, wp as Ψ → as.length = ps.length) (lenx : ∀ as Θ, wx as Θ → as.length = ps.length)
    (body : ∀ (cdv : Value) (A : Around) (outer : List Env) (s : Shared) (H : Hp) (E : XK) (as : List DL.P) (Ψ : DL.P → Prop), Room k (BXX P w K mg base N qual (defScope st) f cdv A outer s H E).A → wp as Ψ →
      SSs (BXX P w K mg base N qual (defScope st) f cdv A outer s H E) (defBody st) (st0 N as) ⟨fun _ => Ψ (.d .none), fun p _ => Ψ p, fun _ => False, fun _ => False, fun _ => False⟩)
    (bodyx : ∀ (cdv : Value) (A : Around) (outer : List Env) (s : Shared) (H : Hp) (E : XK) (as : List DL.P) (Θ : Exn → Prop), Room k (BXX P w K mg base N qual (defScope st) f cdv A outer s H E).A → wx as Θ →
      SSs (BXX P w K mg base N qual (defScope st) f cdv A outer s H E) (defBody st) (st0 N as) ⟨fun _ => False, fun p _ => False, fun _ => False, fun _ => False, Θ⟩) : FnOk P w K mg base (L2.CX P w) (k + 1) f fd ps (spX mg K wp wx) := by
  refine F.okX S (fun vs H Q E h => ?_) (fun cdv A outer s H vs Φ E hr h => ⟨_, pss_w, ?_⟩)
  · rcases h with ⟨F0, as, Ψ, s, r, h, _⟩ | ⟨F0, as, Θ, s, r, h, _⟩
    · rw [Paired.length r]; exact len as Ψ h
    · rw [Paired.length r]; exact lenx as Θ h
  · have tk : Takes (BXX P w K mg base N qual (defScope st) f cdv A outer s H E) (fun cls d _ H => E cls d H) := takes_of rfl rfl rfl rfl
    have gr : ∀ {F0 : Hp} {ρ' fp' F' σ' H'}, Stt K ⟨F0, H, fun _ => False⟩ ρ' fp' F' σ' H' → Gr F0 H F' H' := fun t => ⟨t.exF, t.ex, fun a o e => t.exH a o (fun z => z) e, fun a n1 n2 => t.fre a n1 n2 fun z => z⟩
    rcases h with ⟨F0, as, Ψ, sm, r, h, kk⟩ | ⟨F0, as, Θ, sm, r, h, kk⟩
    · refine body cdv A outer s H E as Ψ hr h _ _ F0 _ H _ (stt_start sm r fun _ => False) ⟨fun ρ' fp' F' σ' H' t q => ?_, fun v p ρ' fp' F' σ' H' t rp q => ?_, fun _ _ _ _ _ _ q => q, fun _ _ _ _ _ _ q => q, fun _ _ _ _ _ _ _ _ _ _ q => q.elim⟩
      · exact kk .non F' H' (.d .none) (gr t) rpN q
      · exact kk v F' H' p (gr t) rp q
    · refine bodyx cdv A outer s H E as Θ hr h _ _ F0 _ H _ (stt_start sm r fun _ => False) ⟨fun _ _ _ _ _ _ q => q.elim, fun _ _ _ _ _ _ _ _ _ q => q.elim, fun _ _ _ _ _ _ q => q, fun _ _ _ _ _ _ q => q, fun c cls d ρ' fp' F' σ' H' t rx q => ?_⟩
      exact ⟨_, tk, kk c cls d F' H' (gr t) rx q⟩
end
end DL
end PartDX1
section PartDX2
set_option maxRecDepth 100000
set_option maxHeartbeats 4000000
/-! DX2: an own exception whose __init__ says super().__init__(text); self.f = f; its base an own class over Exception. -/
namespace PySem
namespace XSup
open PySem.W PySem.Calls PyProof.Rows PySem.HandSPX
/-! ### the text of __init__ -/
def iA (fld : Str) (p1 p2 : Pos) : Arguments := { posonlyargs := [], args := [{ arg := "self", annotation := none, pos := p1 }, { arg := fld, annotation := none, pos := p2 }], vararg := none, kwonlyargs := [], kw_defaults := [], kwarg := none, defaults := [] }
def iB (fld msg : Str) (a1 a2 a3 a4 a5 a6 q1 q2 q3 q4 : Pos) (j : Nat) : List Stmt :=
  [.Expr (.Call (.Attribute (.Call (.Name "super" a1) [] [] a2) "__init__" a3) [.Constant (.str msg) j a4] [] a5) a6, .Assign [.Attribute (.Name "self" q1) fld q2] (.Name fld q3) q4]
/-- what its scope must say -/
structure ScOk (fld : Str) (sc : Scope) : Prop where
  kind : sc.kind = .function
  co : sc.isCoroutine = false
  gen : sc.isGenerator = false
  nocell : ∀ x ∈ sc.names, x.2 ≠ .cell
  su : sc.names.lookup ("super" : Str) = some .globalImplicit
  cl : sc.names.lookup ("__class__" : Str) = some .free
  se : sc.names.lookup ("self" : Str) = some .local
  fl : sc.names.lookup fld = some .local
  ne : ("self" : Str) ≠ fld
  nd : (fld == ("__debug__" : Str)) = false
/-- what the written part says of such a class, at C, of its base, at Y, and of its __init__, at fI -/
structure XsTxt (prog : Program) (K : Frag) (mg : Str → Option Value) (nm fld : Str) (C Y fI : Addr) : Prop where
  gC : mg nm = some (.ref C)
  cls : ∃ nm q N bs sn sub ab col dd k0 k1 k2 k3 k5, K.lookup C = some (excClassObj nm q C N bs (.ref Y :: ESX.exTail) true sn sub ab col dd k0 k1 k2 k3 k5 "Exception.__new__")
  sa : findIn K (.ref C) "__setattr__" = some (some (.builtin "object.__setattr__"))
  ga : findIn K (.ref C) "__getattribute__" = some (some (.builtin "BaseException.__getattribute__"))
  gg : findIn K (.ref C) "__getattr__" = some none
  noN : findIn K (.ref C) fld = some none
  iC : findIn K (.ref C) "__init__" = some (some (.ref fI))
  tC : typeIn K (.ref fI) = some (.type "function")
  kC : keepIn K (.ref C) = true
  exC : subIn K (.ref C) (.type "BaseException") = some true
  tyC : typeIn K (.ref C) = some (.type "type")
  hdC : hasDictIn K C = true
  isC : isClsIn K C = true
  al : alongIn K "__init__" (.ref Y :: ESX.exTail) = some (some (.builtin "Exception.__init__"))
  ho : nsIn K cStatics "thirdparty.any" = some none
  su : mg "super" = none
  fn : ∃ (oc : Value) (od : Option Addr) (doc pm : Value) (an : Option Addr) (cda cc : Addr) (ct : Value) (osl : Array (Option Value)) (qual msg : Str) (sc : Scope) (p1 p2 a1 a2 a3 a4 a5 a6 q1 q2 q3 q4 : Pos) (j : Nat) (ccl cl : Value) (cdd cld : Option Addr) (vs : Array Value) (ccs csl : Array (Option Value)) (file : Str) (tf : Tok),
    K.lookup fI = some ⟨oc, od, .func (ksFn "__init__" qual (iA fld p1 p2) (iB fld msg a1 a2 a3 a4 a5 a6 q1 q2 q3 q4 j) sc .none .none doc pm an (.ref cda) ct cc), osl⟩ ∧ codeIn K (.ref cda) qual = true ∧ ScOk fld sc ∧
    K.lookup cda = some ⟨ccl, cdd, .fields vs, ccs⟩ ∧ vs[2]? = some (.str file tf) ∧ ((prog.main.file : Str) == file) = true ∧ K.lookup cc = some ⟨cl, cld, .cell (some (.ref C)), csl⟩ ∧
    (prog.main.scope.names.lookup ("super" : Str)).isSome = false ∧ (a3.endLine == a5.line) = true ∧
    ∀ (s : Shared) (x v : Value), BindsTo s (ksFn "__init__" qual (iA fld p1 p2) (iB fld msg a1 a2 a3 a4 a5 a6 q1 q2 q3 q4 j) sc .none .none doc pm an (.ref cda) ct cc) ⟨[x, v], []⟩ [("self", x), (fld, v)]
/-- what __init__ leaves of a fresh exception at x -/
structure InitEnd (fld : Str) (h h' : Heap) (x C dx : Addr) (v : Value) : Prop where
  keep : ∀ b o, b ≠ x → h.get? b = some o → h'.get? b = some o
  obj : ∃ t1 : Addr, h'.get? x = some { cls := .ref C, dict := some dx, data := .fields #[.ref t1, .none, .none, .none, .bool false, .none] }
  dbig : h.objs.size ≤ dx
  dne : dx ≠ x
  ns : h'.Ns1 dx (fun y => if y = fld then some v else none)
/-- a made exception -/
structure OwnMade (fld : Str) (h h' : Heap) (e C d : Addr) (v : Value) : Prop where
  keep : ∀ b o, h.get? b = some o → h'.get? b = some o
  new : h.objs.size ≤ e
  obj : ∃ oe vs, h'.get? e = some oe ∧ oe.cls = .ref C ∧ oe.dict = some d ∧ oe.data = .fields vs ∧ vs[1]? = some .none
  dbig : h.objs.size ≤ d
  dne : d ≠ e
  ns : h'.Ns1 d (fun y => if y = fld then some v else none)
section
variable {prog : Program} {w : World} {A : Around} {E : Value → Shared → Prop} {R : Result → Shared → Prop} {hp : Heap} {g : Array GenState} {d : Drawn} {t : Nat} {os : OsState}
open Builtin Builtin.ObjectAttr
theorem osa_new2 {K : W.Frag} {name : Str} {tk : Tok} {v : Value} {x C Y : Addr} {fv : Array Value} {cd : ClassData}
    (X : K.In hp) (hx : hp.get? x = some { cls := .ref C, data := .fields fv }) (hcd : W.clsIn K C = some cd) (hm : cd.mro = .ref C :: .ref Y :: ESX.exTail) (hh : cd.hasDict = true) (ha : W.findIn K (.ref C) name = some none)
    (hq : ∀ h' tk' dx, (∀ b o, b ≠ x → hp.get? b = some o → h'.get? b = some o) → hp.objs.size ≤ dx → dx ≠ x → h'.get? x = some { cls := .ref C, dict := some dx, data := .fields fv } →
      h'.Ns1 dx (fun y => if y = name then some v else none) → R (.ok (.ret .none)) ⟨h', g, d, tk', os⟩) :
    codeAny (model prog w) A (.call (.builtin "object.__setattr__") ⟨[.ref x, .str name tk, v], []⟩) R ⟨hp, g, d, t, os⟩ := by
  have I : W.InstAt hp x { cls := .ref C, data := .fields fv } C none := ⟨hx, rfl, rfl, trivial⟩
  have SF := F.store_object
  have hxs : x ≠ hp.objs.size := Nat.ne_of_lt (Heap.lt_size hx)
  have hob : cd.mro.contains (.type "object") = true := by
    rw [hm, List.contains_cons, List.contains_cons, show ESX.exTail.contains (.type "object") = true by decide +kernel, Bool.or_true, Bool.or_true]
  have sub : W.Looks (model prog w) hp (isInstance (.ref x) (.type "object")) true := I.type.andThen (W.looks_mroIn X (by unfold W.mroIn; rw [hcd, Option.bind_some, if_neg (by rw [hm]; exact Bool.false_ne_true), hob]))
  refine codeAny_call_builtin SF.slot.plain SF.entry (@W.check_slot (model prog w) _ _ ⟨hp, g, d, t, os⟩ "object.__setattr__" "object" "__setattr__" (.ref x) [.str name tk, v] [] _ SF.kind SF.split sub (SF.args (.ref x) (.str name tk) v) ?_)
  have hmr : W.Looks (model prog w) hp (mroOf (.ref C)) cd.mro := (W.looks_clsIn X hcd).andThen .now
  have L3 : W.Looks (model prog w) hp (storeTaker? none) none := .now
  have hcls : W.Looks (model prog w) hp (classData C) cd := W.looks_clsIn X hcd
  have hpass : refuseLoop (.ref x) "__setattr__" cd.mro = pure () := by
    rw [hm, refuseLoop_ref, refuseLoop_ref]
    exact F.store_Exception.passes _
  rw [W.osa_eq, refuse_eq]
  refine wpAny_bind (wpAny_bind (I.type.at (wpAny_bind (hmr.at ?_))))
  rw [hpass]
  refine wpAny_pure (wpAny_bind (I.type.at (wpAny_bind ((W.looks_findIn X ha).at (wpAny_bind (L3.at ?_))))))
  show wpAny _ _ (storeInOwnDict (.ref x) (.ref C) (.str name tk) name v false) _ _ _
  obtain ⟨nm, bs, mro, ns, qn, hd, sn, sb, ab, col, del⟩ := cd
  dsimp only at hh
  subst hh
  unfold storeInOwnDict ownDictForStores
  repeat (first | with_reducible refine HandSPX.store_in_new ?_ ?_ | with_reducible refine wpAny_loadPart_at hx ?_ | with_reducible refine hcls.at ?_ | wp_step)
  · exact ⟨_, #[], _, (Heap.get?_update_ne _ _ _ _ hxs.symm).trans (Heap.get?_push_at rfl rfl), rfl, fun e he => absurd he (by simp), fun _ => rfl⟩
  · intro h' tk' hn' hs
    have hx₁ : (hp.push { cls := .type "dict", data := .dict #[] }).get? x = some { cls := .ref C, data := .fields fv } := Heap.get?_push_of_some _ hx
    refine hq h' tk' hp.objs.size (fun b o hb ho => ?_) (Nat.le_refl _) hxs.symm ?_ hn'
    · exact (hs.2 b (Nat.ne_of_lt (Heap.lt_size ho))).trans ((Heap.get?_update_ne _ _ _ _ hb).trans (Heap.get?_push_of_some _ ho))
    · exact (hs.2 x hxs).trans (Heap.get?_update_self _ hx₁ rfl)
end
section
variable {prog : Program} {w : World} {A : Around} {E : Value → Shared → Prop} {R : Result → Shared → Prop} {s : Shared} {K : Frag} {mg : Str → Option Value} {C Y fI : Addr} {nm fld : Str}
theorem xs_init (T : XsTxt prog K mg nm fld C Y fI) {x t0 : Addr} {v : Value} (X : K.In s.heap) (hlim : s.heap.NoLimit) (hG : s.heap.Ns mainGlobals mg) (hB : ∃ mb, s.heap.Ns builtinsNs mb ∧ ∀ x : Str, x ≠ "__name__" → mb x = bootBuiltins x)
    (hx : s.heap.get? x = some (excO C t0)) (hnx : K.lookup x = none) (hroom : A.depth < recursionLimit)
    (hq : ∀ h' tk dx, InitEnd fld s.heap h' x C dx v → R (.ok (.ret .none)) { s with heap := h', toks := tk }) :
    codeAny (model prog w) A (.call (.ref fI) ⟨[.ref x, v], []⟩) R s := by
  obtain ⟨oc, od, doc, pm, an, cda, cc, ct, osl, qual, msg, sc, p1, p2, a1, a2, a3, a4, a5, a6, q1, q2, q3, q4, j, ccl, cl, cdd, cld, vs, ccs, csl, file, tf, ho, hcd, S, hcode, hvs, hfile, hcell, htop, hline, bnd⟩ := T.fn
  obtain ⟨nm', q, N, bs, sn, sub, ab, col, dd, k0, k1, k2, k3, k5, hC⟩ := T.cls
  obtain ⟨mb, hB1, hB2⟩ := hB
  have hcl : clsIn K C = some { name := nm', bases := bs, mro := .ref C :: .ref Y :: ESX.exTail, ns := N, qualname := q, hasDict := true, slotNames := sn, subclasses := sub, abstract := ab, collection := col, hasDel := false } := by unfold clsIn; rw [hC] <;> rfl
  have hxC : x ≠ C := fun z => by rw [z, hC] at hnx; cases hnx
  refine ks_codeAny_call_defAt (fd := ksFn "__init__" qual (iA fld p1 p2) (iB fld msg a1 a2 a3 a4 a5 a6 q1 q2 q3 q4 j) sc .none .none doc pm an (.ref cda) ct cc) (body := iB fld msg a1 a2 a3 a4 a5 a6 q1 q2 q3 q4 j) (binds := [("self", .ref x), (fld, v)])
    hroom (X _ _ ho) rfl hlim (codeRec_of X hcd) rfl (bnd _ _ _) S.nocell ?_ (fun h₁ hns k => ?_) S.co S.gen S.kind
  · intro y hy
    rcases List.mem_cons.mp hy with rfl | hy
    · exact S.se
    · rcases List.mem_cons.mp hy with rfl | hy
      · exact S.fl
      · cases hy
  have X₁ : K.In h₁ := X.keeps k
  have hx₁ := k _ _ hx
  have hxL : s.heap.objs.size ≠ x := Nat.ne_of_gt (Heap.lt_size hx)
  have look_self : ([("self", Value.ref x), (fld, v)] : List (Str × Value)).reverse.lookup ("self" : Str) = some (.ref x) := by
    have ne2 : (("self" : Str) == fld) = false := by simpa using S.ne
    simp [List.lookup, ne2]
  have look_fld : ([("self", Value.ref x), (fld, v)] : List (Str × Value)).reverse.lookup fld = some v := by simp [List.lookup]
  show _root_.PySem.wpAt (model prog w) (A.deeper (ksEnv qual sc s.heap.objs.size fI (.ref cda) cc)) (.func (iB fld msg a1 a2 a3 a4 a5 a6 q1 q2 q3 q4 j) (ksEnv qual sc s.heap.objs.size fI (.ref cda) cc)) (execs (iB fld msg a1 a2 a3 a4 a5 a6 q1 q2 q3 q4 j) (ksEnv qual sc s.heap.objs.size fI (.ref cda) cc)) _ _ _
  have he : eval (.Call (.Attribute (.Call (.Name "super" a1) [] [] a2) "__init__" a3) [.Constant (.str msg) j a4] [] a5) (ksEnv qual sc s.heap.objs.size fI (.ref cda) cc) = (do
      let ov ← attributeBase (.Call (.Name "super" a1) [] [] a2) "__init__" (ksEnv qual sc s.heap.objs.size fI (.ref cda) cc) (eval (.Call (.Name "super" a1) [] [] a2) (ksEnv qual sc s.heap.objs.size fI (.ref cda) cc))
      standAt a3.atName
      let (f, first) ← holding [ov] (getMethod ov "__init__" (do return (← importBound (.Call (.Name "super" a1) [] [] a2) (ksEnv qual sc s.heap.objs.size fI (.ref cda) cc)).getD true))
      callWith a5 f first (backTo a5 (starEach [.Constant (.str msg) j a4] (ksEnv qual sc s.heap.objs.size fI (.ref cda) cc))) []) := by
    show (do let ov ← attributeBase _ _ _ _; standAt _; methodCall _ _ _ _ _ ov _ _ _) = _
    have form : methodCallForm 1 (backTo a5 (starEach [.Constant (.str msg) j a4] (ksEnv qual sc s.heap.objs.size fI (.ref cda) cc))) [] = true := rfl
    unfold methodCall methodCallPos calleeOf
    simp only [form, hline, Bool.not_true, Bool.false_or, if_true, pure_bind]
    first | rfl | (simp only [List.length, List.map, backToKw, keywordEach, form, hline, Bool.not_true, Bool.false_or, if_true, pure_bind]; rfl)
  refine ks_wpAt_execs_cons (ks_wpAt_Expr_any (ks_wpAt_MethodCall ?_ he) (by show (sc.kind == ScopeKind.module && _) = false; rw [S.kind]; rfl))
  refine ks_wpAt_super_base (env := ksEnv qual sc s.heap.objs.size fI (.ref cda) cc) S.su S.cl (by decide) rfl (X₁ _ _ ho) rfl rfl rfl (X₁ _ _ hcode) rfl hvs hfile htop ?_
  have su1 : bootBuiltins "super" = some (.type "super") := by first | boot_by_name | rfl | kernel_rfl
  refine ks_loadName_global S.kind S.su (loadGlobal_builtin (env := ksEnv qual sc s.heap.objs.size fI (.ref cda) cc) (hG.keeps k) T.su (hB1.keeps k) ((hB2 _ (by decide +kernel)).trans su1) ⟨rfl, ?_⟩)
  refine wpAny_loadName_free S.kind S.cl rfl ⟨_, X₁ _ _ hcell, rfl⟩ ?_
  refine wpAny_loadName_local S.kind S.se hns look_self ?_
  have oC : h₁.get? C = some (excClassObj nm' q C N bs (.ref Y :: ESX.exTail) true sn sub ab col dd k0 k1 k2 k3 k5 "Exception.__new__") := X₁ _ _ hC
  refine ks_wpAny_isType_cls oC rfl ⟨rfl, ?_⟩
  have mC : mroIn K C (.ref C) = some true := by
    unfold mroIn
    rw [hcl, Option.bind_some, if_neg (show ¬ (List.isEmpty (Value.ref C :: .ref Y :: ESX.exTail) = true) from Bool.false_ne_true)]
    simp
  refine ks_wpAny_call_super oC rfl hx₁ rfl (fun c e => by cases e) (looks_mroIn X₁ mC) (fun h₂ e2 kk2 => ?_)
  -- the bound __init__
  have X₂ : K.In h₂ := X₁.keeps kk2
  have hx₂ := kk2 _ _ hx₁
  have sub2 : Looks (model prog w) h₂ (isInstance (.ref x) (.type "Exception")) true := by
    have I2 : InstAt h₂ x (excO C t0) C none := ⟨hx₂, rfl, rfl, trivial⟩
    refine I2.type.andThen (looks_mroIn X₂ ?_)
    unfold mroIn
    rw [hcl, Option.bind_some, if_neg (show ¬ (List.isEmpty (Value.ref C :: .ref Y :: ESX.exTail) = true) from Bool.false_ne_true)]
    show some ((Value.ref C :: .ref Y :: ESX.exTail).contains (.type "Exception")) = some true
    rw [List.contains_cons, List.contains_cons, show ESX.exTail.contains (.type "Exception") = true by decide +kernel, Bool.or_true, Bool.or_true]
  refine ESX.getMethod_super (l₀ := .ref C :: .ref Y :: ESX.exTail) e2 (looks_opaque X₂ T.ho) (fun A Q E s k q => wpAny_bind ((looks_clsIn X₂ hcl) A _ E s k (wpAny_pure q))) (ESX.drop_own C _) X₂ T.al hxC (by decide) sub2 ?_
  have hu : (h₂.push (ESX.bw x)).get? h₂.objs.size = some (ESX.bw x) := Heap.get?_push_at rfl rfl
  have k3 : ∀ b o, h₂.get? b = some o → (h₂.push (ESX.bw x)).get? b = some o := fun b o e => Heap.get?_push_of_some _ e
  refine ESX.callWith_bound (x := x) (e := .Constant (.str msg) j a4) (rest := []) (spliced_cons (Constant_str (k := j) (pos := a4) ?_)) rfl rfl
  refine spliced_nil ⟨hu, ?_⟩
  refine ESX.call_bw (C := C) (k3 _ _ (kk2 _ _ oC)) (k3 _ _ hx₂) hu (show 1 ≤ sizeLine by rw [sizeLine_eq]; decide) (fun h₄ t1 k4 hx4 => ?_)
  -- self.f = f
  have kAll : ∀ b o, b ≠ x → s.heap.get? b = some o → h₄.get? b = some o := fun b o hb e => k4 b o hb (k3 _ _ (kk2 _ _ (k _ _ e)))
  have X₄ : K.In h₄ := fun b o e => kAll b o (fun z => by rw [z, hnx] at e; cases e) (X b o e)
  have hns4 : h₄.Ns s.heap.objs.size fun y => ([("self", Value.ref x), (fld, v)] : List (Str × Value)).reverse.lookup y := by
    obtain ⟨oL, es, ep, hL, r⟩ := hns
    exact ⟨oL, es, ep, k4 _ _ hxL (k3 _ _ (kk2 _ _ hL)), r⟩
  show _root_.PySem.wpAt _ _ _ (execs _ _) _ _ _
  refine wpAt_of_wpAny (wpAny_execs_cons (plainObj_wpAny_Assign_Attribute ?_))
  refine wpAny_Name (wpAny_loadName_local S.kind S.fl hns4 look_fld ?_) S.nd
  refine wpAny_Name (wpAny_loadName_local S.kind S.se hns4 look_self ?_) (by decide)
  refine set_plain X₄ (ox := excO C t1) (od := none) ⟨hx4, rfl, rfl, trivial⟩ T.sa ?_
  refine osa_new2 X₄ hx4 hcl rfl rfl T.noN (fun h₅ tk₅ dx k₅ dn dne hx₅ hn₅ => ?_)
  show wpAny _ _ (execs _ _) _ _ _
  have z1 : s.heap.objs.size ≤ h₄.objs.size := by
    obtain ⟨oL, es, ep, hL, r⟩ := hns4
    exact Nat.le_of_lt (Heap.lt_size hL)
  exact wpAny_execs_nil (hq h₅ tk₅ dx ⟨fun b o hb e => k₅ b o hb (kAll b o hb e), ⟨t1, hx₅⟩, Nat.le_trans z1 dn, dne, hn₅⟩)
theorem xs_made (T : XsTxt prog K mg nm fld C Y fI) {v : Value} (X : K.In s.heap) (hlim : s.heap.NoLimit) (hG : s.heap.Ns mainGlobals mg) (hB : ∃ mb, s.heap.Ns builtinsNs mb ∧ ∀ x : Str, x ≠ "__name__" → mb x = bootBuiltins x) (hroom : A.depth + 1 < recursionLimit)
    (hq : ∀ h' tk e d, OwnMade fld s.heap h' e C d v → R (.ok (.ret (.ref e))) { s with heap := h', toks := tk }) :
    codeAny (model prog w) A (.call (.ref C) ⟨[v], []⟩) R s := by
  obtain ⟨nm', q, N, bs, sn, sub, ab, col, dd, k0, k1, k2, k3, k5, hC⟩ := T.cls
  obtain ⟨mb, hB1, hB2⟩ := hB
  obtain ⟨hp, g, dr, tk, os⟩ := s
  have k : ∀ b o, hp.get? b = some o → ((hp.push (kdv_tup [v])).push (excO C hp.objs.size)).get? b = some o := fun b o e => Heap.get?_push_of_some _ (Heap.get?_push_of_some _ e)
  have hget : ((hp.push (kdv_tup [v])).push (excO C hp.objs.size)).get? (hp.objs.size + 1) = some (excO C hp.objs.size) := by heap_get
  have hnx : K.lookup (hp.objs.size + 1) = none := by
    cases e : K.lookup (hp.objs.size + 1) with
    | none => rfl
    | some o =>
      have z : hp.get? (hp.objs.size + 1) = some o := X _ _ e
      exact absurd (Nat.lt_of_succ_lt (Heap.lt_size z)) (Nat.lt_irrefl _)
  refine call_own F.excBase_Exception (fun Z => by rw [List.contains_cons]; show (false || _) = _; rw [Bool.false_or]) (X _ _ hC) (looks_findIn X T.iC) (fun self => bind_fn X self T.tC) (show 1 ≤ sizeLine by rw [sizeLine_eq]; decide) ?_
  refine xs_init (s := ⟨(hp.push (kdv_tup [v])).push (excO C hp.objs.size), g, dr, tk, os⟩) T (X.keeps k) (hlim.keeps k) (hG.keeps k) ⟨mb, hB1.keeps k, hB2⟩ hget hnx ?_ fun h' tk' dx M => ?_
  · show A.depth + 1 < recursionLimit
    exact hroom
  · obtain ⟨k', ⟨t1, hx⟩, dn, dne, hns⟩ := M
    have old : ∀ b o, hp.get? b = some o → h'.get? b = some o := fun b o e => k' b o (Nat.ne_of_lt (Nat.lt_succ_of_lt (Heap.lt_size e))) (k b o e)
    have z : hp.objs.size + 1 + 1 ≤ dx := by
      first
        | (simpa only [Heap.size_push] using dn)
        | exact dn
        | (have q := dn; rw [Heap.size_push, Heap.size_push] at q; exact q)
    exact ⟨rfl, hq h' tk' (hp.objs.size + 1) dx ⟨old, Nat.le_succ _, ⟨_, _, hx, rfl, rfl, rfl, rfl⟩, Nat.le_trans (Nat.le_trans (Nat.le_succ _) (Nat.le_succ _)) z, dne, hns⟩⟩
end
end XSup
end PySem
end PartDX2
section PartDX3
set_option maxRecDepth 100000
set_option maxHeartbeats 4000000
/-! DX3: raise, the exception's field. -/
namespace DL
open PySem PySem.Spec PyProof.Rows L2
open PySem.XSup (XsTxt)
theorem takesX {X : Cx} : Takes X (fun cls d σ H => XOk X cls d σ H) := fun u s' ⟨a, B, sI, pins, σ, H, cls, d, e, I, nb, up, sky, na, os, ag, W, tk, w⟩ =>
  tk u s' ⟨a, B, sI, pins, σ, H, cls, d, e, I, nb, up, sky, na, os, ag, w⟩
theorem relO_fld {fld : Str} {v : V} {v' : Value} (r : RelV v v') (f : Str) : RelO (List.lookup f [(fld, v)]) (if f = fld then some v' else none) := by
  by_cases hw : f = fld
  · subst hw
    rw [if_pos rfl]
    have q : List.lookup f [(f, v)] = some v := by simp [List.lookup]
    rw [q]
    exact r
  · rw [if_neg hw]
    have qw : (f == fld) = false := by simpa using hw
    have q2 : List.lookup f [(fld, v)] = none := by simp [List.lookup, qw]
    rw [q2]
    trivial
section
variable {X : Cx} {ρ : Ev} {Q : P → Ev → Prop} {pos p pos2 : Pos} {a b e : Expr} {es : List Expr} {x : Str} {K : PySem.W.Frag} {k : Nat} {R : Rt} {nm fld : Str} {C Y fI : Addr}
def tMkX (fld : Str) (C : Addr) (ta : TA) : L2.St → Hp → XK → Prop := fun σ H Q => ta σ H fun vs H1 => ∃ v, vs = [v] ∧ ∀ d, H1 d = none → Q (.ref C) (some d) (upd H1 d (.xd [(fld, v)]))
theorem pmk_xs {ta : TA} (T : XsTxt X.prog X.K X.mg nm fld C Y fI) (hr : Room k X.A) (ha : PA X [a] ta) (hg : Gl X nm := by rfl) (hdb : (nm == ("__debug__" : Str)) = false := by decide)
    (he : starEach (a :: []) X.env = (false, eval a X.env) :: starEach [] X.env := by rfl) (hpl : (backTo pos (starEach [] X.env)).any (·.1) = false := by rfl) :
    PMk X (.Call (.Name nm p) [a] [] pos) (tMkX fld C ta) := by
  intro pins s σ H Q I h
  refine wpAny_Call_Name_kw (ld_glob I hg T.gC ?_ hdb)
  refine PySem.W.callWith_K (h₀ := X.base) I.ok.mod.kin T.kC (thn (ha.run pos pins s σ H _ I h) fun us s1 hh => ?_) he hpl
  obtain ⟨vs, H1, I1, r1, v, ev, q1⟩ := hh
  subst ev
  refine ⟨I1.kIn, ?_⟩
  cases r1 with
  | cons rv rn =>
    rename_i v' us'
    cases rn
    show wpAny _ _ (call (.ref C) [v']) _ _ _
    have hlim := I1.nolimit
    have hG := I1.mod.glob.keeps I1.bk
    have hB : ∃ mb, s1.heap.Ns builtinsNs mb ∧ ∀ x : Str, x ≠ "__name__" → mb x = bootBuiltins x := by
      obtain ⟨mb, b1, b2⟩ := I1.mod.blt
      exact ⟨mb, b1.keeps I1.bk, b2⟩
    obtain ⟨hp, g, dr, tk, os⟩ := s1
    refine wpAny_call (PySem.XSup.xs_made T I1.kIn hlim hG hB (by have := hr.dp; omega) fun h' tk' e d M => ?_)
    show MkP X pins σ Q (.ref e) ⟨h', g, dr, tk', os⟩
    obtain ⟨oe, fv, hoe, hc, hd, hdat, h1⟩ := M.obj
    have hns := M.ns
    obtain ⟨G', g1, g2⟩ := restrict h' fun b => decide (b ≠ e)
    have gk : ∀ b, b ≠ e → G'.get? b = h'.get? b := fun b hb => g1 b (decide_eq_true hb)
    have ge : G'.get? e = none := g2 e (by simp)
    have old : ∀ b o, hp.get? b = some o → G'.get? b = some o := fun b o q => (gk b (Nat.ne_of_lt (Nat.lt_of_lt_of_le (Heap.lt_size q) M.new))).trans (M.keep b o q)
    have ob : ObjOk X.prog X.w (upd H1 d (.xd [(fld, v)])) G' d (.xd [(fld, v)]) :=
      ⟨_, hns.at (fun o q => (gk d M.dne).trans q), fun f => relO_fld rv f⟩
    have J : Inv X pins σ (upd H1 d (.xd [(fld, v)])) ⟨G', g, dr, tk', os⟩ := I1.laid (t' := tk') old M.dbig ob
    refine ⟨e, oe, fv, ⟨G', g, dr, tk', os⟩, _, .ref C, some d, rfl, J, fun b o q => ?_, ge, hoe, ⟨hc, hd⟩, hdat, h1, ?_, rfl, I1.bare, raises_own T.exC T.tyC, q1 d (I1.hok.fresh M.dbig)⟩
    · by_cases hb : b = e
      · have q' : G'.get? b = some o := q
        rw [hb, ge] at q'; cases q'
      · exact (gk b hb).symm.trans q
    · rw [upd_ne (Ne.symm M.dne)]
      exact I1.hok.fresh M.new
/-- raise X(e) -/
theorem ss_raise (T : XsTxt X.prog X.K X.mg nm fld C Y fI) (hc : X.calm = true) (hr : Room k X.A) (h : EV X a ρ fun y ρ1 => ∃ d, y = .d d ∧ R.xc ⟨nm, fld, d⟩) (hg : Gl X nm := by rfl) (hdb : (nm == ("__debug__" : Str)) = false := by decide)
    (he : starEach (a :: []) X.env = (false, eval a X.env) :: starEach [] X.env := by rfl) (hpl : (backTo pos (starEach [] X.env)).any (·.1) = false := by rfl) : SS X (.Raise (some (.Call (.Name nm p) [a] [] pos)) none pos2) ρ R := fun Γ fp F σ H D t kk pins s I =>
  (ps_raise hc takesX (pmk_xs T hr (pa_cons pe_w pa_nil he) hg hdb he hpl)).run pins s σ H D I (h Γ fp F σ H _ t fun v F1 H1 y ρ1 fp1 t1 f1 r1 ⟨d, ey, q⟩ => by
    subst ey
    refine ⟨v, rfl, fun dd hd => ?_⟩
    have g := Gr.new (o := .xd [(fld, v)]) t1.ex hd
    exact kk.xc ⟨nm, fld, d⟩ (.ref C) (some dd) ρ1 fp1 _ σ _ (t1.grow g) ⟨C, dd, v, rfl, T.gC, rfl, upd_same, dp_same g.f r1⟩ q)
/-- e.f, e the exception that the suite holds -/
def tFldX (fld : Str) (C : Addr) (a : Addr) (cls : Value) (d : Option Addr) (te : TE) : TE := fun σ H Q => te σ H fun x H1 => x = .ref a ∧ cls = .ref C ∧ ∃ (dd : Addr) (v : V), d = some dd ∧ H1 dd = some (.xd [(fld, v)]) ∧ Q v H1
theorem pe_fldX {a : Addr} {oe : Obj} {cls : Value} {d : Option Addr} {pn : List (Addr × Obj)} {e : Expr} {te : TE} (T : XsTxt X.prog X.K X.mg nm fld C Y fI) (hz : Zc cls d oe) (hf : ∃ vs, oe.data = .fields vs) (he : PE (X.suite a ((a, oe) :: pn)) e te)
    (hb : attributeBase e fld X.env (eval e X.env) = eval e X.env := by rfl) :
    PE (X.suite a ((a, oe) :: pn)) (.Attribute e fld pos) (tFldX fld C a cls d te) := by
  refine ⟨fun pins s σ H Q I h => ?_⟩
  refine attr_of hb (thn (he.run pins s σ H _ I h) fun u s1 hh => ?_)
  obtain ⟨x, H1, I1, rx, ex, ec, dd, v, ed, ea, q⟩ := hh
  subst ex
  obtain rfl : u = Value.ref a := rx
  subst ec
  subst ed
  obtain ⟨ha, _⟩ := I1.pin (a, oe) (List.mem_append_left _ List.mem_cons_self)
  obtain ⟨vs, hd⟩ := hf
  have hx : ObjOk X.prog X.w H1 s1.heap dd (.xd [(fld, v)]) := I1.hok dd _ ea
  obtain ⟨mA, hns, hr⟩ := hx
  obtain ⟨od, ho, hl⟩ := lookIn_ns hns
  have l : List.lookup fld [(fld, v)] = some v := by simp [List.lookup]
  obtain ⟨u, hu, ru⟩ := RelO.some_of (v := v) (o := mA fld) (by rw [← l]; exact hr fld)
  have J : PySem.W.InstAt s1.heap a oe C (some od) := ⟨ha, hz.1, by unfold PySem.W.notCls; rw [hd] <;> rfl, by rw [hz.2]; exact ho⟩
  exact HandSPX.exc_get I1.kIn J T.ga T.gg T.exC (PySem.W.findObj_own T.hdC T.noN rfl (by rw [hl, hu])) (handed_of ru) ⟨v, H1, I1.tok _, ru, q⟩
end
end DL
end PartDX3
section PartDL9
set_option maxRecDepth 100000
set_option maxHeartbeats 2000000
/-! DL9: looks at lists of one's own, +=, in of a tuple, join, isinstance of two. -/
namespace DL
open PySem PySem.Spec PyProof.Rows L2
section
variable {X : Cx} {ρ : Ev} {pos p : Pos} {a b e : Expr} {es : List Expr} {x : Str} {K : PySem.W.Frag} {Q : P → Ev → Prop} {k : Nat}
/-! ### in of a tuple -/
def rInDT (K : PySem.W.Frag) : R2 := fun x y H Q => ∃ d ds, Dp K H x d ∧ Dp K H y (.tuple ds) ∧ SeqAt.shaped d = true ∧ SeqAt.shaped (.tuple ds) = true ∧ Q (.bl (ds.any fun z => PyData.eqv z d)) H
theorem op_inDT (hu : X.A.units + 65 < cLine) : OpR X (compareOp .In) (rInDT X.K) := by
  intro pins s σ H x y v u Q I rx ry h
  obtain ⟨d, ds, hd, he, sd, se, q⟩ := h
  obtain ⟨as, r1⟩ := Dp.reads I d x v hd rx
  obtain ⟨bs, r2⟩ := Dp.reads I (.tuple ds) y u he ry
  exact SeqAt.in_tuple_reads r2 r1 (SeqAt.canLay_of_shaped se) (SeqAt.canLay_of_shaped sd) (room_in_shaped sd hu) ⟨.bl _, H, I, rfl, q⟩
theorem do_inDT {K : PySem.W.Frag} {x : D} {ys : List D} {Q : P → Prop} (hx : SeqAt.shaped x = true) (hy : SeqAt.shaped (.tuple ys) = true) (q : Q (.d (.bool (ys.any fun z => PyData.eqv z x)))) : DO K (rInDT K) (.d x) (.d (.tuple ys)) Q :=
  do_of (fun F H v w Φ s r1 r2 k => ⟨x, ys, (dp_same s r1).dp, (dp_same s r2).dp, hx, hy, k _ rpB⟩) q
theorem room65 (hr : Room k X.A) : X.A.units + 65 < cLine := by
  have := hr.un
  omega
theorem et_inT {Qb : Bool → Ev → Prop} (hr : Room k X.A) (h : EV X a ρ fun x ρ1 => EV X b ρ1 fun y ρ2 => ∃ d ds, x = .d d ∧ y = .d (.tuple ds) ∧ SeqAt.shaped d = true ∧ SeqAt.shaped (.tuple ds) = true ∧ Qb (ds.any fun z => PyData.eqv z d) ρ2)
    (hm : behindInMarks .In b = false := by first | exact nomark _ | rfl) : ET X (.Compare a [.In] [b] pos) ρ Qb :=
  et_cmp (op_inDT (room65 hr)) (h.mono fun x ρ1 h1 => EV.mono h1 fun y ρ2 ⟨d, ds, ex, ey, hx, hy, q⟩ => by subst ex ey; exact do_inDT hx hy ⟨_, rfl, q⟩) hm
theorem ev_inT (hr : Room k X.A) (h : EV X a ρ fun x ρ1 => EV X b ρ1 fun y ρ2 => ∃ d ds, x = .d d ∧ y = .d (.tuple ds) ∧ SeqAt.shaped d = true ∧ SeqAt.shaped (.tuple ds) = true ∧ Q (.d (.bool (ds.any fun z => PyData.eqv z d))) ρ2)
    (hm : behindInMarks .In b = false := by first | exact nomark _ | rfl) : EV X (.Compare a [.In] [b] pos) ρ Q :=
  ev_cmp (op_inDT (room65 hr)) (h.mono fun x ρ1 h1 => EV.mono h1 fun y ρ2 ⟨d, ds, ex, ey, hx, hy, q⟩ => by subst ex ey; exact do_inDT hx hy q) hm
theorem et_inL {Qb : Bool → Ev → Prop} (hr : Room k X.A) (h : EV X a ρ fun x ρ1 => EV X b ρ1 fun y ρ2 => ∃ d ds, x = .d d ∧ y = .d (.list ds) ∧ SeqAt.shaped d = true ∧ SeqAt.shaped (.list ds) = true ∧ Qb (ds.any fun z => PyData.eqv z d) ρ2)
    (hm : behindInMarks .In b = false := by first | exact nomark _ | rfl) : ET X (.Compare a [.In] [b] pos) ρ Qb :=
  et_cmp (op_inD (room65 hr)) (h.mono fun x ρ1 h1 => EV.mono h1 fun y ρ2 ⟨d, ds, ex, ey, hx, hy, q⟩ => by subst ex ey; exact do_inD hx hy ⟨_, rfl, q⟩) hm
theorem ev_inL (hr : Room k X.A) (h : EV X a ρ fun x ρ1 => EV X b ρ1 fun y ρ2 => ∃ d ds, x = .d d ∧ y = .d (.list ds) ∧ SeqAt.shaped d = true ∧ SeqAt.shaped (.list ds) = true ∧ Q (.d (.bool (ds.any fun z => PyData.eqv z d))) ρ2)
    (hm : behindInMarks .In b = false := by first | exact nomark _ | rfl) : EV X (.Compare a [.In] [b] pos) ρ Q :=
  ev_cmp (op_inD (room65 hr)) (h.mono fun x ρ1 h1 => EV.mono h1 fun y ρ2 ⟨d, ds, ex, ey, hx, hy, q⟩ => by subst ex ey; exact do_inD hx hy q) hm
theorem et_ninL {Qb : Bool → Ev → Prop} (hr : Room k X.A) (h : EV X a ρ fun x ρ1 => EV X b ρ1 fun y ρ2 => ∃ d ds, x = .d d ∧ y = .d (.list ds) ∧ SeqAt.shaped d = true ∧ SeqAt.shaped (.list ds) = true ∧ Qb (!ds.any fun z => PyData.eqv z d) ρ2)
    (hm : behindInMarks .NotIn b = false := by first | exact nomark _ | rfl) : ET X (.Compare a [.NotIn] [b] pos) ρ Qb :=
  et_cmp (op_notInD (room65 hr)) (h.mono fun x ρ1 h1 => EV.mono h1 fun y ρ2 ⟨d, ds, ex, ey, hx, hy, q⟩ => by subst ex ey; exact do_notInD hx hy ⟨_, rfl, q⟩) hm
theorem ev_ninL (hr : Room k X.A) (h : EV X a ρ fun x ρ1 => EV X b ρ1 fun y ρ2 => ∃ d ds, x = .d d ∧ y = .d (.list ds) ∧ SeqAt.shaped d = true ∧ SeqAt.shaped (.list ds) = true ∧ Q (.d (.bool (!ds.any fun z => PyData.eqv z d))) ρ2)
    (hm : behindInMarks .NotIn b = false := by first | exact nomark _ | rfl) : EV X (.Compare a [.NotIn] [b] pos) ρ Q :=
  ev_cmp (op_notInD (room65 hr)) (h.mono fun x ρ1 h1 => EV.mono h1 fun y ρ2 ⟨d, ds, ex, ey, hx, hy, q⟩ => by subst ex ey; exact do_notInD hx hy q) hm

/-! ### isinstance(x, (T, U)) -/
theorem paired2 {α β : Type} {R : α → β → Prop} {a a' : α} {b b' : β} (h : R a b) (h' : R a' b') : Paired R [a, a'] [b, b'] := .cons h (.cons h' .nil)
theorem ev_isi2 {n1 n2 : String} {nm1 nm2 : Str} {p1 p2 tpos : Pos} {k0 : Nat} (hm : X.mg "isinstance" = none) (hm1 : X.mg nm1 = none) (hm2 : X.mg nm2 = none)
    (h : EV X a ρ fun y ρ1 => ∃ d r1 r2, y = .d d ∧ kitB (kindOf d) n1 = some r1 ∧ kitB (kindOf d) n2 = some r2 ∧ Q (.d (.bool (r1 || r2))) ρ1) (hv1 : bootBuiltins nm1 = some (.type n1) := by decide +kernel) (hv2 : bootBuiltins nm2 = some (.type n2) := by decide +kernel)
    (hg1 : Gl X nm1 := by rfl) (hg2 : Gl X nm2 := by rfl) (hn1 : nm1 ≠ "__name__" := by decide) (hn2 : nm2 ≠ "__name__" := by decide) (hd1 : (nm1 == ("__debug__" : Str)) = false := by decide) (hd2 : (nm2 == ("__debug__" : Str)) = false := by decide) (hg : Gl X "isinstance" := by rfl)
    (he : starEach [a, .Tuple [.Name nm1 p1, .Name nm2 p2] k0 tpos] X.env = (false, eval a X.env) :: starEach [.Tuple [.Name nm1 p1, .Name nm2 p2] k0 tpos] X.env := by rfl)
    (he2 : starEach [.Tuple [.Name nm1 p1, .Name nm2 p2] k0 tpos] X.env = (false, eval (.Tuple [.Name nm1 p1, .Name nm2 p2] k0 tpos) X.env) :: starEach [] X.env := by rfl)
    (he3 : starEach [.Name nm1 p1, .Name nm2 p2] X.env = (false, eval (.Name nm1 p1) X.env) :: starEach [.Name nm2 p2] X.env := by rfl) (he4 : starEach [.Name nm2 p2] X.env = (false, eval (.Name nm2 p2) X.env) :: starEach [] X.env := by rfl)
    (hpl : (backTo pos (starEach [.Tuple [.Name nm1 p1, .Name nm2 p2] k0 tpos] X.env)).any (·.1) = false := by rfl) :
    EV X (.Call (.Name "isinstance" p) [a, .Tuple [.Name nm1 p1, .Name nm2 p2] k0 tpos] [] pos) ρ Q := fun Γ fp F σ H Φ t k pins s I =>
  (pe_callB call_isiT hg hm (by decide +kernel) (pa_cons pe_w (pa_cons (pe_tup (pa_cons (pe_bltn (v := .ty n1) hg1 hm1 hv1 rfl hn1 hd1) (pa_cons (pe_bltn (v := .ty n2) hg2 hm2 hv2 rfl hn2 hd2) pa_nil he4) he3)) pa_nil he2) he) (by decide) (by decide) he hpl).run pins s σ H Φ I
    (h Γ fp F σ H _ t fun v F1 H1 y ρ1 fp1 t1 f1 r1 ⟨d, b1, b2, ey, k1, k2, q⟩ => by
      subst ey
      refine ⟨by show 2 ≤ sizeLine; rw [sizeLine_eq]; decide, fun p hp => ?_⟩
      have g := Gr.new (o := .tup [.ty n1, .ty n2]) t1.ex hp
      refine ⟨v, p, [.ty n1, .ty n2], _, [.type n1, .type n2], b1 || b2, rfl, upd_same, paired2 (.ty n1) (.ty n2), tyx_of (t1.grow g).ex (dp_same g.f r1), ?_, k _ _ _ _ ρ1 fp1 (t1.grow g) (f1.trans g.f) rpB q⟩
      have z1 : PySem.W.kitOne X.K (.type (kindOf d)) (.type n1) = some b1 := kit_ty k1
      have z2 : PySem.W.kitOne X.K (.type (kindOf d)) (.type n2) = some b2 := kit_ty k2
      show (match PySem.W.kitOne X.K (.type (kindOf d)) (.type n1) with | some true => some true | some false => PySem.W.kitAny X.K (.type (kindOf d)) [.type n2] | none => none) = some (b1 || b2)
      rw [z1]
      cases b1 with
      | true => rfl
      | false =>
        show (match PySem.W.kitOne X.K (.type (kindOf d)) (.type n2) with | some true => some true | some false => PySem.W.kitAny X.K (.type (kindOf d)) [] | none => none) = some (false || b2)
        rw [z2]
        cases b2 <;> rfl)

/-! ### looks at lists of one's own -/
section
variable (i : Nat) {p1 : Pos} {ds : List D}
theorem ev_lenO (hm : X.mg "len" = none) (q : Q (.d (.int ds.length)) ρ) (h0 : ρ[i]? = some (some (.own ds)) := by rfl) (hN : X.N[i]? = some x := by rfl) (hv : Vis X.env.scope x := by first | exact Or.inl rfl | exact Or.inr (Or.inl rfl) | exact Or.inr (Or.inr rfl)) (hd : (x == ("__debug__" : Str)) = false := by decide) (hcd : (x == ("__classdict__" : Str)) = false := by decide)
    (hg : Gl X "len" := by rfl) (he : starEach [.Name x p1] X.env = (false, eval (.Name x p1) X.env) :: starEach [] X.env := by rfl) (hpl : (backTo pos (starEach [] X.env)).any (·.1) = false := by rfl) : EV X (.Call (.Name "len" p) [.Name x p1] [] pos) ρ Q := fun Γ fp F σ H Φ t kk pins s I => by
  obtain ⟨a0, vs0, hf0, hv0, ha0, hd0, hl0⟩ := own_at t h0
  refine (pe_callB call_len hg hm PySem.boot_len (pa_cons (pe_var hN hv hd hcd) pa_nil he) (by decide) (by decide) he hpl).run pins s σ H Φ I ⟨.ref a0, hv0, .ref a0, ds.length, rfl, .inl ⟨vs0, SqL.of ha0, hd0.len.symm⟩, ?_⟩
  exact kk _ F H _ ρ fp t (Same.refl _) rpI q
/-- x[e] -/
theorem ev_ixO (h : EV X e ρ fun y ρ1 => ∃ j ds z, y = .d (.int j) ∧ ρ1[i]? = some (some (.own ds)) ∧ atI ds j = some z ∧ Q (.d z) ρ1) (h0 : ρ[i]? = some (some (.own ds)) := by rfl) (hN : X.N[i]? = some x := by rfl) (hv : Vis X.env.scope x := by first | exact Or.inl rfl | exact Or.inr (Or.inl rfl) | exact Or.inr (Or.inr rfl)) (hd : (x == ("__debug__" : Str)) = false := by decide) (hcd : (x == ("__classdict__" : Str)) = false := by decide)
    (hs : PlainIx e := by exact fun _ _ => rfl) : EV X (.Subscript (.Name x p1) e pos) ρ Q := fun Γ fp F σ H Φ t kk pins s I => by
  obtain ⟨a0, vs0, hf0, hv0, ha0, hd0, hl0⟩ := own_at t h0
  refine (pe_ix ix_seq (pe_var hN hv hd hcd) pe_w hs).run pins s σ H Φ I ⟨.ref a0, hv0, h Γ fp F σ H _ t fun w F1 H1 y ρ1 fp1 t1 f1 r1 ⟨j, ds1, z, ey, h1, hz, q⟩ => ?_⟩
  subst ey
  obtain ⟨a1, vs1, hf1, hv1, ha1, hd1, hl1⟩ := own_at t1 h1
  rw [hv0] at hv1
  cases hv1
  obtain ⟨u, g1, g2⟩ := atI_data hd1 hz
  exact .inl ⟨a0, vs1, j, u, rfl, rep_int r1, SqL.of ha1, g1, kk u F1 H1 (.d z) ρ1 fp1 t1 f1 g2 q⟩
theorem eqv_nil : ∀ {ds : List D}, PyData.eqv (.list ds) (.list []) = decide (ds = [])
  | [] => rfl
  | _ :: _ => by simp [PyData.eqv, PyData.eqvAll]
/-- x != [], x == [] -/
theorem et_neNilO {p2 : Pos} {Qb : Bool → Ev → Prop} (hr : Room k X.A) (hsh : SeqAt.shaped (.list ds) = true) (q : Qb (decide (ds ≠ [])) ρ) (h0 : ρ[i]? = some (some (.own ds)) := by rfl) (hN : X.N[i]? = some x := by rfl) (hv : Vis X.env.scope x := by first | exact Or.inl rfl | exact Or.inr (Or.inl rfl) | exact Or.inr (Or.inr rfl)) (hd : (x == ("__debug__" : Str)) = false := by decide) (hcd : (x == ("__classdict__" : Str)) = false := by decide)
    (hm : behindInMarks .NotEq (.List [] p2) = false := by first | exact nomark _ | rfl) : ET X (.Compare (.Name x p1) [.NotEq] [.List [] p2] pos) ρ Qb := fun Γ fp F σ H Φ t kk pins s I => by
  obtain ⟨a0, vs0, hf0, hv0, ha0, hd0, hl0⟩ := own_at t h0
  refine (pt_cmpR (op_neD hr.units) (pe_var hN hv hd hcd) (pe_lst pa_nil) hm).run pins s σ H Φ I ⟨.ref a0, hv0, by show 0 ≤ sizeLine; exact Nat.zero_le _, fun p hp => ?_⟩
  have g := Gr.new (o := .lst []) t.ex hp
  have t1 := t.grow g
  have e1 : (upd H p (.lst [])) a0 = some (.lst vs0) := by rw [upd_ne (ne_of_none ha0 hp)]; exact ha0
  refine ⟨.list ds, .list [], .lst (SqL.of e1) (dpAll_same t1.ex (dpAll_same g.f hd0)).dp, .lst (SqL.of upd_same) .nil, hsh, by decide +kernel, _, rfl, ?_⟩
  rw [eqv_nil]
  have e2 : (!decide (ds = [])) = decide (ds ≠ []) := by by_cases c : ds = [] <;> simp [c]
  rw [e2]
  exact kk _ _ _ ρ fp t1 g.f q
theorem et_eqNilO {p2 : Pos} {Qb : Bool → Ev → Prop} (hr : Room k X.A) (hsh : SeqAt.shaped (.list ds) = true) (q : Qb (decide (ds = [])) ρ) (h0 : ρ[i]? = some (some (.own ds)) := by rfl) (hN : X.N[i]? = some x := by rfl) (hv : Vis X.env.scope x := by first | exact Or.inl rfl | exact Or.inr (Or.inl rfl) | exact Or.inr (Or.inr rfl)) (hd : (x == ("__debug__" : Str)) = false := by decide) (hcd : (x == ("__classdict__" : Str)) = false := by decide)
    (hm : behindInMarks .Eq (.List [] p2) = false := by first | exact nomark _ | rfl) : ET X (.Compare (.Name x p1) [.Eq] [.List [] p2] pos) ρ Qb := fun Γ fp F σ H Φ t kk pins s I => by
  obtain ⟨a0, vs0, hf0, hv0, ha0, hd0, hl0⟩ := own_at t h0
  refine (pt_cmpR (op_eqD hr.units) (pe_var hN hv hd hcd) (pe_lst pa_nil) hm).run pins s σ H Φ I ⟨.ref a0, hv0, by show 0 ≤ sizeLine; exact Nat.zero_le _, fun p hp => ?_⟩
  have g := Gr.new (o := .lst []) t.ex hp
  have t1 := t.grow g
  have e1 : (upd H p (.lst [])) a0 = some (.lst vs0) := by rw [upd_ne (ne_of_none ha0 hp)]; exact ha0
  refine ⟨.list ds, .list [], .lst (SqL.of e1) (dpAll_same t1.ex (dpAll_same g.f hd0)).dp, .lst (SqL.of upd_same) .nil, hsh, by decide +kernel, _, rfl, ?_⟩
  rw [eqv_nil]
  exact kk _ _ _ ρ fp t1 g.f q
/-- x += e, e a new list -/
theorem ss_augL {R : Rt} (h : EN X e ρ fun zs ρ1 => ∃ ds, ρ1[i]? = some (some (.own ds)) ∧ ds.length + zs.length ≤ 100000 ∧ R.nx (ρ1.set i (some (.own (ds ++ zs))))) (hNd : X.N.Nodup) (h0 : ρ[i]? = some (some (.own ds)) := by rfl) (hN : X.N[i]? = some x := by rfl) (hx : Loc X.env.scope x := by first | exact Or.inl rfl | exact Or.inr rfl) (hd : (x == ("__debug__" : Str)) = false := by decide)
    (hf : X.fn x = true ∨ X.env.scope.names.lookup x = some .local := by first | exact .inl rfl | exact .inr rfl) : SS X (.AugAssign (.Name x p1) .Add e pos) ρ R := fun Γ fp F σ H D t kk pins s I => by
  obtain ⟨a0, vs0, hf0, hv0, ha0, hd0, hl0⟩ := own_at t h0
  refine (ps_aug hNd hN hx pe_w (fun pins s σ H x y v u Q I rx ry h => iop_ext pins s σ H x y v u Q I rx ry h) hf).run pins s σ H D I ⟨.ref a0, hv0, h Γ fp F σ H _ t fun b ws F1 H1 zs ρ1 fp1 t1 f1 n1 n2 r n3 n4 ⟨ds1, h1, hl, q⟩ => ?_⟩
  obtain ⟨a1, vs1, hf1, hv1, ha1, hd1, hl1⟩ := own_at t1 h1
  rw [hv0] at hv1
  cases hv1
  refine ⟨a0, b, vs1, ws, rfl, rfl, ha1, n2, by rw [hd1.len, r.len]; exact small5 hl, ?_⟩
  have e2 : σ.set i (some (V.ref a0)) = σ := by
    apply List.ext_getElem?
    intro j
    by_cases z : i = j
    · subst z
      rw [List.getElem?_set_self (by rw [t.len]; exact hl0), hv0]
    · rw [List.getElem?_set_ne z]
  show D.nx (σ.set i (some (.ref a0))) _
  rw [e2]
  exact kk.nx _ fp1 F1 σ _ (t1.write (c := .own (ds1 ++ zs)) hf1 hv0 hl1 ⟨a0, vs1 ++ ws, rfl, rfl, upd_same, DqAll.app hd1 r⟩) q
end
/-! ### sep.join(xs) -/
theorem ev_join {o : Expr} {apos : Pos} (h : EV X o ρ fun y ρ1 => ∃ sep : Str, y = .d (.str sep) ∧ EV X e ρ1 fun z ρ2 => ∃ (ys : List Str), (z = .d (.list (ys.map .str)) ∨ z = .d (.tuple (ys.map .str))) ∧ (ys.map (·.length)).sum + ys.length * sep.length ≤ 16777216 ∧ Q (.d (.str (Txt.join sep ys))) ρ2)
    (hs : starEach [e] X.env = [(false, eval e X.env)] := by rfl) (hbase : attributeBase o "join" X.env (eval o X.env) = eval o X.env := by rfl) (hline : (apos.endLine == pos.line) = true := by rfl) : EV X (.Call (.Attribute o "join" apos) [e] [] pos) ρ Q := fun Γ fp F σ H Φ t kk pins s I =>
  (pe_join pe_w pe_w hs hbase hline).run pins s σ H Φ I (h Γ fp F σ H _ t fun v F1 H1 y ρ1 fp1 t1 f1 r1 ⟨sep, ey, h1⟩ => by
    subst ey
    refine ⟨⟨sep, rep_str r1⟩, h1 Γ fp1 F1 σ H1 _ t1 fun w F2 H2 z ρ2 fp2 t2 f2 r2 ⟨ys, ez, hl, q⟩ => ?_⟩
    rcases ez with rfl | rfl
    · obtain ⟨a1, vs, rfl, s1, d1⟩ := rep_lst r2
      have e1 := d1.toStrs
      subst e1
      exact ⟨sep, a1, ys, rep_str r1, rfl, .inl (t2.ex.seq s1), hl, kk _ F2 H2 _ ρ2 fp2 t2 (f1.trans f2) rpS q⟩
    · obtain ⟨a1, vs, rfl, s1, d1⟩ := rep_tup r2
      have e1 := d1.toStrs
      subst e1
      exact ⟨sep, a1, ys, rep_str r1, rfl, .inr (sqT_same t2.ex s1), hl, kk _ F2 H2 _ ρ2 fp2 t2 (f1.trans f2) rpS q⟩)
end
end DL
end PartDL9
section PartDL10
set_option maxRecDepth 100000
set_option maxHeartbeats 2000000
/-! DL10: sorted of a tuple of alike data. -/
namespace PySem.W
open PySem PySem.Calls PyProof.Rows
section
variable {prog : Program} {w : World} {A : Around} {E : Value → Shared → Prop} {s : Shared} {κ : PyProof.Rows.KeyKind}
theorem collect_tup {l : Addr} {vs : List Value} {Q : List Value → Shared → Prop} (hl : s.heap.IsTuple l vs.toArray)
    (h : Q vs { s with heap := (s.heap.push (seqObj "list" #[] 0)).update s.heap.objs.size (Obj.mapSeq (· ++ vs.toArray)) }) (hsz : vs.length ≤ sizeLine) :
    wpAny (model prog w) A (collect (.ref l)) Q E s := by
  obtain ⟨o, ho, hc, n, hd⟩ := id hl
  unfold collect
  refine wpAny_bind (wpAny_runValue (codeAny_builtin entry_proto_collect' ?_))
  show wpAny _ _ (do again (.builtin "list.__iadd__" ⟨[← newList [], .ref l], []⟩)) _ _ s
  refine wpAny_bind (wpAny_newList (wpAny_pure ⟨Code.quiet_builtin _ (by decide +kernel), codeAny_builtin entry_list_iadd' ?_⟩))
  show wpAny _ _ (Builtin.List.listExtendWith (.ref s.heap.objs.size) (.ref l) (.ref s.heap.objs.size)) _ _ { s with heap := s.heap.push (seqObj "list" #[] 0) }
  unfold Builtin.List.listExtendWith
  have ho' : (s.heap.push (seqObj "list" #[] 0)).get? l = some o := Heap.get?_push_of_some _ ho
  refine wpAny_bind (wpAny_typeOf (T := "tuple") ⟨o, ho', hc⟩ ?_)
  have ht : (Value.type "tuple" == Value.type "tuple") = true := by rfl
  rw [if_pos (by rw [ht]; simp)]
  refine wpAny_bind (listItems_at ho' hd ?_)
  refine wpAny_bind (listItems_at (xs := #[]) (n := 0) (Heap.get?_push_size _ rfl) rfl ?_)
  rw [if_neg (by simp)]
  refine wpAny_bind (listUpdate_at (xs := #[]) (n := 0) (Heap.get?_push_size _ rfl) rfl ?_ (Nat.zero_le _) (by show (#[] ++ vs.toArray).size ≤ sizeLine + 1; simp only [Array.size_append, List.size_toArray, List.length_nil]; omega))
  refine wpAny_pure ?_
  show wpAny (model prog w) A (do
      let o ← load s.heap.objs.size
      match o.data with
      | .seq xs _ => pure xs.toList
      | _ => unsupported "internal:collect") Q E { s with heap := (s.heap.push (seqObj "list" #[] 0)).update s.heap.objs.size (Obj.mapSeq (· ++ vs.toArray)) }
  refine wpAny_bind (wpAny_load (get?_update_seq (Heap.get?_push_size _ rfl) _) ?_)
  show wpAny _ _ (pure ((#[] : Array Value) ++ vs.toArray).toList) Q E _
  rw [show ((#[] : Array Value) ++ vs.toArray).toList = vs by simp]
  exact wpAny_pure h
theorem sorted_of_sortT {l : Addr} {vs : List Value} {kw : List (Str × Value)} {Q : Value → Shared → Prop} (hl : s.heap.IsTuple l vs.toArray) (hL : vs.length ≤ sizeLine) (ha1 : argsOk "sorted" ⟨[.ref l], kw⟩) (ha2 : ∀ x, argsOk "list.sort" ⟨[.ref x], kw⟩)
    (body : ∀ E' : Value → Shared → Prop, wpAny (model prog w) A.in1.in1 (Builtin.«list.sort» ⟨[.ref (s.heap.objs.size + 1)], kw⟩) (fun f s' => f = .done (.ret .none) ∧ Q (.ref (s.heap.objs.size + 1)) s') E' { s with heap := copyHeap s.heap vs }) :
    wpAny (model prog w) A (call (.builtin "sorted") [.ref l] kw) Q E s := by
  refine call_function_entry_kw kind_sorted plain_sorted entry_sorted ha1 ?_
  unfold Builtin.«sorted»
  refine wpAny_bind (m := checkCount "sorted" 1 1 _) (wpAny_pure ?_)
  refine wpAny_bind (collect_tup hl ?_ hL)
  refine wpAny_bind (wpAny_newList ?_ hL)
  have hsz : ((s.heap.push (seqObj "list" #[] 0)).update s.heap.objs.size (Obj.mapSeq (· ++ vs.toArray))).objs.size = s.heap.objs.size + 1 := by
    rw [Heap.size_update, size_push']
  show wpAny _ _ _ _ _ { s with heap := copyHeap s.heap vs }
  rw [hsz]
  refine wpAny_bind (wpAny_holding (wpAny_call_entry_kw slot_list_sort ⟨_, copyHeap_at s.heap vs, rfl⟩ entry_list_sort ?body (ha2 _)))
  case body =>
    show wpAny (model prog w) A.in1.in1 (Builtin.«list.sort» ⟨[.ref (s.heap.objs.size + 1)], kw⟩) _ _ _
    refine wpAny_mono (body _) (fun f s' hf => ?_) fun _ _ e => e
    obtain ⟨rfl, hq⟩ := hf
    exact ⟨_, rfl, wpAny_pure ⟨_, rfl, hq⟩⟩
theorem sorted_valsT {l : Addr} {vs : List Value} {Q : Value → Shared → Prop} (hl : s.heap.IsTuple l vs.toArray) (S : SortsAt prog w A.in1.in1 { s with heap := sortingHeap (copyHeap s.heap vs) (s.heap.objs.size + 1) vs } κ vs) (hL : vs.length ≤ sizeLine)
    (h : Q (.ref (s.heap.objs.size + 1)) { s with heap := sortedAll s.heap vs (sortVals κ false vs vs).toArray }) : wpAny (model prog w) A (call (.builtin "sorted") [.ref l]) Q E s :=
  sorted_of_sortT hl hL (args_sorted1 _) (fun _ => args_list_sort _) fun _ => list_sort_vals (s := { s with heap := copyHeap s.heap vs }) (copyHeap_at s.heap vs) S hL ⟨rfl, h⟩
end
section
variable {prog : Program} {w : World} {A : Around} {E : Value → Shared → Prop} {s : Shared} {β : Type} {vs : List Value} {bs : List β} {enc : β → PyData} {R : Value → β → Prop}
theorem sorted_dataT {l : Addr} {Q : Value → Shared → Prop} (hl : s.heap.IsTuple l vs.toArray) (e : EachIs R vs bs) (er : EachIs (fun v b => ∃ as, Reads s.heap v (enc b) as) vs bs) (hal : AllAlike (bs.map enc)) (hk : Sortable (bs.map enc)) (hL : bs.length ≤ sizeLine)
    (hu : ∀ b, b ∈ bs → A.units + 2 + (enc b).depth < cLine) (h : ∀ out, out.length = bs.length → EachIs R out (bs.mergeSort (dataLe false enc)) → Q (.ref (s.heap.objs.size + 1)) { s with heap := sortedAll s.heap vs (List.toArray out) }) :
    wpAny (model prog w) A (call (.builtin "sorted") [.ref l]) Q E s := by
  have er' : EachIs (fun v b => ∃ as, Reads (sortingHeap (copyHeap s.heap vs) (s.heap.objs.size + 1) vs) v (enc b) as) vs bs := er.mono fun _ _ ⟨as, r⟩ => ⟨as, PyProof.Rows.Reads.keeps (fun _ _ => sorting_copy_old) r⟩
  exact sorted_valsT hl (SortsAt.data (s := { s with heap := sortingHeap (copyHeap s.heap vs) (s.heap.objs.size + 1) vs }) (each_map (R := fun v d => ∃ as, Reads (sortingHeap (copyHeap s.heap vs) (s.heap.objs.size + 1) vs) v d as) enc er') hal hk (bound_map hu)) (by rw [e.length]; exact hL)
    (h _ (by rw [sortVals_length false rfl]; exact e.length) (sortVals_data false e er' hal))
end
end PySem.W
namespace DL
open PySem PySem.Spec PyProof.Rows L2
section
variable {X : Cx} {ρ : Ev} {pos p : Pos} {a b e : Expr} {es : List Expr} {x : Str} {K : PySem.W.Frag} {k : Nat}
theorem each_of {β : Type} {Z : V → β → Prop} : ∀ {xs : List V} {us : List Value} {bs : List β}, Vals xs us → Paired Z xs bs → PySem.W.EachIs (fun v b => ∃ x, RelV x v ∧ Z x b) us bs
  | _, _, _, .nil, .nil => .nil
  | _, _, _, .cons r rr, .cons z zz => .cons ⟨_, r, z⟩ (each_of rr zz)
theorem of_each {β : Type} {Z : V → β → Prop} : ∀ {us : List Value} {bs : List β}, PySem.W.EachIs (fun v b => ∃ x, RelV x v ∧ Z x b) us bs → ∃ xs, Vals xs us ∧ Paired Z xs bs
  | _, _, .nil => ⟨[], .nil, .nil⟩
  | _, _, .cons ⟨x, r, z⟩ t => by
    obtain ⟨xs, h1, h2⟩ := of_each t
    exact ⟨x :: xs, .cons r h1, .cons z h2⟩
def rSortTD (K : PySem.W.Frag) (u : Nat) {β : Type} (enc : β → D) (bs : List β) : List V → Hp → VK → Prop := fun vs H Q => ∃ (a : Addr) (xs : List V) (Z : V → β → Prop), vs = [.ref a] ∧ SqT K H a xs ∧ DpAll K H xs (bs.map enc) ∧ Paired Z xs bs ∧
  PySem.W.AllAlike (bs.map enc) ∧ PySem.W.Sortable (bs.map enc) ∧ (∀ b ∈ bs, (enc b).depth ≤ 20) ∧ ∀ (ys : List V) (p : Addr), Paired Z ys (bs.mergeSort (PySem.W.dataLe false enc)) → H p = none → Q (.ref p) (upd H p (.lst ys))
theorem cr_sortTD {β : Type} {enc : β → D} {bs : List β} (hu : X.A.units + 64 < cLine) : CallR X (.builtin "sorted") (rSortTD X.K 0 enc bs) := by
  intro pins s σ H vs us Q I r h
  obtain ⟨a, xs, Z, rfl, ht, hd, hz, hal, hk, hdep, q⟩ := h
  obtain ⟨its, rv, tl, hlen⟩ := I.tuple ht
  rw [Vals.ref1 r]
  obtain ⟨as, ra⟩ := Dp.readsAll I _ _ its hd rv
  have hbl : bs.length = xs.length := (Paired.length hz).symm
  refine PySem.W.sorted_dataT (show s.heap.IsTuple a its.toArray from tl) (each_of rv hz) (PySem.W.readsAll_each enc ra) hal hk (by rw [hbl]; exact hlen) (fun b hb => ?_) fun out h1 h2 => ?_
  · have := hdep b hb
    omega
  · obtain ⟨ys, k1, k2⟩ := of_each h2
    obtain ⟨ep, he'⟩ := PyProof.Rows.sortedAll_at s.heap its out.toArray
    have hl2 : ys.length ≤ sizeLine := by
      rw [k1.length, h1, hbl]
      exact hlen
    exact ⟨.ref _, upd H (s.heap.objs.size + 1) (.lst ys), I.laid (t' := s.toks) (fun _ _ => PyProof.Rows.sortedAll_old) (Nat.le_succ _) ⟨hl2, out, ep, k1, he'⟩, rfl, q ys _ k2 (I.hok.fresh (Nat.le_succ _))⟩
theorem pairedDq {β : Type} {F : Hp} {enc : β → D} : ∀ {vs : List V} {bs : List β}, DqAll F vs (bs.map enc) → Paired (fun v b => Dq F v (enc b)) vs bs
  | _, [], .nil => .nil
  | _, b :: bs, .cons h t => .cons h (pairedDq t)
theorem dqPaired {β : Type} {F : Hp} {enc : β → D} : ∀ {vs : List V} {bs : List β}, Paired (fun v b => Dq F v (enc b)) vs bs → DqAll F vs (bs.map enc)
  | _, [], .nil => .nil
  | _, b :: bs, .cons h t => .cons h (dqPaired t)
/-- sorted(x), x a tuple -/
theorem en_sortedT {β : Type} (enc : β → D) (bs : List β) {Qn : List D → Ev → Prop} (hr : Room k X.A) (hm : X.mg "sorted" = none)
    (h : EV X a ρ fun y ρ1 => y = .d (.tuple (bs.map enc)) ∧ PySem.W.AllAlike (bs.map enc) ∧ PySem.W.Sortable (bs.map enc) ∧ (∀ b ∈ bs, (enc b).depth ≤ 20) ∧ Qn ((bs.mergeSort (PySem.W.dataLe false enc)).map enc) ρ1) (hg : Gl X "sorted" := by rfl)
    (he : starEach [a] X.env = (false, eval a X.env) :: starEach [] X.env := by rfl) (hpl : (backTo pos (starEach [] X.env)).any (·.1) = false := by rfl) : EN X (.Call (.Name "sorted" p) [a] [] pos) ρ Qn :=
  en_callB (cr_sortTD (enc := enc) (bs := bs) hr.units) hm (ea_cons (h.mono fun y ρ1 ⟨ey, h1, h2, h3, q⟩ => ea_nil (by
    subst ey
    intro F H vs Φ s r k
    obtain ⟨v, rfl, r1⟩ := reps1 r
    obtain ⟨a1, ws, rfl, s1, d1⟩ := rep_tup r1
    exact ⟨a1, ws, fun v b => Dq F v (enc b), rfl, sqT_same s s1, (dpAll_same s d1).dp, pairedDq d1, h1, h2, h3, fun ys p hy hp => k p ys _ hp (dqPaired hy) q⟩)) he) (by decide +kernel) hg (by decide) (by decide) he hpl
end
end DL
end PartDL10
section PartDT1
set_option maxRecDepth 100000
set_option maxHeartbeats 2000000
/-! DT1: sets of texts: HandS/Set's road for ints, turned to texts. -/
namespace SetTx
open PySem PySem.Spec PyProof.Rows L2
def keyOf (e : Int × Value) : Str := match e.2 with | .str k _ => k | _ => Str.empty
def GoodE (w : World) (e : Int × Value) : Prop := ∃ k tk, e.2 = Value.str k tk ∧ e.1 = hashStr w k

/-- the set of ints at a: S its members, n their number; its table rises and can be walked -/
def SetX (w : World) (h : Heap) (a : Addr) (S : Str → Bool) (n : Nat) : Prop :=
  ∃ o es ep t, h.get? a = some o ∧ o.ExactSet ∧ o.data = .set es ep t ∧ (∀ e ∈ es.toList, GoodE w e) ∧ (es.toList.map keyOf).Nodup ∧ (∀ k, S k = true ↔ k ∈ es.toList.map keyOf) ∧
    es.size < scanBound ∧ t.fits es.size = true ∧ es.size = n ∧ Ris t.place.toList ∧ (w.params.followText "set-order" = true ∨ t.led = true)

section
variable {P : Program} {w : World} {h h' : Heap} {a : Addr} {S : Str → Bool} {n : Nat}

theorem SetX.at (R : SetX w h a S n) (k : ∀ o, h.get? a = some o → h'.get? a = some o) : SetX w h' a S n := by
  obtain ⟨o, es, ep, t, ho, r⟩ := R
  exact ⟨o, es, ep, t, k o ho, r⟩
theorem SetX.lt (R : SetX w h a S n) : a < h.objs.size := by
  obtain ⟨o, es, ep, t, ho, r⟩ := R
  exact Heap.lt_size ho
theorem SetX.congr {S' : Str → Bool} (R : SetX w h a S n) (e : ∀ k, S' k = S k) : SetX w h a S' n := by
  have q : S' = S := funext e
  rw [q]; exact R
theorem good_elems {l : List (Int × Value)} (g : ∀ e ∈ l, GoodE w e) : ElemsOf (PySem.strKind P w) l := fun e he => by
  obtain ⟨k, tk, h1, h2⟩ := g e he
  exact ⟨⟨k, by rw [h1]; exact strKind_is P w k tk, h2⟩, by rw [h1] <;> rfl⟩
theorem good_is {e : Int × Value} (g : GoodE w e) (k : Str) : (PySem.strKind P w).is k e.2 = true ↔ keyOf e = k := by
  obtain ⟨k0, tk, h1, _⟩ := g
  unfold keyOf
  rw [h1]
  show ((k0 == k) = true) ↔ k0 = k
  exact beq_iff_eq
theorem good_mem {l : List (Int × Value)} (g : ∀ e ∈ l, GoodE w e) (k : Str) : k ∈ l.map keyOf ↔ ∃ e ∈ l, (PySem.strKind P w).is k e.2 = true := by
  rw [List.mem_map]
  constructor
  · rintro ⟨e, he, q⟩
    exact ⟨e, he, (good_is (g e he) k).2 q⟩
  · rintro ⟨e, he, q⟩
    exact ⟨e, he, (good_is (g e he) k).1 q⟩
theorem SetX.setOf (R : SetX w h a S n) : h.SetOf (PySem.strKind P w) a S n := by
  obtain ⟨o, es, ep, t, ho, hx, hd, g, nd, hm, hb, hf, hn, _⟩ := R
  exact ⟨o, es, ep, t, ho, hx, hd, good_elems g, fun k => (hm k).trans (good_mem g k), hb, hf, hn⟩
end

section
variable {P : Program} {w : World} {A : Around} {E : Value → Shared → Prop} {s : Shared} {a : Addr} {S : Str → Bool} {n : Nat}

/-! ### add -/
theorem store_at {h : Heap} {a : Addr} {o : Obj} {es es' : Array (Int × Value)} {ep : Nat} {t t' : SetTable} (ho : h.get? a = some o) (hd : o.data = .set es ep t) :
    (h.update a (Obj.putSet es' t')).get? a = some { o with data := .set es' (ep + 1) t' } := by
  have q := Heap.get?_update_self (Obj.putSet es' t') ho (by rw [putSet_of es' t' hd]; rfl)
  rw [putSet_of es' t' hd] at q
  exact q

theorem setX_add_tail {g : Bool → Sem Unit} (hg : ∀ (b : Bool) (s₁ : Shared) (Q' : Unit → Shared → Prop), Q' () s₁ → wpAny (model P w) A (g b) Q' E s₁)
    {o : Obj} {es : Array (Int × Value)} {ep : Nat} {t : SetTable} (ho : s.heap.get? a = some o) (hex : o.ExactSet) (hd : o.data = .set es ep t)
    {es1 : Array (Int × Value)} {t2 : SetTable} {S' : Str → Bool} (g1 : ∀ e ∈ es1.toList, GoodE w e) (nd1 : (es1.toList.map keyOf).Nodup) (m1 : ∀ k, S' k = true ↔ k ∈ es1.toList.map keyOf)
    (hb1 : es1.size < scanBound) (hf2 : t2.fits es1.size = true) (hr : Ris t2.place.toList) (hl : w.params.followText "set-order" = true ∨ t2.led = true) {wasDummy : Bool} {R : Option Bool → Shared → Prop}
    (hR : ∀ h', Heap.SameBut a s.heap h' → SetX w h' a S' es1.size → R (some true) { s with heap := h' }) :
    wpAny (model P w) A (do
        storeSet a es1 t2
        if (!wasDummy && t2.tooFull) = true then do
            g (relayAll t2 es1 (SetTable.grown es1.size)).2.2
            storeSet a (relayAll t2 es1 (SetTable.grown es1.size)).1 (relayAll t2 es1 (SetTable.grown es1.size)).2.1
            pure (some true)
          else pure (some true)) R E s := by
  refine wpAny_bind (wpAny_storeSet_of ho hd ?_ (fits_of_scanBound hb1))
  have ho1 := store_at (es' := es1) (t' := t2) ho hd
  have sb1 := Heap.SameBut.update s.heap a (Obj.putSet es1 t2)
  split
  · have pm := relayAll_perm t2 es1 (SetTable.grown es1.size)
    have hf3 := relayAll_fits t2 es1 (SetTable.grown es1.size)
    have hr3 := relayAll_ris t2 es1 (SetTable.grown es1.size)
    have hl3 := relayAll_led t2 es1 (SetTable.grown es1.size)
    generalize relayAll t2 es1 (SetTable.grown es1.size) = Z at pm hf3 hr3 hl3 ⊢
    obtain ⟨es2, t3, gave⟩ := Z
    dsimp only at pm hf3 hr3 hl3 ⊢
    have hsz : es2.size = es1.size := by rw [← Array.length_toList, pm.length_eq, Array.length_toList]
    have hb2 : es2.size < scanBound := by rw [hsz]; exact hb1
    refine wpAny_bind (hg _ _ _ ?_)
    refine wpAny_bind (wpAny_storeSet_of ho1 rfl ?_ (fits_of_scanBound hb2))
    have ho2 := store_at (es' := es2) (t' := t3) ho1 rfl
    refine wpAny_pure (hR _ (sb1.trans (Heap.SameBut.update _ a _)) ?_)
    exact ⟨_, es2, _, t3, ho2, hex, rfl, fun e he => g1 e (pm.mem_iff.mp he), (pm.map keyOf).nodup_iff.mpr nd1, fun k => (m1 k).trans (pm.map keyOf).mem_iff.symm, hb2, hf3, hsz, hr3,
      hl.imp id fun z => by rw [hl3]; exact z⟩
  · exact wpAny_pure (hR _ sb1 ⟨_, es1, _, t2, ho1, hex, rfl, g1, nd1, m1, hb1, hf2, rfl, hr, hl⟩)

theorem setX_add_hashed {k : Str} {tk : Tok} {Q : Bool → Shared → Prop} (R : SetX w s.heap a S n) (room : n + 1 < scanBound)
    (hQ : ∀ h', Heap.SameBut a s.heap h' → SetX w h' a (fun j => S j || decide (j = k)) (if S k = true then n else n + 1) → Q (!S k) { s with heap := h' }) :
    wpAny (model P w) A (setAddHashed a (.str k tk) ((PySem.strKind P w).hash k)) Q E s := by
  obtain ⟨o, es, ep, t, ho, hex, hd, g, nd, hm, hb, hf, hn, hr, hl⟩ := R
  have hkey : (PySem.strKind P w).is k (.str k tk) = true := strKind_is P w k tk
  have hsc : (Value.str k tk).scannable = true := rfl
  have hel : ElemsOf (PySem.strKind P w) es.toList := good_elems g
  unfold setAddHashed setAddHashedIn
  refine wpAny_holding (wpAny_bind (wpAny_setState_of ho hd hf ?_))
  dsimp only
  rw [byScan_of hsc hb hel]
  simp only [↓reduceIte]
  unfold setAddByScan
  refine wpAny_bind ?_
  refine wpAny_bind (wpAny_rule ?_)
  refine wpAny_bind (wpAny_setScan_of hkey ho hd hf hel ?_)
  cases hfi : List.findIdx? (fun e => (PySem.strKind P w).is k e.2) es.toList with
  | some j =>
    dsimp only
    obtain ⟨hj, pj, _⟩ := List.findIdx?_eq_some_iff_getElem.mp hfi
    have hSk : S k = true := (hm k).2 ((good_mem (P := P) (w := w) g k).2 ⟨es.toList[j], List.getElem_mem hj, pj⟩)
    refine wpAny_pure (wpAny_pure ?_)
    have q := hQ s.heap (Heap.SameBut.refl a s.heap) ⟨o, es, ep, t, ho, hex, hd, g, nd, fun i => by
      rw [Bool.or_eq_true, decide_eq_true_eq, ← hm i]
      exact ⟨fun z => z.elim id (fun e => e ▸ hSk), .inl⟩, hb, hf, by rw [if_pos hSk]; exact hn, hr, hl⟩
    rw [hSk] at q
    exact q
  | none =>
    dsimp only
    have hnk : k ∉ es.toList.map keyOf := fun z => by
      obtain ⟨e, he, q⟩ := (good_mem (P := P) (w := w) g k).1 z
      have c := List.findIdx?_eq_none_iff.mp hfi e he
      rw [q] at c
      cases c
    have hSk : S k = false := by
      cases q : S k with
      | false => rfl
      | true => exact absurd ((hm k).1 q) hnk
    have hgw : ∀ (b : Bool) {s₁ : Shared} {Q' : Unit → Shared → Prop}, Q' () s₁ → wpAny (model P w) A (match b with | true => rule "set.scan.the-table-gave-way" | false => pure ()) Q' E s₁ :=
      fun b s₁ Q' q => by cases b <;> first | exact wpAny_pure q | exact wpAny_rule q
    have pm := layNew_perm t es ((PySem.strKind P w).hash k) (.str k tk)
    have hf1 := layNew_fits t es ((PySem.strKind P w).hash k) (.str k tk)
    have hr1 := layNew_ris t es ((PySem.strKind P w).hash k) (.str k tk) hr
    have hl1 := layNew_led t es ((PySem.strKind P w).hash k) (.str k tk)
    generalize layNew t es ((PySem.strKind P w).hash k) (.str k tk) = Z at pm hf1 hr1 hl1 ⊢
    obtain ⟨es1, t1, wasDummy, gave⟩ := Z
    dsimp only at pm hf1 hr1 hl1 ⊢
    rw [Array.toList_push] at pm
    have pc : es1.toList.Perm (((PySem.strKind P w).hash k, Value.str k tk) :: es.toList) := pm.trans (List.perm_append_singleton _ _)
    have pk : (es1.toList.map keyOf).Perm (k :: es.toList.map keyOf) := pc.map keyOf
    have g1 : ∀ e ∈ es1.toList, GoodE w e := fun e he => by
      rcases List.mem_cons.mp (pc.mem_iff.mp he) with z | z
      · rw [z]; exact ⟨k, tk, rfl, rfl⟩
      · exact g e z
    have nd1 : (es1.toList.map keyOf).Nodup := pk.nodup_iff.mpr (List.nodup_cons.mpr ⟨hnk, nd⟩)
    have m1 : ∀ i, (S i || decide (i = k)) = true ↔ i ∈ es1.toList.map keyOf := fun i => by
      rw [Bool.or_eq_true, decide_eq_true_eq, hm i, pk.mem_iff, List.mem_cons]
      exact Or.comm
    have hsz : es1.size = n + 1 := by rw [← Array.length_toList, pc.length_eq, List.length_cons, Array.length_toList, hn]
    have hb1 : es1.size < scanBound := by rw [hsz]; exact room
    have hled : w.params.followText "set-order" = true ∨ t1.led = true := hl.imp id fun z => by rw [hl1]; exact z
    have fin : ∀ h', Heap.SameBut a s.heap h' → SetX w h' a (fun j => S j || decide (j = k)) es1.size → Q true { s with heap := h' } := fun h' sb r => by
      have q := hQ h' sb
      rw [hSk] at q
      rw [hsz] at r
      exact q r
    refine wpAny_bind (hgw _ ?_)
    split
    · refine wpAny_bind ?_
      rw [hashByValue_scannable 8 hsc]
      refine wpAny_pure ?_
      refine setX_add_tail ?_ ho hex hd g1 nd1 m1 hb1 ?_ ?_ ?_ ?_
      · intro b s₁ Q' q; cases b <;> first | exact wpAny_pure q | exact wpAny_rule q
      · first | (split <;> first | exact hf1 | exact SetTable.fits_plain_off hf1) | exact hf1
      · first | (split <;> exact hr1) | exact hr1
      · first | (split <;> exact hled) | exact hled
      · intro h' sb r; dsimp only; exact wpAny_pure (fin h' sb r)
    · refine wpAny_bind (wpAny_pure ?_)
      simp only [↓reduceIte]
      refine setX_add_tail ?_ ho hex hd g1 nd1 m1 hb1 hf1 hr1 hled ?_
      · intro b s₁ Q' q; cases b <;> first | exact wpAny_pure q | exact wpAny_rule q
      · intro h' sb r; dsimp only; exact wpAny_pure (fin h' sb r)
end
/-! ### set(xs) -/
theorem setX_new_at {w : World} {h : Heap} {a : Addr} {ns : List Str} (ho : h.get? a = some { cls := .type "set", dict := none, data := .set #[] 0 (.fresh 0 0 (!w.params.followText "set-order")) }) : SetX w h a (fun j => decide (j ∈ ns.take 0)) 0 :=
  ⟨_, #[], 0, _, ho, ⟨rfl, rfl, rfl⟩, rfl, (fun e he => by simp at he), (by simp), (fun k => by simp), (by decide), (by rfl), rfl, List.Pairwise.nil, by
    show _ ∨ (!w.params.followText "set-order") = true
    cases w.params.followText "set-order"
    · exact .inr rfl
    · exact .inl rfl⟩
section
variable {P : Program} {w : World} {A : Around} {E : Value → Shared → Prop} {s : Shared}
theorem set_update_strs {I : Addr} {fp wr : List Addr} {G : Array GenState → Array GenState → Prop} {n : Nat} {Pv : Nat → Value → Prop} {St : Nat → Shared → Prop} {R : Result → Shared → Prop}
    (W : WalksS P w A.in1 I fp wr G n Pv St) (S : Addr) (hSf : S ∉ fp) (ns : List Str) (hn : n = ns.length) (hb : ns.length + 1 < scanBound) (hval : ∀ i v, Pv i v → ∃ k t, ns[i]? = some k ∧ v = .str k t) :
    ∀ (k i : Nat) (s : Shared), n - i = k → i ≤ n → St i s → (∃ c, c ≤ i ∧ SetX w s.heap S (fun j => decide (j ∈ ns.take i)) c) →
      (∀ s' c, Moved (S :: wr) G s s' → c ≤ n → SetX w s'.heap S (fun j => decide (j ∈ ns)) c → R (.ok (.ret .none)) s') →
      codeAny (model P w) A (.builtin "set.update.loop" ⟨[.ref S, .ref I], []⟩) R s := by
  have hSw : S ∉ wr := fun h => hSf (W.sub _ h)
  have hsub : ∀ b ∈ wr, b ∈ S :: wr := fun b hb => List.mem_cons_of_mem _ hb
  intro k
  induction k with
  | zero =>
    intro i s hk' hi hst ⟨c, hc, hS⟩ hR
    have hin : i = n := by omega
    subst hin
    refine codeAny_builtin F.entry_set_update_loop ?_
    rw [Around.under_plainId F.plain_set_update_loop _]
    show wpAny _ A.in1 (pyNext (.ref I) >>= _) _ _ s
    refine wpAny_bind (W.done s _ _ hst fun s' hm => ?_)
    show wpAny _ A.in1 (ret Value.none) _ _ s'
    have e : ns.take i = ns := List.take_of_length_le (by omega)
    rw [e] at hS
    exact wpAny_pure (hR s' c (hm.mono hsub) hc (hS.at fun o e => hm.heap S o hSw e))
  | succ k ih =>
    intro i s hk' hi hst ⟨c, hc, hS⟩ hR
    have hlt : i < n := by omega
    refine codeAny_builtin F.entry_set_update_loop ?_
    rw [Around.under_plainId F.plain_set_update_loop _]
    show wpAny _ A.in1 (pyNext (.ref I) >>= _) _ _ s
    refine wpAny_bind (W.item i s _ _ hlt hst fun v s' hP hst' hm => ?_)
    obtain ⟨z, t, hz, rfl⟩ := hval i v hP
    have hS' : SetX w s'.heap S (fun j => decide (j ∈ ns.take i)) c := hS.at fun o e => hm.heap S o hSw e
    show wpAny _ A.in1 (holding [Value.str z t] (setAdd S (.str z t)) >>= _) _ _ s'
    refine wpAny_bind (wpAny_holding ?_)
    unfold setAdd
    refine wpAny_holding ?_
    refine wpAny_bind ((PySem.strKind P w).pyHash (k := z) (strKind_is _ _ _ _) ?_)
    refine setX_add_hashed (s := { s' with toks := s'.toks + 1 }) hS' (by omega) fun h' hsb hS2 => ?_
    have hS3 : SetX w h' S (fun j => decide (j ∈ ns.take (i + 1))) (if decide (z ∈ ns.take i) = true then c else c + 1) := hS2.congr fun j => by
      rw [List.take_add_one, hz]
      simp [List.mem_append]
    have hc3 : (if decide (z ∈ ns.take i) = true then c else c + 1) ≤ i + 1 := by
      split <;> omega
    refine wpAny_pure ⟨plainId_quiet F.plain_set_update_loop _, ih (i + 1) _ (by omega) hlt (W.frame _ s' _ _ hst' (Nat.le_succ _) fun b hb o e => ?_) ⟨_, hc3, hS3⟩ fun s'' c2 hm'' hc'' hS'' => ?_⟩
    · rw [hsb.2 b (fun h : b = S => hSf (by rw [← h]; exact hb))]; exact e
    · refine hR s'' c2 (Moved.trans W.gtrans ((hm.mono hsub).then_heap (Nat.le_succ _) fun b o hb e => ?_) hm'') hc'' hS''
      rw [hsb.2 b (fun h : b = S => hb (by rw [h]; exact List.mem_cons_self))]; exact e

set_option maxRecDepth 100000 in
set_option maxHeartbeats 3200000 in
theorem call_set_lstS {l : Addr} {items : Array Value} (ns : List Str) {Q : Value → Shared → Prop} (hh : A.handled = none) (hl : s.heap.IsList l items) (hit : StrsAre items.toList ns) (hb : ns.length + 1 < scanBound)
    (h : ∀ (h' : Heap) (tk c : Nat), SetX w h' s.heap.objs.size (fun j => decide (j ∈ ns)) c → c ≤ ns.length → (∀ b o, s.heap.get? b = some o → h'.get? b = some o) → Q (.ref s.heap.objs.size) { s with heap := h', toks := tk }) :
    wpAny (model P w) A (call (.type "set") [.ref l]) Q E s := by
  have hisz : items.size = ns.length := by
    have q := StrsAre.len_eq hit
    rw [Array.length_toList] at q
    exact q
  obtain ⟨c, tl, hmro⟩ := F.called_set.mro
  have hmade := F.called_set.made
  have hsub := F.called_set.sub
  refine wpAny_call (codeAny_of_tree ?_)
  show wpAny _ _ (callAny (.type "set") _) _ _ _
  refine wpAny_pure ⟨Code.quiet_builtin _ (by decide +kernel), codeAny_builtin F.entry_type_call ?_⟩
  rw [Around.under_plain (weight_type_call_type "set" [.ref l] []) rfl]
  have h1 := F.called_set.notType
  have h2 := F.called_set.canCreate
  have hct := F.typeCall_set_1 (.ref l)
  repeat (any_goals (first | assumption | wp_step))

  refine codeAny_mono (code_set_led1 (.ref l) (E := E) (Q₁ := fun obj s₁ => obj = .ref s.heap.objs.size ∧ s₁ = { s with heap := s.heap.push { cls := .type "set", dict := none, data := .set #[] 0 (.fresh 0 0 (!w.params.followText "set-order")) } }) ⟨rfl, rfl⟩) fun r s₁ hr => ?_
  cases r with
  | error e => exact hr
  | ok fl =>
    cases fl with
    | ret obj =>
      obtain ⟨rfl, rfl⟩ := hr
      have hS : (s.heap.push { cls := .type "set", dict := none, data := .set #[] 0 (.fresh 0 0 (!w.params.followText "set-order")) }).get? s.heap.objs.size = some { cls := .type "set", dict := none, data := .set #[] 0 (.fresh 0 0 (!w.params.followText "set-order")) } := Heap.get?_push_size _ rfl
      have hT : Shared.TypeIs { s with heap := s.heap.push { cls := .type "set", dict := none, data := .set #[] 0 (.fresh 0 0 (!w.params.followText "set-order")) } } (.ref s.heap.objs.size) "set" := ⟨_, hS, rfl⟩
      have hli := F.called_set.init.lookup
      have hbi := F.called_set.init.bind (.ref s.heap.objs.size)
      repeat (any_goals (first | assumption | wp_step))

      refine codeAny_mono (codeAny_call_builtin (R := wants (fun r s₂ => r = .none ∧ ∃ h' tk c, s₂ = { s with heap := h', toks := tk } ∧ SetX w h' s.heap.objs.size (fun j => decide (j ∈ ns)) c ∧ c ≤ ns.length ∧
          (∀ b o, s.heap.get? b = some o → h'.get? b = some o)) E) F.called_set.init.plain F.entry_set_init (check_set_init_1 hT ?_)) fun r₂ s₂ hr₂ => ?_
      · obtain ⟨ol, hol, hcl, nl, hdl⟩ := hl
        obtain ⟨ocls, odict, odata, oslots⟩ := ol
        simp only at hcl hdl
        subst hcl; subst hdl
        have hol' : (s.heap.push { cls := .type "set", dict := none, data := .set #[] 0 (.fresh 0 0 (!w.params.followText "set-order")) }).get? l = some { cls := .type "list", dict := odict, data := .seq items nl, slots := oslots } := Heap.get?_push_of_some _ hol
        have hsls := F.sub_list_set
        have hslf := F.sub_list_frozenset
        have hne : (Value.type "list" == Value.type "dict") = false := by decide
        have hl1 : (s.heap.push { cls := .type "set", dict := none, data := .set #[] 0 (.fresh 0 0 (!w.params.followText "set-order")) }).IsList l items := ⟨_, hol', rfl, nl, rfl⟩
        unfold Builtin.«set.__init__» noKeywords Builtin.Frozenset.updateFrom
        generalize hPI : pyIter = PI
        wp_walk
        subst hPI

        refine wpAny_pyIter_list hl1 ?_
        refine wpAny_bind (wpAny_runValue ?_)
        have hlS : l < s.heap.objs.size := Heap.lt_size hol
        have hh3 : A.in1.in1.in1.handled = none := by simp [hh]
        have hz1 : (s.heap.push { cls := .type "set", dict := none, data := .set #[] 0 (.fresh 0 0 (!w.params.followText "set-order")) }).objs.size = s.heap.objs.size + 1 := Heap.size_push ..
        have hneI : l ≠ (s.heap.push { cls := .type "set", dict := none, data := .set #[] 0 (.fresh 0 0 (!w.params.followText "set-order")) }).objs.size := by
          rw [Heap.size_push]; exact Nat.ne_of_lt (Nat.lt_succ_of_lt hlS)
        have hSf : s.heap.objs.size ∉ [(s.heap.push { cls := .type "set", dict := none, data := .set #[] 0 (.fresh 0 0 (!w.params.followText "set-order")) }).objs.size, l] := by
          rw [Heap.size_push]; simp only [List.mem_cons, List.mem_singleton, List.not_mem_nil, or_false, not_or]
          exact ⟨Nat.ne_of_lt (Nat.lt_succ_self _), Nat.ne_of_gt hlS⟩
        have hval : ∀ (i : Nat) (v : Value), items[i]? = some v → ∃ k t, ns[i]? = some k ∧ v = .str k t := fun i v hv => by
          have hi : i < ns.length := by rw [← hisz]; exact (Array.getElem?_eq_some_iff.mp hv).1
          obtain ⟨t, e⟩ := SS.strs_at hit i v (by rw [Array.getElem?_toList]; exact hv)
          refine ⟨ns[i], t, List.getElem?_eq_getElem hi, ?_⟩
          rw [e, List.getD_eq_getElem?_getD, List.getElem?_eq_getElem hi] <;> rfl
        refine set_update_strs ((Walks.list hh3 _ l hneI items).toS) s.heap.objs.size
          hSf ns hisz hb hval (items.size - 0) 0 _ (by omega) (Nat.zero_le _)
          ⟨⟨_, Heap.get?_push_size _ rfl, rfl, rfl⟩, (hl1.push _)⟩ ?hS0 ?hR
        case hS0 =>
          have hget : ((s.heap.push { cls := .type "set", dict := none, data := .set #[] 0 (.fresh 0 0 (!w.params.followText "set-order")) }).push { cls := .type "list_iterator", data := .fields #[.ref l, .int 0 0] }).get? s.heap.objs.size
              = some { cls := .type "set", dict := none, data := .set #[] 0 (.fresh 0 0 (!w.params.followText "set-order")) } := Heap.get?_push_of_some _ hS
          exact ⟨0, Nat.le_refl 0, setX_new_at hget⟩
        case hR =>
          intro s' c' hm hc' hS'
          obtain ⟨h', g2, d', tk', os'⟩ := s'
          have eg : g2 = s.gens := hm.gens
          have ed : d' = s.drawn := hm.drawn
          have eo : os' = s.os := hm.os
          subst eg; subst ed; subst eo
          show wpAny _ _ _ _ _ _
          refine wpAny_pure ?_
          show wpAny _ _ (ret Value.none) _ _ _
          rw [hisz] at hc'
          refine wpAny_pure ⟨rfl, h', tk', c', rfl, hS', hc', fun b o e => ?_⟩
          have hb0 : b < s.heap.objs.size := Heap.lt_size e
          have hb1 : b ≠ s.heap.objs.size := Nat.ne_of_lt hb0
          have hb2 : b ≠ (s.heap.push { cls := .type "set", dict := none, data := .set #[] 0 (.fresh 0 0 (!w.params.followText "set-order")) }).objs.size := by
            rw [Heap.size_push]; exact Nat.ne_of_lt (Nat.lt_succ_of_lt hb0)
          exact hm.heap b o (by simp only [List.mem_cons, List.mem_singleton, List.not_mem_nil, or_false, not_or]; exact ⟨hb1, hb2⟩) (Heap.get?_push_of_some _ (Heap.get?_push_of_some _ e))

      · cases r₂ with
        | error e => exact hr₂
        | ok fl₂ =>
          cases fl₂ with
          | ret r =>
            obtain ⟨rfl, h', tk, c', rfl, hS', hc', hk'⟩ := hr₂
            repeat (any_goals (first | assumption | wp_step))
            exact h _ _ _ hS' hc' hk'
          | _ => exact hr₂.elim
    | _ => exact hr.elim

end

/-! ### sorted(set(xs)) -/
theorem strs_of : ∀ (l : List Value), (∀ v ∈ l, ∃ k tk, v = Value.str k tk) → StrsAre l (l.map fun v => match v with | .str k _ => k | _ => Str.empty)
  | [], _ => .nil
  | v :: l, h => by
    obtain ⟨k, tk, rfl⟩ := h v List.mem_cons_self
    exact .cons k tk (strs_of l fun u hu => h u (List.mem_cons_of_mem _ hu))
section
variable {P : Program} {w : World} {A : Around} {E : Value → Shared → Prop} {s : Shared} {a : Addr}
theorem sorted_setX {S : Str → Bool} {n : Nat} {Q : Value → Shared → Prop} (R : SetX w s.heap a S n) (hh : A.handled = none) (h64 : n < 64)
    (hQ : ∀ s' p (out : Array Value) (c : Nat) (ns : List Str), (∀ b o, s.heap.get? b = some o → s'.heap.get? b = some o) → s'.gens = s.gens → s'.os = s.os → s.heap.objs.size ≤ p →
      s'.heap.get? p = some (seqObj "list" out c) → StrsAre out.toList ns → (∀ k, k ∈ ns ↔ S k = true) → ns.length = n → Q (.ref p) s') :
    wpAny (model P w) A (call (.builtin "sorted") [.ref a]) Q E s := by
  obtain ⟨o, es, ep, t, ho, hex, hd, g, nd, hm, hb, hf, hn, hr, hl⟩ := R
  refine Calls.call_function_entry kind_sorted plain_sorted entry_sorted (args_sorted1 _) ?_
  unfold Builtin.«sorted»
  refine wpAny_bind (m := checkCount "sorted" 1 1 _) (wpAny_pure ?_)
  refine wpAny_bind (collect_set (A := A.in1) hh ⟨o, ho, hex.1, hd⟩ hf hb hr hl fun s1 vs k1 hz g1 o1 pm => ?_)
  have hvl : vs.length = n := by rw [pm.length_eq, List.length_map, Array.length_toList]; exact hn
  have hI := strs_of vs fun v hv => by
    obtain ⟨e, he, q⟩ := List.mem_map.mp (pm.mem_iff.mp hv)
    obtain ⟨k, tk, h1, _⟩ := g e he
    exact ⟨k, tk, by rw [← q]; exact h1⟩
  have pk : (vs.map fun v => match v with | .str k _ => k | _ => Str.empty).Perm (es.toList.map keyOf) := by
    have q := pm.map fun v => match v with | Value.str k _ => k | _ => Str.empty
    rw [List.map_map] at q
    exact q
  refine wpAny_bind (wpAny_newList ?_ (by rw [hvl, sizeLine_eq]; omega))
  have hoL : (s1.heap.push (seqObj "list" vs.toArray 0)).get? s1.heap.objs.size = some (seqObj "list" vs.toArray 0) := Heap.get?_push_size _ rfl
  refine wpAny_bind (wpAny_holding (wpAny_call_entry slot_list_sort ⟨_, hoL, rfl⟩ entry_list_sort (list_sort_treeK strKind_oneLt hoL hI.keysOf (fun v₁ v₂ rest e => keyKind_strs (by rw [← e]; exact hI)) (by rw [hvl]; exact h64) fun st' a1 a2 => ⟨_, rfl, ?_⟩) (args_list_sort _)))
  obtain ⟨ss, b1, b2, b3⟩ := sorted_out_str hI a1 a2
  obtain ⟨c, hc⟩ := sortedHeap_at (vs := vs) (out := (arrOf st').map (·.2)) hoL
  have pn : ss.Perm (es.toList.map keyOf) := b2.trans pk
  refine wpAny_pure ⟨_, rfl, hQ _ s1.heap.objs.size _ c ss (fun b u e => ?_) g1 o1 hz hc b1 (fun k => by rw [pn.mem_iff, ← hm k]) ?_⟩
  · have q := k1 b u e
    have hlt := Heap.lt_size q
    show (sortedHeap (s1.heap.push (seqObj "list" vs.toArray 0)) s1.heap.objs.size vs _).get? b = some u
    rw [sortedHeap_old (Nat.ne_of_lt hlt) (by rw [size_push']; exact Nat.lt_succ_of_lt hlt)]
    exact Heap.get?_push_of_some _ q
  · rw [pn.length_eq, List.length_map, Array.length_toList]; exact hn
end
end SetTx
end PartDT1
section PartDT2
set_option maxRecDepth 100000
set_option maxHeartbeats 2000000
/-! DT2: sorted(set(xs)), xs a list of texts. -/
namespace DL
open PySem PySem.Spec PyProof.Rows L2 SetTx
def SetXO (w : World) (a : Addr) (S : Str → Bool) (n : Nat) : HO := .ext fun h => SetX w h a S n
section
variable {X : Cx} {ρ : Ev} {pos p p2 pos2 : Pos} {a b e : Expr} {K : PySem.W.Frag} {k : Nat}
theorem setXO_new {w : World} {P : Program} {H : Hp} {h : Heap} {a : Addr} {S : Str → Bool} {n : Nat} (R : SetX w h a S n) : ObjOk P w H h a (SetXO w a S n) := by
  have ⟨o, _, _, _, ho, _⟩ := R
  exact ⟨R, ⟨o, ho⟩, fun h1 h2 p k => SetX.at p k⟩
def rSetX (w : World) (K : PySem.W.Frag) (ns : List Str) : List V → Hp → VK → Prop := fun xs H Q => ∃ l : Addr, xs = [V.ref l] ∧ SqL K H l (ns.map V.str) ∧ ns.length < 60 ∧ ∀ a c, H a = none → c ≤ ns.length → Q (.ref a) (upd H a (SetXO w a (fun j => decide (j ∈ ns)) c))
theorem cr_setX (hc : X.calm = true) {ns : List Str} : CallR X (.type "set") (rSetX X.w X.K ns) := by
  intro pins s σ H xs us Q I r h
  obtain ⟨l, rfl, hl, hf, q⟩ := h
  rw [Vals.ref1 r]
  obtain ⟨its, rv, pl, hz⟩ := I.list hl
  have hn : H s.heap.objs.size = none := I.hok.fresh (Nat.le_refl _)
  refine call_set_lstS (P := X.prog) (w := X.w) ns (I.ok.hd hc) pl.isList (by simpa using rv.strs) (by unfold scanBound; omega) fun h' tk c R hcl k => ?_
  exact ⟨.ref s.heap.objs.size, upd H s.heap.objs.size (SetXO X.w s.heap.objs.size _ c), I.laid (t' := tk) k (Nat.le_refl _) (setXO_new R), rfl, q _ c hn hcl⟩
def rSortX (w : World) : List V → Hp → VK → Prop := fun vs H Q => ∃ (a : Addr) (S : Str → Bool) (n : Nat), vs = [V.ref a] ∧ H a = some (SetXO w a S n) ∧ n < 64 ∧ ∀ (ns : List Str) (p : Addr), (∀ k, k ∈ ns ↔ S k = true) → ns.length = n → H p = none → Q (.ref p) (upd H p (.lst (ns.map V.str)))
theorem cr_sortX (hc : X.calm = true) : CallR X (.builtin "sorted") (rSortX X.w) := by
  intro pins s σ H vs us Q I r h
  obtain ⟨a, S, n, rfl, ha, h64, q⟩ := h
  have R : SetX X.w s.heap a S n := (I.hok a _ ha).1
  rw [Vals.ref1 r]
  refine sorted_setX R (I.ok.hd hc) h64 fun s' p out c ns k g o hp hg hi hm hl => ?_
  have hlen : (ns.map V.str).length ≤ sizeLine := by rw [List.length_map, hl, sizeLine_eq]; omega
  have hn : H p = none := I.hok.fresh hp
  have J : Inv X pins σ (upd H p (.lst (ns.map V.str))) { s with heap := s'.heap, gens := s'.gens, drawn := s'.drawn, toks := s'.toks } :=
    I.call (ch := []) (Un.laid k hp hn) (I.hok.laid k hp ⟨hlen, out.toList, c, vals_of_strs hi, hg⟩) (by rw [g]; exact I.bare) (fun _ z => nomatch z)
  have e : s' = { s with heap := s'.heap, gens := s'.gens, drawn := s'.drawn, toks := s'.toks } := by
    cases s'
    cases s
    cases o
    rfl
  rw [e]
  exact ⟨.ref p, _, J, rfl, q ns p hm hl hn⟩
/-- sorted(set(e)) -/
theorem en_sortSet {Qn : List D → Ev → Prop} (hc : X.calm = true) (hm : X.mg "sorted" = none) (hm2 : X.mg "set" = none)
    (h : EV X e ρ fun y ρ1 => ∃ ns : List Str, y = .d (.list (ns.map .str)) ∧ ns.length < 60 ∧ ∀ ms : List Str, (∀ x, x ∈ ms ↔ x ∈ ns) → ms.length ≤ ns.length → Qn (ms.map .str) ρ1) (hg : Gl X "sorted" := by rfl) (hg2 : Gl X "set" := by rfl)
    (he : starEach [.Call (.Name "set" p2) [e] [] pos2] X.env = (false, eval (.Call (.Name "set" p2) [e] [] pos2) X.env) :: starEach [] X.env := by rfl) (hpl : (backTo pos (starEach [] X.env)).any (·.1) = false := by rfl)
    (he2 : starEach [e] X.env = (false, eval e X.env) :: starEach [] X.env := by rfl) (hpl2 : (backTo pos2 (starEach [] X.env)).any (·.1) = false := by rfl) : EN X (.Call (.Name "sorted" p) [.Call (.Name "set" p2) [e] [] pos2] [] pos) ρ Qn := fun Γ fp F σ H Φ t kk pins s I => by
  -- the list is known only behind its reading: the rule for it is taken there
  refine (pe_callB (cr_sortX hc) hg hm (by decide +kernel) (pa_cons (te := fun σ H Q => wE X e σ H fun v H1 => ∃ ns : List Str, rSetX X.w X.K ns [v] H1 Q) ?_ pa_nil he) (by decide) (by decide) he hpl).run pins s σ H Φ I ?_
  · refine ⟨fun pins s σ H Q I h => ?_⟩
    refine Call_ (ld_blt I hg2 hm2 (by decide +kernel) (PyProof.Rows.callWith_type1 (thn ((pa_cons pe_w pa_nil he2).run pos2 pins s σ H (fun vs H1 => ∃ ns, rSetX X.w X.K ns vs H1 Q) I h) fun us s1 ⟨vs, H1, I1, r1, ns, q1⟩ => cr_setX hc pins s1 σ H1 vs us Q I1 r1 q1) he2 hpl2) (by decide) (by decide))
  · refine h Γ fp F σ H _ t fun v F1 H1 y ρ1 fp1 t1 f1 r1 ⟨ns, ey, hl, q⟩ => ?_
    subst ey
    obtain ⟨a1, vs, rfl, s1, d1⟩ := rep_lst r1
    have e1 := d1.toStrs
    subst e1
    refine ⟨ns, a1, rfl, t1.ex.seq s1, hl, fun b c hb hcl => ?_⟩
    have g := Gr.new (o := SetXO X.w b (fun j => decide (j ∈ ns)) c) t1.ex hb
    have t2 := t1.grow g
    refine ⟨b, _, c, rfl, upd_same, by omega, fun ms p hms hml hp => ?_⟩
    obtain ⟨t3, n1, n2, n3⟩ := en_fin t2 hp (.lst (ms.map V.str))
    refine kk p (ms.map V.str) _ _ (ms.map .str) ρ1 fp1 t3 (f1.trans g.f) n1 upd_same DqAll.strs n2 n3 (q ms (fun x => ?_) (by omega))
    rw [hms x]
    exact decide_eq_true_iff
end
end DL
end PartDT2
section PartDL11
set_option maxRecDepth 100000
set_option maxHeartbeats 2000000
/-! DL11: comprehensions over what is known behind its reading. -/
namespace DL
open PySem PySem.Spec PyProof.Rows L2
section
variable {X : Cx} {ρ : Ev} {pos p : Pos} {a b e : Expr} {es : List Expr} {x : Str} {K : PySem.W.Frag}
/-- [g(x) for x in xs] -/
theorem en_mpE {Qn : List D → Ev → Prop} {elt tg iter : Expr} {scope : Scope} {ix : List Nat} {α : Type} (enc : α → D) (own : List (Str × Nat)) (hc : X.calm = true) (hN : X.N.Nodup)
    (h : IE X tg iter ρ fun items ρ1 => ∃ (xs : List α) (g : α → D), items = xs.map enc ∧ forget ρ1 (own.map (·.2)) = ρ1 ∧ xs.length ≤ 100000 ∧ (∀ x ∈ xs, ∀ B, GB (Bx X scope B) tg ix (enc x) ρ1 fun ρ2 => ∀ B, EV (Bx X scope B) elt ρ2 fun y ρ4 => ρ4 = ρ2 ∧ y = .d (g x)) ∧ Qn (xs.map g) ρ1)
    (ok : BlkOk X.N X.env.scope scope own := by exact blkOk_by (by kernel_rfl)) (hix : ∀ i ∈ ix, i ∈ own.map (·.2) := by decide) (hs : ∀ x, foldedSetIterable iter X.env x = pure x := by intro _; rfl) : EN X (.ListComp elt [⟨tg, iter, [], 0⟩] scope pos) ρ Qn := by
  refine en_lc (ix := ix) own hc hN (fun Γ fp F σ H R t k => h Γ fp F σ H R t fun J items G Y F' H' ρ' fp' t' f w hG hY ⟨xs, g, e1, e2, e3, turn, q⟩ => k J items G Y F' H' ρ' fp' t' f w hG hY ?_) ok hix hs
  subst e1
  refine ⟨e2, by rw [List.length_map]; exact e3, fun i acc => acc = (xs.take i).map g, by simp, fun i x acc hx ha => ?_, fun acc ha => ?_⟩
  · rw [List.getElem?_map] at hx
    cases q1 : xs[i]? with
    | none => rw [q1] at hx; cases hx
    | some z =>
      rw [q1] at hx
      cases hx
      intro B
      have hz : z ∈ xs := List.mem_of_getElem? q1
      intro Γ fp F σ H v Φ t r k
      refine turn z hz B Γ fp F σ H v Φ t r fun σ' ρ2 fp' t' u1 u2 hq => k σ' ρ2 fp' t' u1 u2 fun B => ets_nil ⟨rfl, iteT fun B => (hq B).mono fun y ρ4 ⟨e4, ey⟩ => ⟨e4, g z, ey, ?_⟩⟩
      show acc ++ [g z] = (xs.take (i + 1)).map g
      rw [ha, List.take_add_one, q1, List.map_append]
      rfl
  · rw [List.length_map, List.take_length] at ha
    rw [ha]
    exact q
/-- [g(x) for x in xs if ..] -/
theorem en_fmE {Qn : List D → Ev → Prop} {elt tg iter c : Expr} {scope : Scope} {ix : List Nat} {α : Type} (enc : α → D) (own : List (Str × Nat)) (hc : X.calm = true) (hN : X.N.Nodup)
    (h : IE X tg iter ρ fun items ρ1 => ∃ (xs : List α) (g : α → Option D), items = xs.map enc ∧ forget ρ1 (own.map (·.2)) = ρ1 ∧ xs.length ≤ 100000 ∧ (∀ x ∈ xs, ∀ B, GB (Bx X scope B) tg ix (enc x) ρ1 fun ρ2 => ∀ B, ET (Bx X scope B) c ρ2 fun b ρ3 => ρ3 = ρ2 ∧
      if b = true then ∀ B, EV (Bx X scope B) elt ρ3 fun y ρ4 => ρ4 = ρ3 ∧ ∃ y', y = .d y' ∧ g x = some y' else g x = none) ∧ Qn (xs.filterMap g) ρ1)
    (ok : BlkOk X.N X.env.scope scope own := by exact blkOk_by (by kernel_rfl)) (hix : ∀ i ∈ ix, i ∈ own.map (·.2) := by decide) (hs : ∀ x, foldedSetIterable iter X.env x = pure x := by intro _; rfl) : EN X (.ListComp elt [⟨tg, iter, [c], 0⟩] scope pos) ρ Qn := by
  refine en_lc (ix := ix) own hc hN (fun Γ fp F σ H R t k => h Γ fp F σ H R t fun J items G Y F' H' ρ' fp' t' f w hG hY ⟨xs, g, e1, e2, e3, turn, q⟩ => k J items G Y F' H' ρ' fp' t' f w hG hY ?_) ok hix hs
  subst e1
  refine ⟨e2, by rw [List.length_map]; exact e3, fun i acc => acc = (xs.take i).filterMap g, by simp, fun i x acc hx ha => ?_, fun acc ha => ?_⟩
  · rw [List.getElem?_map] at hx
    cases q1 : xs[i]? with
    | none => rw [q1] at hx; cases hx
    | some z =>
      rw [q1] at hx
      cases hx
      intro B
      have hz : z ∈ xs := List.mem_of_getElem? q1
      intro Γ fp F σ H v Φ t r k
      refine turn z hz B Γ fp F σ H v Φ t r fun σ' ρ2 fp' t' u1 u2 hq => k σ' ρ2 fp' t' u1 u2 fun B => ets_one ((hq B).mono fun b ρ3 ⟨e3, hb⟩ => ⟨e3, ?_⟩)
      cases b with
      | true => exact iteT fun B => ((show ∀ B, EV (Bx X scope B) elt ρ3 _ from hb) B).mono fun y ρ4 ⟨e4, y', ey, hg⟩ => ⟨e4, y', ey, by
          show acc ++ [y'] = (xs.take (i + 1)).filterMap g
          rw [ha, List.take_add_one, q1, List.filterMap_append]
          simp [hg]⟩
      | false =>
        refine iteF ?_
        have hg : g z = none := hb
        show acc = (xs.take (i + 1)).filterMap g
        rw [ha, List.take_add_one, q1, List.filterMap_append]
        simp [hg]
  · rw [List.length_map, List.take_length] at ha
    rw [ha]
    exact q
end
end DL
end PartDL11
section PartDN1
set_option maxRecDepth 100000
set_option maxHeartbeats 2000000
/-! DN1: dicts whose keys are nested tuples, over the hand layer. -/
namespace DL
open PySem PySem.Spec PyProof.Rows L2
abbrev NK := PySem.NestedKey
/-- an entry: the key, where its tuple stands, the value -/
abbrev En := NK × Addr × V
def EnR (p : En) (q : NK × Addr × Value) : Prop := p.1 = q.1 ∧ p.2.1 = q.2.1 ∧ RelV p.2.2 q.2.2
/-- the object at a is such a dict -/
def dnP (P : Program) (w : World) (a : Addr) (xs : List En) (h : Heap) : Prop := xs.length ≤ sizeLine ∧ (a == sysModules) = false ∧ ∃ vs : List (NK × Addr × Value), Paired EnR xs vs ∧
  (∃ o es ep, h.get? a = some o ∧ o.ExactDict ∧ o.data = .dict es ep ∧ es.toList = vs.map (entryOfKey (nestedKind P w))) ∧ (vs.map (·.1)).Nodup
def DNO (P : Program) (w : World) (a : Addr) (xs : List En) : HO := .ext (dnP P w a xs)
theorem dno_ok {P : Program} {w : World} {a : Addr} {xs : List En} {H : Hp} {h : Heap} (x : dnP P w a xs h) : ObjOk P w H h a (DNO P w a xs) := by
  obtain ⟨_, _, _, _, ⟨o, _, _, e, _⟩, _⟩ := id x
  refine ⟨x, ⟨o, e⟩, fun h1 h2 z k => ?_⟩
  obtain ⟨z1, z2, vs, z3, ⟨o, es, ep, z4, z5⟩, z6⟩ := z
  exact ⟨z1, z2, vs, z3, ⟨o, es, ep, k _ z4, z5⟩, z6⟩
section
variable {X : Cx} {pins : List (Addr × Obj)} {σ : L2.St} {H F : Hp} {s : Shared}
mutual
/-- data that stand in F, as a key -/
theorem nested_of (I : Inv X pins σ H s) (sm : Same F H) : ∀ (k : NK) {v : V} {u : Value}, Dq F v k.data → RelV v u → NestedIs s.heap k u
  | .none, _, _, d, r => by
    cases d
    cases r
    exact .none
  | .num i, _, _, d, r => by
    cases d
    obtain ⟨t, rfl⟩ := r
    exact .int i t
  | .text x, _, _, d, r => by
    cases d
    obtain ⟨t, rfl⟩ := r
    exact .text x t
  | .tup ks, v, u, d, r => by
    have d' : Dq F v (.tuple (NestedKey.datas ks)) := d
    cases d' with
    | @tup a xs _ h1 h2 =>
      cases r
      obtain ⟨_, its, rv, o, g1, g2, n, g3⟩ := (show ObjOk X.prog X.w H s.heap a (.tup xs) from I.hok a _ (sm _ _ h1))
      exact .tup g1 g2 g3 (by simpa using nested_all I sm ks h2 rv)
theorem nested_all (I : Inv X pins σ H s) (sm : Same F H) : ∀ (ks : List NK) {vs : List V} {us : List Value}, DqAll F vs (NestedKey.datas ks) → Vals vs us → NestedAll s.heap ks us
  | [], _, _, d, r => by
    have d' : DqAll F _ [] := d
    cases d'
    cases r
    exact .nil
  | k :: ks, _, _, d, r => by
    have d' : DqAll F _ (k.data :: NestedKey.datas ks) := d
    cases d' with
    | cons d1 d2 =>
      cases r with
      | cons r1 r2 => exact .cons (nested_of I sm k d1 r1) (nested_all I sm ks d2 r2)
end
/-- the keys' tuples stand in F -/
def KeysIn (F : Hp) (xs : List En) : Prop := ∀ x ∈ xs, Dq F (.ref x.2.1) x.1.data ∧ x.1.depth ≤ 8
theorem dn_of (I : Inv X pins σ H s) (sm : Same F H) {a : Addr} {xs : List En} (e : H a = some (DNO X.prog X.w a xs)) (ky : KeysIn F xs) : xs.length ≤ sizeLine ∧ (a == sysModules) = false ∧ ∃ vs, Paired EnR xs vs ∧ s.heap.DictOfH (nestedKind X.prog X.w) a vs := by
  have z : dnP X.prog X.w a xs s.heap := (show ObjOk X.prog X.w H s.heap a (DNO X.prog X.w a xs) from I.hok a _ e).1
  obtain ⟨h1, h2, vs, h3, ⟨o, es, ep, g1, g2, g3, g4⟩, h5⟩ := z
  refine ⟨h1, h2, vs, h3, o, es, ep, g1, g2, g3, g4, ?_, h5⟩
  clear h5 g4 g3 g2 g1 h1 e
  induction h3 with
  | nil => intro x hx; cases hx
  | @cons p q ps qs r t ih =>
    intro x hx
    rcases List.mem_cons.mp hx with rfl | hx
    · obtain ⟨k1, k2⟩ := ky p List.mem_cons_self
      obtain ⟨r1, r2, r3⟩ := r
      rw [← r1, ← r2]
      exact ⟨nested_of I sm p.1 k1 rfl, k2⟩
    · exact ih (fun x hx => ky x (List.mem_cons_of_mem _ hx)) x hx
/-- what stands for data -/
def KvN (F : Hp) : List En → List (NK × D) → Prop := Paired fun (x : En) (q : NK × D) => x.1 = q.1 ∧ Dq F (.ref x.2.1) x.1.data ∧ x.1.depth ≤ 8 ∧ Dq F x.2.2 q.2
theorem kvn_same {F F' : Hp} (e : Same F F') : ∀ {xs : List En} {kvs : List (NK × D)}, KvN F xs kvs → KvN F' xs kvs
  | _, _, .nil => .nil
  | _, _, .cons a b => .cons ⟨a.1, dp_same e a.2.1, a.2.2.1, dp_same e a.2.2.2⟩ (kvn_same e b)
theorem KvN.keys : ∀ {xs : List En} {kvs : List (NK × D)}, KvN F xs kvs → KeysIn F xs
  | _, _, .nil => fun x hx => nomatch hx
  | _, _, .cons a b => fun x hx => by
    rcases List.mem_cons.mp hx with rfl | hx
    · exact ⟨a.2.1, a.2.2.1⟩
    · exact KvN.keys b x hx
theorem KvN.val {k : NK} : ∀ {xs : List En} {kvs : List (NK × D)} {vs : List (NK × Addr × Value)}, KvN F xs kvs → Paired EnR xs vs → (atKey vs k).isSome = (valD kvs k).isSome ∧ ∀ d, valD kvs k = some d → ∃ v p, atKey vs k = some p ∧ RelV v p.2 ∧ Dq F v d
  | _, _, _, .nil, .nil => ⟨rfl, fun _ h => nomatch h⟩
  | x :: xs, q :: kvs, y :: vs, .cons a b, .cons r t => by
    obtain ⟨a1, _, _, a4⟩ := a
    obtain ⟨r1, r2, r3⟩ := r
    by_cases e : q.1 = k
    · have ey : y.1 = k := (r1.symm.trans a1).trans e
      have h1 : valD (q :: kvs) k = some q.2 := by simp [valD, List.find?_cons, e]
      have h2 : atKey (y :: vs) k = some y.2 := by simp [atKey, List.find?_cons, ey]
      rw [h1, h2]
      exact ⟨rfl, fun d hd => by cases hd; exact ⟨_, _, rfl, r3, a4⟩⟩
    · have ey : ¬ y.1 = k := fun z => e ((a1.symm.trans r1).trans z)
      have h1 : valD (q :: kvs) k = valD kvs k := by simp [valD, List.find?_cons, e]
      have h2 : atKey (y :: vs) k = atKey vs k := by simp [atKey, List.find?_cons, ey]
      rw [h1, h2]
      exact KvN.val b t
/-- the entries behind a store -/
def putE (xs : List En) (k : NK) (b : Addr) (v : V) : List En := if (xs.any fun x => decide (x.1 = k)) = true then xs.map fun x => if x.1 = k then (x.1, x.2.1, v) else x else xs ++ [(k, b, v)]
theorem KvN.any {k : NK} : ∀ {xs : List En} {kvs : List (NK × D)}, KvN F xs kvs → (xs.any fun x => decide (x.1 = k)) = kvs.any fun q => decide (q.1 = k)
  | _, _, .nil => rfl
  | _, _, .cons a b => by rw [List.any_cons, List.any_cons, a.1, KvN.any b]
theorem EnR.any {k : NK} : ∀ {xs : List En} {vs : List (NK × Addr × Value)}, Paired EnR xs vs → (xs.any fun x => decide (x.1 = k)) = (atKey vs k).isSome
  | _, _, .nil => rfl
  | x :: xs, y :: vs, .cons a b => by
    have ih := EnR.any (k := k) b
    rw [List.any_cons, ih, a.1]
    by_cases e : y.1 = k
    · simp [atKey, List.find?_cons, e]
    · simp [atKey, List.find?_cons, e]
theorem KvN.put {k : NK} {b : Addr} {v : V} {d : D} (kb : Dq F (.ref b) k.data) (kd : k.depth ≤ 8) (rd : Dq F v d) {xs : List En} {kvs : List (NK × D)} (h : KvN F xs kvs) : KvN F (putE xs k b v) (putD kvs k d) := by
  unfold putE putD
  rw [h.any]
  by_cases c : (kvs.any fun q => decide (q.1 = k)) = true
  · rw [if_pos c, if_pos c]
    clear c
    induction h with
    | nil => exact .nil
    | @cons x q xs kvs a t ih =>
      rw [List.map_cons, List.map_cons]
      refine .cons ?_ ih
      by_cases e : x.1 = k
      · rw [if_pos e, if_pos (a.1.symm.trans e)]
        exact ⟨a.1, a.2.1, a.2.2.1, rd⟩
      · rw [if_neg e, if_neg fun z => e (a.1.trans z)]
        exact a
  · rw [if_neg c, if_neg c]
    clear c
    induction h with
    | nil => exact .cons ⟨rfl, kb, kd, rd⟩ .nil
    | cons a t ih => exact .cons a ih
theorem EnR.put {k : NK} {b : Addr} {v : V} {u : Value} (r : RelV v u) {xs : List En} {vs : List (NK × Addr × Value)} (h : Paired EnR xs vs) : Paired EnR (putE xs k b v) (storedH vs k b u) := by
  unfold putE storedH
  rw [EnR.any h]
  by_cases c : (atKey vs k).isSome = true
  · rw [if_pos c, if_pos c]
    clear c
    induction h with
    | nil => exact .nil
    | @cons x y xs vs a t ih =>
      rw [List.map_cons, List.map_cons]
      refine .cons ?_ ih
      unfold putAt
      by_cases e : x.1 = k
      · rw [if_pos e, if_pos (a.1.symm.trans e)]
        exact ⟨a.1, a.2.1, r⟩
      · rw [if_neg e, if_neg fun z => e (a.1.trans z)]
        exact a
  · rw [if_neg c, if_neg c]
    clear c
    induction h with
    | nil => exact .cons ⟨rfl, rfl, r⟩ .nil
    | cons a t ih => exact .cons a ih
theorem putE_len (xs : List En) (k : NK) (b : Addr) (v : V) : (putE xs k b v).length ≤ xs.length + 1 := by
  unfold putE
  split
  · rw [List.length_map]; omega
  · rw [List.length_append, List.length_singleton]; omega
/-- the cell -/
def dnC (P : Program) (w : World) (kvs : List (NK × D)) : CRel where
  ok := fun F H v as => ∃ a xs, as = [a] ∧ v = .ref a ∧ H a = some (DNO P w a xs) ∧ KvN F xs kvs
  st := fun e k h => by
    obtain ⟨a, xs, rfl, h2, h3, h4⟩ := h
    exact ⟨a, xs, rfl, h2, (k a (by simp)).trans h3, kvn_same e h4⟩
/-- what is found at a key -/
def NGet (P : Program) (w : World) (H : Hp) (a : Addr) (y : V) (o : Option V) : Prop := ∃ (F : Hp) (xs : List En) (k : NK) (b : Addr), Same F H ∧ H a = some (DNO P w a xs) ∧ KeysIn F xs ∧ y = .ref b ∧ Dq F (.ref b) k.data ∧ k.depth ≤ 8 ∧
  ∀ vs, Paired EnR xs vs → RelO o ((atKey vs k).map (·.2))
section
variable {A : Around} {E : Value → Shared → Prop} {a : Addr} {y : V} {o : Option V} {u : Value}
theorem n_in {Q : Value → Shared → Prop} (hu : A.units + 9 < cLine) (I : Inv X pins σ H s) (g : NGet X.prog X.w H a y o) (ry : RelV y u) (h : ∀ s', Inv X pins σ H s' → Q (.bool o.isSome) s') : wpAny (model X.prog X.w) A (compareOp .In u (.ref a)) Q E s := by
  obtain ⟨F, xs, k, b, sm, e, ky, rfl, kb, kd, hv⟩ := g
  cases (show u = Value.ref b from ry)
  obtain ⟨_, hd, vs, r, dd⟩ := dn_of I sm e ky
  refine wpAny_in_heap (knd := nestedKind X.prog X.w) (show A.units + 1 + 8 < cLine by omega) ⟨nested_of I sm k kb rfl, kd⟩ hd dd ?_
  have q := (hv vs r).isSome_eq
  rw [Option.isSome_map] at q
  rw [← q]
  exact h _ (I.tok _)
theorem n_notIn {Q : Value → Shared → Prop} (hu : A.units + 9 < cLine) (I : Inv X pins σ H s) (g : NGet X.prog X.w H a y o) (ry : RelV y u) (h : ∀ s', Inv X pins σ H s' → Q (.bool (!o.isSome)) s') : wpAny (model X.prog X.w) A (compareOp .NotIn u (.ref a)) Q E s := by
  obtain ⟨F, xs, k, b, sm, e, ky, rfl, kb, kd, hv⟩ := g
  cases (show u = Value.ref b from ry)
  obtain ⟨_, hd, vs, r, dd⟩ := dn_of I sm e ky
  refine wpAny_notIn_heap (knd := nestedKind X.prog X.w) (show A.units + 1 + 8 < cLine by omega) ⟨nested_of I sm k kb rfl, kd⟩ hd dd ?_
  have q := (hv vs r).isSome_eq
  rw [Option.isSome_map] at q
  rw [← q]
  exact h _ (I.tok _)
theorem n_getItem {v : V} {Q : Value → Shared → Prop} (hu : A.units + 9 < cLine) (I : Inv X pins σ H s) (g : NGet X.prog X.w H a y (some v)) (ry : RelV y u) (h : ∀ w' s', Inv X pins σ H s' → RelV v w' → Q w' s') : wpAny (model X.prog X.w) A (getItem (.ref a) u) Q E s := by
  obtain ⟨F, xs, k, b, sm, e, ky, rfl, kb, kd, hv⟩ := g
  cases (show u = Value.ref b from ry)
  obtain ⟨_, hd, vs, r, dd⟩ := dn_of I sm e ky
  obtain ⟨w', hw, rw'⟩ := RelO.some_of (hv vs r)
  obtain ⟨p, hp, hp2⟩ := Option.map_eq_some_iff.mp hw
  refine wpAny_getItem_heap (knd := nestedKind X.prog X.w) (show A.units + 1 + 8 < cLine by omega) ⟨nested_of I sm k kb rfl, kd⟩ dd hp ?_
  rw [hp2]
  exact h w' _ (I.tok _) rw'
theorem n_get2 {d : V} {r : Value} {Q : Value → Shared → Prop} (hu : A.units + 9 < cLine) (I : Inv X pins σ H s) (g : NGet X.prog X.w H a y o) (ry : RelV y u) (rd : RelV d r) (h : ∀ w' s', Inv X pins σ H s' → RelV (o.getD d) w' → Q w' s') :
    wpAny (model X.prog X.w) A (call (.builtin "dict.get") [.ref a, u, r]) Q E s := by
  obtain ⟨F, xs, k, b, sm, e, ky, rfl, kb, kd, hv⟩ := g
  cases (show u = Value.ref b from ry)
  obtain ⟨_, hd, vs, r', dd⟩ := dn_of I sm e ky
  refine call_meetsIn PySem.F.slot_dict_get dd.typeIs PySem.F.entry_dict_get (PySem.F.args_dict_get_3 _ _ _) (meetsH_dict_get_default (nestedKind X.prog X.w) a b hd r) ⟨show A.units + 1 + 8 < cLine by omega, k, vs, ⟨nested_of I sm k kb rfl, kd⟩, dd, h _ _ (I.tok _) ?_⟩
  exact (hv vs r').getD rd
/-- the heap behind a[y] = v -/
def NPut (P : Program) (w : World) (H : Hp) (a : Addr) (y v : V) (H' : Hp) : Prop := ∃ (F : Hp) (xs : List En) (k : NK) (b : Addr), Same F H ∧ H a = some (DNO P w a xs) ∧ KeysIn F xs ∧ y = .ref b ∧ Dq F (.ref b) k.data ∧ k.depth ≤ 8 ∧ xs.length < 1000000 ∧ H' = upd H a (DNO P w a (putE xs k b v))
theorem n_setItem {v : V} {r : Value} {H' : Hp} {Q : Unit → Shared → Prop} (hu : A.units + 9 < cLine) (I : Inv X pins σ H s) (g : NPut X.prog X.w H a y v H') (ry : RelV y u) (rv : RelV v r) (h : ∀ s', Inv X pins σ H' s' → Q () s') :
    wpAny (model X.prog X.w) A (setItem (.ref a) u r) Q E s := by
  obtain ⟨F, xs, k, b, sm, e, ky, rfl, kb, kd, hl, rfl⟩ := g
  cases (show u = Value.ref b from ry)
  obtain ⟨_, hd, vs, r', dd⟩ := dn_of I sm e ky
  have el : xs.length = vs.length := Paired.length r'
  have sz := sizeLine_eq
  refine wpAny_setItem_heap (knd := nestedKind X.prog X.w) (hsz := by omega) (show A.units + 1 + 8 < cLine by omega) ⟨nested_of I sm k kb rfl, kd⟩ dd fun h' dd' hs => h _ ?_
  obtain ⟨q, es, ep, hq, h2, h3, h4, _, h5⟩ := dd'
  have pl := putE_len xs k b v
  refine I.write (x := a) (e := a) (by rw [e]; exact True.intro) (.inl rfl) (fun c q hb z => (hs.2 c hb).trans z) ⟨q, hq⟩ (dno_ok ⟨by omega, hd, _, EnR.put rv r', ⟨q, es, ep, hq, h2, h3, h4⟩, h5⟩)
end
end
end DL
end PartDN1
section PartDN2
set_option maxRecDepth 100000
set_option maxHeartbeats 2000000
/-! DN2: dicts with nested keys: displays, subscripts, items, values. -/
namespace DL
open PySem PySem.Spec PyProof.Rows L2
theorem un9 {k : Nat} {A : Around} (r : Room k A) : A.units + 9 < cLine := by have := r.un; omega
theorem dno_empty {P : Program} {w : World} {H : Hp} (h : Heap) (hb : sysModules < h.objs.size) : ObjOk P w H (h.push { cls := .type "dict", data := .dict #[] }) h.objs.size (DNO P w h.objs.size []) :=
  dno_ok ⟨Nat.zero_le _, beq_eq_false_iff_ne.mpr (Ne.symm (Nat.ne_of_lt hb)), [], .nil, ⟨_, #[], 0, Heap.get?_push_size _ rfl, ⟨rfl, rfl, rfl⟩, rfl, rfl⟩, List.nodup_nil⟩
def tNNew (P : Program) (w : World) : TE := fun _ H Q => ∀ p, H p = none → Q (.ref p) (upd H p (DNO P w p []))
section
variable {X : Cx} {pos : Pos}
theorem pe_nnew : PE X (.Dict [] [] pos) (tNNew X.prog X.w) := ⟨fun pins s σ H Q I h =>
  wpAny_Dict_empty ⟨.ref s.heap.objs.size, _, I.laid (a := s.heap.objs.size) (o := DNO X.prog X.w s.heap.objs.size []) (t' := s.toks) (fun _ _ q => Heap.get?_push_of_some _ q) (Nat.le_refl _) (dno_empty s.heap I.big), rfl, h _ (I.hok.fresh (Nat.le_refl _))⟩⟩
/-- {k: v}, the key nested -/
def tNDisp (P : Program) (w : World) (tk tv : TE) : TE := fun σ H Q => ∀ p, H p = none → tk σ (upd H p (DNO P w p [])) fun y H1 => tv σ H1 fun v H2 => H2 p = some (DNO P w p []) ∧
  ∃ (F : Hp) (k : NK) (b : Addr), Same F H2 ∧ y = .ref b ∧ Dq F (.ref b) k.data ∧ k.depth ≤ 8 ∧ Q (.ref p) (upd H2 p (DNO P w p [(k, b, v)]))
theorem pe_ndisp {ke ve : Expr} {tk tv : TE} (hu : X.A.units + 9 < cLine) (hk : PE X ke tk) (hv : PE X ve tv) : PE X (.Dict [some ke] [ve] pos) (tNDisp X.prog X.w tk tv) := by
  refine ⟨fun pins s σ H Q I q => ?_⟩
  have hn := I.hok.fresh (Nat.le_refl s.heap.objs.size)
  have I1 := I.laid (a := s.heap.objs.size) (o := DNO X.prog X.w s.heap.objs.size []) (h' := s.heap.push { cls := .type "dict", data := .dict #[] }) (t' := s.toks) (fun _ _ q => Heap.get?_push_of_some _ q) (Nat.le_refl _) (dno_empty s.heap I.big)
  have hsh := zip_pairTrees [some ke] [ve] X.env pos rfl rfl
  rw [arm_eval_Dict, hsh, dictDisplay_pairs (pairTrees [some ke] [ve] X.env pos) (by simp [pairTrees]) (by simp [pairTrees])]
  refine wpAny_bind (wpAny_standAt (wpAny_bind (wpAny_subDictH (knd := nestedKind X.prog X.w) (show X.A.units + 8 < cLine by omega) (by simp [pairTrees]) ?_)))
  refine pairTrees_cons_walk (thn (hk.run pins _ σ _ _ I1 (q _ hn)) fun u s1 ⟨y, H1, I2, ry, q1⟩ => thn (hv.run pins s1 σ H1 _ I2 q1) fun wv s2 ⟨v, H2, I3, rv, e, F, k, b, sm, ey, kb, kd, q2⟩ => pairTrees_nil_walk ?_)
  subst ey
  cases (show u = Value.ref b from ry)
  obtain ⟨_, hd, vs0, r0, dd⟩ := dn_of (F := F) I3 sm e (fun x hx => nomatch hx)
  cases r0
  refine ⟨[(k, b, wv)], ⟨rfl, rfl, ⟨nested_of I3 sm k kb rfl, kd⟩, True.intro⟩, dd, fun h' tk dd' hs => wpAny_pure ⟨.ref s.heap.objs.size, _, ?_, rfl, q2⟩⟩
  obtain ⟨o, es, ep, h1, h2, h3, h4, _, h5⟩ := dd'
  exact I3.write (x := s.heap.objs.size) (e := s.heap.objs.size) (by rw [e]; exact True.intro) (.inl rfl) (fun c z hb hz => (hs.2 c hb).trans hz) ⟨o, h1⟩ (dno_ok ⟨by show 1 ≤ sizeLine; decide, hd, _, .cons ⟨rfl, rfl, rv⟩ .nil, ⟨o, es, ep, h1, h2, h3, h4⟩, h5⟩)

/-! ### rules of the layer -/
variable {o i e f value : Expr} {pos' apos cpos : Pos} {td ty tv tx : TE}
def tNGet (P : Program) (w : World) (td ty : TE) : TE := fun σ H Q => td σ H fun x H1 => ty σ H1 fun y H2 => ∃ a v, x = .ref a ∧ NGet P w H2 a y (some v) ∧ Q v H2
def tNIn (P : Program) (w : World) (ty td : TE) : TE := fun σ H Q => ty σ H fun y H1 => td σ H1 fun x H2 => ∃ a o, x = .ref a ∧ NGet P w H2 a y o ∧ Q (.bl o.isSome) H2
def tNNotIn (P : Program) (w : World) (ty td : TE) : TE := fun σ H Q => ty σ H fun y H1 => td σ H1 fun x H2 => ∃ a o, x = .ref a ∧ NGet P w H2 a y o ∧ Q (.bl (!o.isSome)) H2
def sNPut (P : Program) (w : World) (td ty tv : TE) : TS := fun D σ H => tv σ H fun v H1 => td σ H1 fun x H2 => ty σ H2 fun y H3 => ∃ a H4, x = .ref a ∧ NPut P w H3 a y v H4 ∧ D.nx σ H4
def IsN (P : Program) (w : World) (H : Hp) (a : Addr) : Prop := ∃ xs, H a = some (DNO P w a xs)
def tNGet2 (P : Program) (w : World) (td ty tx : TE) : TE := fun σ H Q => td σ H fun x H1 => ∃ a, x = .ref a ∧ IsN P w H1 a ∧ ty σ H1 fun y H2 => tx σ H2 fun z H3 => ∃ o, NGet P w H3 a y o ∧ Q (o.getD z) H3
theorem isN_at {pins : List (Addr × Obj)} {σ : L2.St} {H : Hp} {s : Shared} {a : Addr} (I : Inv X pins σ H s) (d : IsN X.prog X.w H a) :
    s.TypeIs (.ref a) "dict" ∧ (∀ b, Value.ref a = .ref b → ∃ ob, s.heap.get? b = some ob ∧ ob.dict = none) ∧ (a == sysModules) = false := by
  obtain ⟨xs, e⟩ := d
  obtain ⟨_, hd, vs, _, ⟨ob, es, ep, h1, h2, h3, h4⟩, _⟩ := (show ObjOk X.prog X.w H s.heap a (DNO X.prog X.w a xs) from I.hok a _ e).1
  refine ⟨⟨ob, h1, h2.1⟩, fun b q => ?_, hd⟩
  cases q
  exact ⟨ob, h1, h2.2.1⟩
theorem NGet.isN {P : Program} {w : World} {H : Hp} {a : Addr} {y : V} {o : Option V} (g : NGet P w H a y o) : IsN P w H a := let ⟨_, xs, _, _, _, e, _⟩ := g; ⟨xs, e⟩
theorem pe_nget (hu : X.A.units + 9 < cLine) (ho : PE X o td) (hi : PE X i ty) (hs : NoSl i) : PE X (.Subscript o i pos) (tNGet X.prog X.w td ty) := by
  refine ⟨fun pins s σ H Q I h => ?_⟩
  refine subD_of PySem.F.slot_dict_getitem.lookup hs (thn (ho.run pins s σ H _ I h) fun u s1 ⟨x, H1, I1, rx, q1⟩ => thn (hi.run pins s1 σ H1 _ I1 q1) fun iv s2 ⟨y, H2, I2, ry, a, v, ex, g, q2⟩ => ?_)
  subst ex
  obtain rfl : u = Value.ref a := rx
  exact ⟨(isN_at I2 g.isN).1, n_getItem hu I2 g ry fun w' s3 I3 rw' => ⟨v, H2, I3, rw', q2⟩⟩
theorem pc_nin (hu : X.A.units + 9 < cLine) (hi : PE X i ty) (ho : PE X o td) : PC X .In i o (tNIn X.prog X.w ty td) := by
  refine ⟨fun pins s σ H Q I h => ?_⟩
  refine thn (hi.run pins s σ H _ I h) fun iv s1 ⟨y, H1, I1, ry, q1⟩ => thn (ho.run pins s1 σ H1 _ I1 q1) fun u s2 ⟨x, H2, I2, rx, a, ov, ex, g, q2⟩ => ?_
  subst ex
  obtain rfl : u = Value.ref a := rx
  exact n_in hu I2 g ry fun s3 I3 => ⟨.bl ov.isSome, H2, I3, rfl, q2⟩
theorem pc_nnotin (hu : X.A.units + 9 < cLine) (hi : PE X i ty) (ho : PE X o td) : PC X .NotIn i o (tNNotIn X.prog X.w ty td) := by
  refine ⟨fun pins s σ H Q I h => ?_⟩
  refine thn (hi.run pins s σ H _ I h) fun iv s1 ⟨y, H1, I1, ry, q1⟩ => thn (ho.run pins s1 σ H1 _ I1 q1) fun u s2 ⟨x, H2, I2, rx, a, ov, ex, g, q2⟩ => ?_
  subst ex
  obtain rfl : u = Value.ref a := rx
  exact n_notIn hu I2 g ry fun s3 I3 => ⟨.bl (!ov.isSome), H2, I3, rfl, q2⟩
theorem ps_nput (hu : X.A.units + 9 < cLine) (ho : PE X o td) (hi : PE X i ty) (hv : PE X value tv) (hs : swapsWith value (some (.Subscript o i pos')) pos.line X.env = pure false) :
    PS X (.Assign [.Subscript o i pos'] value pos) (sNPut X.prog X.w td ty tv) := by
  refine ⟨fun pins s σ H D I h => ?_⟩
  refine wpAny_Assign_Subscript (thn (hv.run pins s σ H _ I h) fun r s1 ⟨v, H1, I1, rv, q1⟩ => thn (ho.run pins s1 σ H1 _ I1 q1) fun u s2 ⟨x, H2, I2, rx, q2⟩ => thn (hi.run pins s2 σ H2 _ I2 q2) fun iv s3 ⟨y, H3, I3, ry, a, H4, ex, g, q3⟩ => ?_) hs
  subst ex
  obtain rfl : u = Value.ref a := rx
  exact n_setItem hu I3 g ry rv fun s4 I4 => ⟨σ, H4, I4, q3⟩
theorem pe_nget2 (hu : X.A.units + 9 < cLine) (ho : PE X o td) (he : PE X e ty) (hf : PE X f tx) (m : M2 X o "get" apos e f cpos) : PE X (.Call (.Attribute o "get" apos) [e, f] [] cpos) (tNGet2 X.prog X.w td ty tx) := by
  refine ⟨fun pins s σ H Q I h => ?_⟩
  refine wpAny_Call_method m.base m.few m.line PySem.F.plainAttrs_dict PySem.F.slot_dict_get PySem.F.type_dict_get (thn (ho.run pins s σ H _ I h) fun u s1 ⟨x, H1, I1, rx, a, ex, d, q1⟩ => ?_)
  subst ex
  obtain rfl : u = Value.ref a := rx
  obtain ⟨t1, t2, _⟩ := isN_at I1 d
  refine ⟨t1, t2, ?_⟩
  rw [m.trees]
  refine Calls.callWith_builtin rfl (Calls.evalArgs_plain (Calls.spliced_cons (thn (he.run pins s1 σ H1 _ I1 q1) fun iv s2 ⟨y, H2, I2, ry, q2⟩ =>
    Calls.spliced_cons (thn (hf.run pins s2 σ H2 _ I2 q2) fun fv s3 ⟨z, H3, I3, rz, ov, g, q3⟩ => Calls.spliced_nil ?_))))
  exact n_get2 hu I3 g ry rz fun w' s4 I4 rw' => ⟨_, H3, I4, rw', q3⟩

/-! ### for .. in d.items(): locked -/
def ItN (P : Program) (w : World) (d : Addr) (o : Obj) (xs : List En) : It :=
  ⟨fun i H => H d = some (.frz o (DNO P w d xs)) ∧ i < xs.length, fun i H x H' => ∃ T y, xs[i]? = some y ∧ x = .ref T ∧ H T = none ∧ H' = upd H T (.tup [.ref y.2.1, y.2.2]), fun i H => H d = some (.frz o (DNO P w d xs)) ∧ xs.length ≤ i⟩
theorem Inv.frzN {pins : List (Addr × Obj)} {σ : L2.St} {H : Hp} {s : Shared} {d : Addr} {o : Obj} {xs : List En} (I : Inv X pins σ H s) (h : H d = some (.frz o (DNO X.prog X.w d xs))) :
    (d == sysModules) = false ∧ xs.length ≤ sizeLine ∧ ∃ (es : Array DictEntry) (ep : Nat), s.heap.DictRaw d es ep ∧ s.heap.get? d = some o ∧ o.data = .dict es ep ∧ es.size = xs.length ∧
      ∀ (i : Nat) (y : En), xs[i]? = some y → ∃ (h : i < es.size), es[i].key = .ref y.2.1 ∧ RelV y.2.2 es[i].val := by
  obtain ⟨hd, ⟨h1, h2, vs, h3, ⟨o', es, ep, g1, g2, g3, g4⟩, _⟩, _⟩ := I.hok d _ h
  rw [hd] at g1
  cases g1
  have l1 : es.size = vs.length := by
    have := congrArg List.length g4
    rw [List.length_map, Array.length_toList] at this
    exact this
  have l2 : xs.length = vs.length := Paired.length h3
  refine ⟨h2, h1, es, ep, ⟨o, hd, g2, g3⟩, hd, g3, by omega, fun i y e => ?_⟩
  obtain ⟨b, hb, r1, r2, r3⟩ := paired_get h3 e
  have hi : i < es.size := by
    have := (List.getElem?_eq_some_iff.mp hb).1
    omega
  refine ⟨hi, ?_⟩
  have q : es.toList[i]? = some (entryOfKey (nestedKind X.prog X.w) b) := by rw [g4, List.getElem?_map, hb]; rfl
  rw [Array.getElem?_toList, Array.getElem?_eq_getElem hi] at q
  have q' := Option.some.inj q
  rw [q', r2]
  exact ⟨rfl, r3⟩
theorem turn_itemsN {P : Program} {w : World} {K : PySem.W.Frag} {d : Addr} {o : Obj} {es : Array DictEntry} {ep : Nat} {xs : List En} {elts : List Expr} {kk : Nat} {tpos : Pos} (it : Addr) (hod : o.data = .dict es ep) (hx : es.size = xs.length) :
    Turn P w K (.Tuple elts kk tpos) (ItN P w d o xs) [it] it (fun i h => ∃ ok ov, IsItemIter h it d i es.size ep ok ov) where
  mem := by simp
  obj := fun i h st b hb => by
    have e : b = it := by simpa using hb
    subst e
    obtain ⟨ok, ov, e⟩ := st
    exact ⟨_, e, fun v z => nomatch z⟩
  keep := fun i h h' st k => let ⟨ok, ov, e⟩ := st; ⟨ok, ov, k it (by simp) _ e⟩
  item := by
    intro X hP hw hK hc i pins s σ H E I hf st hg
    subst hP hw hK
    obtain ⟨hd, hi⟩ := hg
    obtain ⟨hs, hsz, es', ep', raw, hgd, hdt, hes, ent⟩ := DL.Inv.frzN I hd
    obtain ⟨rfl, rfl⟩ := dict_ep hod hdt
    obtain ⟨y, hy⟩ : ∃ y, xs[i]? = some y := ⟨xs[i], List.getElem?_eq_getElem hi⟩
    obtain ⟨hie, hkey, hval⟩ := ent i y hy
    obtain ⟨ok, ov, he⟩ := st
    have hlt : it < s.heap.objs.size := Heap.lt_size he
    refine wpAny_pyNext_items_item_raw he raw hie fun h' ho hT hz hk => ?_
    refine ⟨_, rfl, wpAny_letOwnedTupleGo_items (s := { s with heap := h' }) ho fun h'' he' sb => ?_⟩
    have hT2 : h''.get? s.heap.objs.size = some { cls := .type "tuple", data := .seq #[es'[i].key, es'[i].val] } := (sb.2 _ (Nat.ne_of_gt hlt)).trans hT
    have new : ObjOk X.prog X.w (upd H s.heap.objs.size (.tup [.ref y.2.1, y.2.2])) h'' s.heap.objs.size (.tup [.ref y.2.1, y.2.2]) :=
      ⟨by show 2 ≤ sizeLine; decide, [es'[i].key, es'[i].val], .cons (by rw [hkey]; rfl) (.cons hval .nil), ⟨_, hT2, rfl, _, rfl⟩⟩
    have I1 : Inv X pins σ (upd H s.heap.objs.size (.tup [.ref y.2.1, y.2.2])) { s with heap := h'' } :=
      I.turnedNew (t' := s.toks) (ch := [it]) (fun b ob hb e => (sb.2 b (by simpa using hb)).trans (hk b ob (by simpa using hb) e)) hf (Nat.le_refl _) new
    refine ⟨.ref s.heap.objs.size, _, I1, rfl, ⟨_, y, hy, rfl, I.hok.fresh (Nat.le_refl _), rfl⟩, ⟨_, _, he'⟩, fun b hb => ?_⟩
    have e : b = it := by simpa using hb
    rw [e, upd_ne (Nat.ne_of_lt hlt)]
    exact (hf it (by simp)).1
  done := by
    intro X hP hw hK hc i pins s σ H E I hf st hg
    subst hP hw hK
    obtain ⟨hd, hi⟩ := hg
    obtain ⟨f0, f1, f2, f3, f4, f5⟩ := hf it (by simp)
    obtain ⟨hs, hsz, es', ep', raw, hgd, hdt, hes, ent⟩ := DL.Inv.frzN I hd
    obtain ⟨rfl, rfl⟩ := dict_ep hod hdt
    obtain ⟨ok, ov, he⟩ := st
    exact wpAny_pyNext_items_end_raw (I.ok.hd hc) he raw (by omega) fun h' eb => ⟨rfl, I.turned (t' := s.toks) (fun b ob hb e => eb b ob hb e) f0 f1 f3 f4 f5⟩
  self := fun A i s Q E st h => let ⟨_, _, e⟩ := st; PySem.W.kcp_self e h
/-- d.items(): d is locked for good -/
def iItemsN (P : Program) (w : World) (td : TE) : TI := fun σ H R => td σ H fun x H1 => ∃ d xs, x = .ref d ∧ H1 d = some (DNO P w d xs) ∧ ∀ o, R (ItN P w d o xs) (upd H1 d (.frz o (DNO P w d xs)))
theorem pi_itemsN {elts : List Expr} {kk : Nat} {tpos : Pos} (he : PE X e td) (hbase : attributeBase e "items" X.env (eval e X.env) = eval e X.env := by rfl) (hline : (apos.endLine == cpos.line) = true := by rfl) :
    PI X (.Tuple elts kk tpos) (.Call (.Attribute e "items" apos) [] [] cpos) (iItemsN X.prog X.w td) := by
  refine ⟨fun pins s σ H R I h => ?_⟩
  refine wpAny_Call_method (T := "dict") (id := "dict.items") hbase rfl hline PySem.F.plainAttrs_dict PySem.F.slot_dict_items PySem.F.type_dict_items (thn (he.run pins s σ H _ I h) fun u s1 ⟨x, H1, I1, rx, d, xs, ex, hd, q⟩ => ?_)
  subst ex
  obtain rfl : u = Value.ref d := rx
  obtain ⟨t1, t2, t3⟩ := isN_at I1 ⟨xs, hd⟩
  refine ⟨t1, t2, ?_⟩
  obtain ⟨o, I1'⟩ := Inv.lock I1 hd True.intro
  obtain ⟨hs, hsz, es, ep, raw, hgd, hdt, hes, ent⟩ := DL.Inv.frzN I1' upd_same
  have I2 : Inv X pins σ (upd H1 d (.frz o (DNO X.prog X.w d xs))) { s1 with heap := s1.heap.push { cls := .type "dict_items", data := .fields #[.ref d] } } := I1'.kept (t' := s1.toks) fun b ob q => Heap.get?_push_of_some _ q
  have fin : wpAny (model X.prog X.w) X.A (pyIter (.ref s1.heap.objs.size)) (PIE X pins σ (.Tuple elts kk tpos) R) X.xe { s1 with heap := s1.heap.push { cls := .type "dict_items", data := .fields #[.ref d] } } := by
    refine wpAny_pyIter_items_raw (d := d) ⟨_, Heap.get?_push_size _ rfl, rfl, rfl⟩ (raw.push _) (pi_one (tk := s1.toks) I2 _ (turn_itemsN _ hdt hes) ⟨.none, .none, ?_⟩ (q o))
    exact Heap.get?_push_size _ rfl
  show wpAny _ _ (callWith cpos (.builtin "dict.items") [.ref d] [] []) _ X.xe s1
  exact method_meetsIn PySem.F.slot_dict_items PySem.F.entry_dict_items rfl (PySem.evalArgs_none ⟨rfl, t1, PySem.F.args_dict_items_1 _, _, meets_dict_items_raw d hs, ⟨es, ep, raw⟩, fin⟩)
end
end DL
end PartDN2
section PartDN3
set_option maxRecDepth 100000
set_option maxHeartbeats 2000000
/-! DN3: list(d.values()), for .. in f(..).values(), and the rules over data. -/
namespace DL
open PySem PySem.Spec PyProof.Rows L2
section
variable {X : Cx} {pos p : Pos} {e : Expr} {apos cpos : Pos} {td : TE}
/-- list(d.values()) -/
def tNVals (P : Program) (w : World) (td : TE) : TE := fun σ H Q => td σ H fun x H1 => ∃ d xs, x = .ref d ∧ H1 d = some (DNO P w d xs) ∧ ∀ l, H1 l = none → Q (.ref l) (upd H1 l (.lst (xs.map (·.2.2))))
theorem pe_nvals (he : PE X e td) (hh : X.A.handled = none) (hm : X.mg "list" = none) (hg : Gl X "list" := by rfl) (hbase : attributeBase e "values" X.env (eval e X.env) = eval e X.env := by rfl) (hline : (apos.endLine == cpos.line) = true := by rfl)
    (hs : starEach [.Call (.Attribute e "values" apos) [] [] cpos] X.env = (false, eval (.Call (.Attribute e "values" apos) [] [] cpos) X.env) :: starEach [] X.env := by rfl) :
    PE X (.Call (.Name "list" p) [.Call (.Attribute e "values" apos) [] [] cpos] [] pos) (tNVals X.prog X.w td) := by
  refine ⟨fun pins s σ H Q I h => ?_⟩
  refine wpAny_Call_Name_kw (ld_blt I hg hm PyProof.Rows.boot_list (PyProof.Rows.callWith_type1 ?_ hs rfl))
  rw [hs]
  show wpAny _ _ (spliced ((false, eval (.Call (.Attribute e "values" apos) [] [] cpos) X.env) :: backTo pos (starEach [] X.env))) _ _ s
  refine Calls.spliced_cons ?_
  refine wpAny_Call_method (T := "dict") (id := "dict.values") hbase rfl hline PySem.F.plainAttrs_dict PySem.F.slot_dict_values PySem.F.type_dict_values (thn (he.run pins s σ H _ I h) fun u s1 ⟨x, H1, I1, rx, d, xs, ex, hd, q⟩ => ?_)
  subst ex
  obtain rfl : u = Value.ref d := rx
  obtain ⟨t1, t2, t3⟩ := isN_at I1 ⟨xs, hd⟩
  refine ⟨t1, t2, ?_⟩
  obtain ⟨o, I1'⟩ := Inv.lock I1 hd True.intro
  obtain ⟨hsm, hsz, es, ep, raw, hgd, hdt, hes, ent⟩ := DL.Inv.frzN I1' upd_same
  have I2 : Inv X pins σ H1 { s1 with heap := s1.heap.push { cls := .type "dict_values", data := .fields #[.ref d] } } := I1.kept (t' := s1.toks) fun b ob q => Heap.get?_push_of_some _ q
  refine method_meetsIn PySem.F.slot_dict_values PySem.F.entry_dict_values rfl (PySem.evalArgs_none ⟨rfl, t1, PySem.F.args_dict_values_1 _, _, meets_dict_values_raw d hsm, ⟨es, ep, raw⟩, ?_⟩)
  refine Calls.spliced_nil ?_
  have vv : Heap.IsValuesView (s1.heap.push { cls := .type "dict_values", data := .fields #[.ref d] }) s1.heap.objs.size d := ⟨_, Heap.get?_push_size _ rfl, rfl, rfl⟩
  refine PySem.W.kdl_call (KdlSrc.rawValues (r := s1.heap.objs.size) (d := d) (es := es) (ep := ep)) hh ⟨vv, raw.push _⟩ (by omega) fun h' tk acc' c' kp e' it => ?_
  obtain ⟨i1, i2⟩ := it
  have rel : Vals (xs.map (·.2.2)) acc'.toList := by
    have key : ∀ (ys : List En) (vs : List Value), vs.length = ys.length → (∀ (j : Nat) (y : En) (v : Value), ys[j]? = some y → vs[j]? = some v → RelV y.2.2 v) → Vals (ys.map (·.2.2)) vs := by
      intro ys
      induction ys with
      | nil =>
        intro vs hl _
        have : vs = [] := List.length_eq_zero_iff.mp hl
        subst this
        exact .nil
      | cons y ys ih =>
        intro vs hl hr
        cases vs with
        | nil => simp at hl
        | cons v vs =>
          rw [List.map_cons]
          exact .cons (hr 0 y v rfl rfl) (ih vs (by simpa using hl) fun j y' v' h1 h2 => hr (j + 1) y' v' (by simpa using h1) (by simpa using h2))
    refine key xs acc'.toList (by rw [Array.length_toList]; omega) fun j y v h1 h2 => ?_
    obtain ⟨hie, hk, hv⟩ := ent j y h1
    obtain ⟨hi, ev⟩ := i2 j v (by rw [← Array.getElem?_toList]; exact h2)
    rw [ev]
    exact hv
  refine ⟨.ref _, _, I2.laid (t' := tk) (h' := h') (fun b ob q => kp b ob q) (Nat.le_refl _) (show ObjOk X.prog X.w _ h' _ (.lst (xs.map (·.2.2))) from ⟨by rw [List.length_map]; exact hsz, acc'.toList, c', rel, ?_⟩), rfl, q _ (I2.hok.fresh (Nat.le_refl _))⟩
  rw [Array.toArray_toList]
  exact e'
/-- d.values(): d is locked for good -/
def iValsL (td : TE) : TI := fun σ H R => td σ H fun x H1 => ∃ d kvs, x = .ref d ∧ H1 d = some (.dK kvs) ∧ ∀ o, R (Itd d o kvs) (upd H1 d (.frz o (.dK kvs)))
theorem pi_valuesL {tg : Expr} (he : PE X e td) (hbase : attributeBase e "values" X.env (eval e X.env) = eval e X.env := by rfl) (hline : (apos.endLine == cpos.line) = true := by rfl) : PI X tg (.Call (.Attribute e "values" apos) [] [] cpos) (iValsL td) := by
  refine ⟨fun pins s σ H R I h => ?_⟩
  refine wpAny_Call_method (T := "dict") (id := "dict.values") hbase rfl hline PySem.F.plainAttrs_dict PySem.F.slot_dict_values PySem.F.type_dict_values (thn (he.run pins s σ H _ I h) fun u s1 ⟨x, H1, I1', rx, d, kvs, ex, hd, q⟩ => ?_)
  subst ex
  obtain rfl : u = Value.ref d := rx
  obtain ⟨o, I1⟩ := Inv.lock I1' hd True.intro
  obtain ⟨hs, hgd, hx, es, ep, vs, hdt, hsz, kv, hm⟩ := I1.frzK upd_same
  have hl : kvs.length = vs.length := Paired.length kv
  refine ⟨hm.dictOf.typeIs, hm.dictOf.mapOf.noDict, ?_⟩
  have I2 : Inv X pins σ (upd H1 d (.frz o (.dK kvs))) { s1 with heap := s1.heap.push { cls := .type "dict_values", data := .fields #[.ref d] } } := I1.kept (t' := s1.toks) fun b ob q => Heap.get?_push_of_some _ q
  have fin : wpAny (model X.prog X.w) X.A (pyIter (.ref s1.heap.objs.size)) (PIE X pins σ tg R) X.xe { s1 with heap := s1.heap.push { cls := .type "dict_values", data := .fields #[.ref d] } } := by
    refine wpAny_pyIter_values (d := d) (knd := mixKind X.prog X.w) ⟨_, Heap.get?_push_size _ rfl, rfl, rfl⟩ (hm.push _) (pi_one (tk := s1.toks) I2 _ (turn_vals _ hdt) ⟨_, Heap.get?_push_size _ rfl, rfl, ?_⟩ (q o))
    rw [hl] <;> rfl
  show wpAny _ _ (callWith cpos (.builtin "dict.values") [.ref d] [] []) _ X.xe s1
  exact method_meetsIn PySem.F.slot_dict_values PySem.F.entry_dict_values rfl (PySem.evalArgs_none ⟨rfl, hm.dictOf.typeIs, PySem.F.args_dict_values_1 _, _, meets_dict_values (mixKind X.prog X.w) d hs, ⟨vs, hm.dictOf⟩, fin⟩)
end
section
variable {K : PySem.W.Frag}
/-- what slot i owns is given away: it stands fixed from here on -/
theorem Stt.give {Γ : Anc} {ρ : Ev} {fp : Nat → List Addr} {F H : Hp} {σ : L2.St} (t : Stt K Γ ρ fp F σ H) {i : Nat} {a : Addr} (o : HO) (ha : fp i = [a]) (hi : i < ρ.length) : Stt K Γ (ρ.set i none) (fset fp i []) (upd F a o) σ (upd H a o) := by
  obtain ⟨o1, o2, o3⟩ := t.own i a (by rw [ha]; simp)
  have nG : ∀ b u, ¬ Γ.S b → Γ.H b = some u → b ≠ a := fun b u h1 h2 z => by
    subst z
    rcases o3 with q | q
    · exact h1 q
    · rw [q] at h2; cases h2
  have na : ∀ j b, j ≠ i → b ∈ fp j → b ≠ a := fun j b hj hb z => by
    subst z
    exact t.sep i j b (Ne.symm hj) (by rw [ha]; simp) hb
  refine ⟨fun b u e => ?_, t.exF.trans (same_new o1), fun b u h1 h2 => ?_, fun b h => ?_, fun b h1 h2 h3 => ?_, ?_, fun j c e => ?_, fun j b hb => ?_, fun j k b hjk hj hk => ?_⟩
  · by_cases z : b = a
    · subst z
      rw [upd_same] at e ⊢
      exact e
    · rw [upd_ne z] at e ⊢
      exact t.ex b u e
  · rw [upd_ne (nG b u h1 h2)]
    exact t.exH b u h1 h2
  · by_cases z : b = a
    · rw [z, upd_same]; simp
    · rw [upd_ne z]; exact t.thr b h
  · cases q : Γ.H b with
    | none => exact absurd q h2
    | some u => rw [upd_ne (nG b u h3 q)]; exact t.fre b h1 h2 h3
  · rw [List.length_set]; exact t.len
  · by_cases h : i = j
    · subst h
      rw [List.getElem?_set_self hi] at e
      cases e
    · rw [List.getElem?_set_ne h] at e
      obtain ⟨v, h1, h2⟩ := t.cells j c e
      rw [fset_ne (Ne.symm h)]
      exact ⟨v, h1, cell_same (same_new o1) (fun b hb => upd_ne (na j b (Ne.symm h) hb)) h2⟩
  · by_cases h : j = i
    · subst h
      rw [fset_same] at hb
      cases hb
    · rw [fset_ne h] at hb
      obtain ⟨h1, h2, h3⟩ := t.own j b hb
      rw [upd_ne (na j b h hb), upd_ne (na j b h hb)]
      exact ⟨h1, h2, h3⟩
  · by_cases h : j = i
    · subst h
      rw [fset_same] at hj
      cases hj
    · by_cases h' : k = i
      · subst h'
        rw [fset_same] at hk
        cases hk
      · rw [fset_ne h] at hj
        rw [fset_ne h'] at hk
        exact t.sep j k b hjk hj hk
/-- .. of a thing that no slot holds -/
theorem Stt.frzNew {Γ : Anc} {ρ : Ev} {fp : Nat → List Addr} {F H : Hp} {σ : L2.St} (t : Stt K Γ ρ fp F σ H) {a : Addr} (o : HO) (hF : F a = none) (hG : Γ.H a = none) (hH : H a ≠ none) (hn : ∀ i, a ∉ fp i) : Stt K Γ ρ fp (upd F a o) σ (upd H a o) := by
  have na : ∀ j b, b ∈ fp j → b ≠ a := fun j b hb z => hn j (z ▸ hb)
  refine ⟨fun b u e => ?_, t.exF.trans (same_new hF), fun b u h1 h2 => ?_, fun b h => ?_, fun b h1 h2 h3 => ?_, t.len, fun j c e => ?_, fun j b hb => ?_, t.sep⟩
  · by_cases z : b = a
    · subst z
      rw [upd_same] at e ⊢
      exact e
    · rw [upd_ne z] at e ⊢
      exact t.ex b u e
  · rw [upd_ne (fun z => by subst z; rw [hG] at h2; cases h2)]
    exact t.exH b u h1 h2
  · by_cases z : b = a
    · rw [z, upd_same]; simp
    · rw [upd_ne z]; exact t.thr b h
  · rw [upd_ne (fun z => by subst z; exact h2 hG)]
    exact t.fre b h1 h2 h3
  · obtain ⟨v, h1, h2⟩ := t.cells j c e
    exact ⟨v, h1, cell_same (same_new hF) (fun b hb => upd_ne (na j b hb)) h2⟩
  · obtain ⟨h1, h2, h3⟩ := t.own j b hb
    rw [upd_ne (na j b hb), upd_ne (na j b hb)]
    exact ⟨h1, h2, h3⟩
end
end DL
end PartDN3
section PartDN4
set_option maxRecDepth 100000
set_option maxHeartbeats 2000000
/-! DN4: dicts with nested keys, the rules over data. -/
namespace DL
open PySem PySem.Spec PyProof.Rows L2
section
variable {K : PySem.W.Frag} {F : Hp}
def valE (xs : List En) (k : NK) : Option V := (xs.find? fun x => decide (x.1 = k)).map (·.2.2)
theorem valE_rel {k : NK} {xs : List En} {vs : List (NK × Addr × Value)} (h : Paired EnR xs vs) : RelO (valE xs k) ((atKey vs k).map (·.2)) := by
  induction h with
  | nil => exact True.intro
  | @cons x y xs vs a t ih =>
    by_cases e : x.1 = k
    · have e' : y.1 = k := a.1.symm.trans e
      have h1 : valE (x :: xs) k = some x.2.2 := by simp [valE, List.find?_cons, e]
      have h2 : atKey (y :: vs) k = some y.2 := by simp [atKey, List.find?_cons, e']
      rw [h1, h2]
      exact a.2.2
    · have e' : ¬ y.1 = k := fun z => e (a.1.trans z)
      have h1 : valE (x :: xs) k = valE xs k := by simp [valE, List.find?_cons, e]
      have h2 : atKey (y :: vs) k = atKey vs k := by simp [atKey, List.find?_cons, e']
      rw [h1, h2]
      exact ih
theorem KvN.valE {k : NK} : ∀ {xs : List En} {kvs : List (NK × D)}, KvN F xs kvs → (DL.valE xs k).isSome = (valD kvs k).isSome ∧ ∀ d, valD kvs k = some d → ∃ u, DL.valE xs k = some u ∧ Dq F u d
  | _, _, .nil => ⟨rfl, fun _ h => nomatch h⟩
  | x :: xs, q :: kvs, .cons a b => by
    obtain ⟨a1, _, _, a4⟩ := a
    by_cases e : q.1 = k
    · have e' : x.1 = k := a1.trans e
      have h1 : valD (q :: kvs) k = some q.2 := by simp [valD, List.find?_cons, e]
      have h2 : DL.valE (x :: xs) k = some x.2.2 := by simp [DL.valE, List.find?_cons, e']
      rw [h1, h2]
      exact ⟨rfl, fun d hd => by cases hd; exact ⟨_, rfl, a4⟩⟩
    · have e' : ¬ x.1 = k := fun z => e (a1.symm.trans z)
      have h1 : valD (q :: kvs) k = valD kvs k := by simp [valD, List.find?_cons, e]
      have h2 : DL.valE (x :: xs) k = DL.valE xs k := by simp [DL.valE, List.find?_cons, e']
      rw [h1, h2]
      exact KvN.valE b
theorem dq_tupRef {v : V} {ds : List D} (h : Dq F v (.tuple ds)) : ∃ b, v = .ref b := by
  cases h with
  | tup h1 h2 => exact ⟨_, rfl⟩
theorem nd_get {P : Program} {w : World} {Γ : Anc} {ρ : Ev} {fp : Nat → List Addr} {H : Hp} {σ : L2.St} (t : Stt K Γ ρ fp F σ H) {i : Nat} {kvs : List (NK × D)} (h : ρ[i]? = some (some (.cust (dnC P w kvs)))) {ks : List NK} {v : V} (r : Dq F v (NestedKey.tup ks).data) (kd : (NestedKey.tup ks).depth ≤ 8) :
    ∃ a o, σ[i]? = some (some (.ref a)) ∧ NGet P w H a v o ∧ o.isSome = (valD kvs (.tup ks)).isSome ∧ ∀ d, valD kvs (.tup ks) = some d → ∃ u, o = some u ∧ Dq F u d := by
  obtain ⟨w', hw, a, xs, hf, rfl, ha, hk⟩ := t.cells i _ h
  obtain ⟨b, rfl⟩ := dq_tupRef (show Dq F v (.tuple (NestedKey.datas ks)) from r)
  obtain ⟨h1, h2⟩ := KvN.valE (k := .tup ks) hk
  exact ⟨a, _, hw, ⟨F, xs, .tup ks, b, t.ex, ha, hk.keys, rfl, r, kd, fun vs rv => valE_rel rv⟩, h1, h2⟩
theorem nd_put {P : Program} {w : World} {Γ : Anc} {ρ : Ev} {fp : Nat → List Addr} {H : Hp} {σ : L2.St} (t : Stt K Γ ρ fp F σ H) {i : Nat} {kvs : List (NK × D)} (h : ρ[i]? = some (some (.cust (dnC P w kvs)))) {ks : List NK} {v u : V} {d : D} (r : Dq F v (NestedKey.tup ks).data) (kd : (NestedKey.tup ks).depth ≤ 8) (ru : Dq F u d) (hl : kvs.length < 1000000) :
    ∃ a H', σ[i]? = some (some (.ref a)) ∧ NPut P w H a v u H' ∧ Stt K Γ (ρ.set i (some (.cust (dnC P w (putD kvs (.tup ks) d))))) fp F σ H' := by
  obtain ⟨w', hw, a, xs, hf, rfl, ha, hk⟩ := t.cells i _ h
  have hi : i < ρ.length := (List.getElem?_eq_some_iff.mp h).1
  obtain ⟨b, rfl⟩ := dq_tupRef (show Dq F v (.tuple (NestedKey.datas ks)) from r)
  have el : xs.length = kvs.length := Paired.length hk
  exact ⟨a, _, hw, ⟨F, xs, .tup ks, b, t.ex, ha, hk.keys, rfl, r, kd, by omega, rfl⟩, t.write (c := .cust (dnC P w (putD kvs (.tup ks) d))) hf hw hi ⟨a, _, rfl, rfl, upd_same, KvN.put r kd ru hk⟩⟩
/-- slot i forgotten, with what it owns -/
theorem Stt.drop {Γ : Anc} {ρ : Ev} {fp : Nat → List Addr} {H : Hp} {σ : L2.St} (t : Stt K Γ ρ fp F σ H) (i : Nat) : Stt K Γ (ρ.set i none) (fset fp i []) F σ H := by
  refine ⟨t.ex, t.exF, t.exH, t.thr, t.fre, by rw [List.length_set]; exact t.len, fun j c e => ?_, fun j b hb => ?_, fun j k b hjk hj hk => ?_⟩
  · by_cases h : i = j
    · subst h
      by_cases hl : i < ρ.length
      · rw [List.getElem?_set_self hl] at e
        cases e
      · rw [List.getElem?_eq_none (by rw [List.length_set]; omega)] at e
        cases e
    · rw [List.getElem?_set_ne h] at e
      rw [fset_ne (Ne.symm h)]
      exact t.cells j c e
  · by_cases h : j = i
    · subst h
      rw [fset_same] at hb
      cases hb
    · rw [fset_ne h] at hb
      exact t.own j b hb
  · by_cases h : j = i
    · subst h
      rw [fset_same] at hj
      cases hj
    · by_cases h' : k = i
      · subst h'
        rw [fset_same] at hk
        cases hk
      · rw [fset_ne h] at hj
        rw [fset_ne h'] at hk
        exact t.sep j k b hjk hj hk
/-- a new thing that no slot holds yet is written -/
theorem Stt.wrNew {Γ : Anc} {ρ : Ev} {fp : Nat → List Addr} {H : Hp} {σ : L2.St} (t : Stt K Γ ρ fp F σ H) {a : Addr} (o : HO) (hF : F a = none) (hG : Γ.H a = none) (hn : ∀ i, a ∉ fp i) : Stt K Γ ρ fp F σ (upd H a o) := by
  have na : ∀ j b, b ∈ fp j → b ≠ a := fun j b hb z => hn j (z ▸ hb)
  refine ⟨fun b u e => ?_, t.exF, fun b u h1 h2 => ?_, fun b h => ?_, t.fre, t.len, fun j c e => ?_, fun j b hb => ?_, t.sep⟩
  · rw [upd_ne (fun z => by subst z; rw [hF] at e; cases e)]
    exact t.ex b u e
  · rw [upd_ne (fun z => by subst z; rw [hG] at h2; cases h2)]
    exact t.exH b u h1 h2
  · by_cases z : b = a
    · rw [z, upd_same]; simp
    · rw [upd_ne z]; exact t.thr b h
  · obtain ⟨v, h1, h2⟩ := t.cells j c e
    exact ⟨v, h1, cell_same (Same.refl _) (fun b hb => upd_ne (na j b hb)) h2⟩
  · obtain ⟨h1, h2, h3⟩ := t.own j b hb
    rw [upd_ne (na j b hb)]
    exact ⟨h1, h2, h3⟩
end
section
variable {X : Cx} {ρ : Ev} {pos p : Pos} {a b e f : Expr} {x y : Str} {Q : P → Ev → Prop} {Qc : Cell → Ev → Prop} {R : Rt} {k : Nat}
/-- {} -/
theorem ec_nnew (q : Qc (.cust (dnC X.prog X.w [])) ρ) : EC X (.Dict [] [] pos) ρ Qc := fun Γ fp F σ H Φ t kk pins s I => pe_nnew.run pins s σ H Φ I fun d hd => by
  obtain ⟨t2, n1, n2, n3⟩ := en_fin t hd (DNO X.prog X.w d [])
  exact kk (.ref d) F _ (.cust (dnC X.prog X.w [])) [d] ρ fp t2 (Same.refl _) ⟨d, [], rfl, rfl, upd_same, .nil⟩ (fun b hb => by
    have e : b = d := by simpa using hb
    subst e
    exact ⟨n1, by rw [upd_same]; simp, n2⟩) (fun b hb => by
    have e : b = d := by simpa using hb
    subst e
    exact n3) q
/-- {k: v} -/
theorem ec_ndisp (hr : Room k X.A) (h : EV X a ρ fun y ρ1 => EV X b ρ1 fun z ρ2 => ∃ ks d, y = .d (NestedKey.tup ks).data ∧ (NestedKey.tup ks).depth ≤ 8 ∧ z = .d d ∧ Qc (.cust (dnC X.prog X.w [(.tup ks, d)])) ρ2) : EC X (.Dict [some a] [b] pos) ρ Qc := fun Γ fp F σ H Φ t kk pins s I =>
  (pe_ndisp (un9 hr) pe_w pe_w).run pins s σ H Φ I fun d hd => by
  obtain ⟨t2, n1, n2, n3⟩ := en_fin t hd (DNO X.prog X.w d [])
  refine h _ fp F σ _ _ t2.here fun v F1 H1 y ρ1 fp1 t1 f1 r1 h1 => ?_
  obtain ⟨m1, m2, m3⟩ := t1.kept upd_same n1 n3
  refine h1 _ fp1 F1 σ H1 _ t1.here fun u F2 H2 z ρ2 fp2 u2 f2 r2 ⟨ks, dd, ey, kd, ez, q⟩ => ?_
  obtain ⟨l1, l2, l3⟩ := u2.kept m1 m2 m3
  subst ey ez
  have r1' : Dq F2 v (NestedKey.tup ks).data := rep_same (K := X.K) f2 r1
  obtain ⟨bb, rfl⟩ := dq_tupRef (show Dq F2 v (.tuple (NestedKey.datas ks)) from r1')
  refine ⟨l1, F2, .tup ks, bb, u2.ex, rfl, r1', kd, ?_⟩
  have T2 := t2.back (t1.back u2)
  refine kk (.ref d) F2 _ (.cust (dnC X.prog X.w [(.tup ks, dd)])) [d] ρ2 fp2 (T2.wrNew (DNO X.prog X.w d [(.tup ks, bb, u)]) l2 n2 l3) (f1.trans f2) ⟨d, _, rfl, rfl, upd_same, .cons ⟨rfl, r1', kd, r2⟩ .nil⟩ (fun b hb => ?_) (fun b hb => ?_) q
  · have e : b = d := by simpa using hb
    subst e
    exact ⟨l2, by rw [upd_same]; simp, n2⟩
  · have e : b = d := by simpa using hb
    subst e
    exact l3
/-- x = {k: v} (the elaborator is slow where a display stands: give no argument, let all be goals) -/
theorem ss_ndisp (i : Nat) {p1 dpos : Pos} (hN : X.N.Nodup) (hr : Room k X.A) (h : EV X a ρ fun y ρ1 => EV X b ρ1 fun z ρ2 => ∃ ks d, y = .d (NestedKey.tup ks).data ∧ (NestedKey.tup ks).depth ≤ 8 ∧ z = .d d ∧ R.nx (ρ2.set i (some (.cust (dnC X.prog X.w [(.tup ks, d)])))))
    (hi : X.N[i]? = some x := by rfl) (hx : Loc X.env.scope x := by first | exact Or.inl rfl | exact Or.inr rfl) (hs : swapsWith (.Dict [some a] [b] dpos) (some (.Name x p1)) pos.line X.env = pure false := by rfl)
    (hf : X.fn x = true ∨ X.env.scope.names.lookup x = some .local := by first | exact .inl rfl | exact .inr rfl) : SS X (.Assign [.Name x p1] (.Dict [some a] [b] dpos) pos) ρ R :=
  ss_set i (ec_ndisp hr h) hN hi hx hs hf
section
variable (i : Nat) {p1 : Pos}
theorem nin_read {Γ : Anc} {fp : Nat → List Addr} {F H : Hp} {σ : L2.St} {Φ : VK} (t : Stt X.K Γ ρ fp F σ H) (h : EV X e ρ fun y ρ1 => ∃ kvs ks, ρ1[i]? = some (some (.cust (dnC X.prog X.w kvs))) ∧ y = .d (NestedKey.tup ks).data ∧ (NestedKey.tup ks).depth ≤ 8 ∧ Q (.d (.bool (valD kvs (.tup ks)).isSome)) ρ1)
    (kk : ∀ v F' H' p ρ' fp', Stt X.K Γ ρ' fp' F' σ H' → Same F F' → Rep X.K F' v p → Q p ρ' → Φ v H') : tNIn X.prog X.w (wE X e) (tVar i) σ H Φ :=
  h Γ fp F σ H _ t fun v F1 H1 y ρ1 fp1 t1 f1 r1 ⟨kvs, ks, h1, ey, kd, q⟩ => by
    subst ey
    obtain ⟨a, ov, g1, g2, g3, g4⟩ := nd_get t1 h1 r1 kd
    refine ⟨.ref a, g1, a, ov, rfl, g2, ?_⟩
    rw [g3]
    exact kk _ F1 H1 _ ρ1 fp1 t1 f1 rpB q
theorem nni_read {Γ : Anc} {fp : Nat → List Addr} {F H : Hp} {σ : L2.St} {Φ : VK} (t : Stt X.K Γ ρ fp F σ H) (h : EV X e ρ fun y ρ1 => ∃ kvs ks, ρ1[i]? = some (some (.cust (dnC X.prog X.w kvs))) ∧ y = .d (NestedKey.tup ks).data ∧ (NestedKey.tup ks).depth ≤ 8 ∧ Q (.d (.bool (!(valD kvs (.tup ks)).isSome))) ρ1)
    (kk : ∀ v F' H' p ρ' fp', Stt X.K Γ ρ' fp' F' σ H' → Same F F' → Rep X.K F' v p → Q p ρ' → Φ v H') : tNNotIn X.prog X.w (wE X e) (tVar i) σ H Φ :=
  h Γ fp F σ H _ t fun v F1 H1 y ρ1 fp1 t1 f1 r1 ⟨kvs, ks, h1, ey, kd, q⟩ => by
    subst ey
    obtain ⟨a, ov, g1, g2, g3, g4⟩ := nd_get t1 h1 r1 kd
    refine ⟨.ref a, g1, a, ov, rfl, g2, ?_⟩
    rw [g3]
    exact kk _ F1 H1 _ ρ1 fp1 t1 f1 rpB q
theorem et_nin {Qb : Bool → Ev → Prop} (hr : Room k X.A) (h : EV X e ρ fun y ρ1 => ∃ kvs ks, ρ1[i]? = some (some (.cust (dnC X.prog X.w kvs))) ∧ y = .d (NestedKey.tup ks).data ∧ (NestedKey.tup ks).depth ≤ 8 ∧ Qb (valD kvs (.tup ks)).isSome ρ1)
    (hN : X.N[i]? = some x := by rfl) (hv : Vis X.env.scope x := by first | exact Or.inl rfl | exact Or.inr (Or.inl rfl) | exact Or.inr (Or.inr rfl)) (hd : (x == ("__debug__" : Str)) = false := by decide) (hcd : (x == ("__classdict__" : Str)) = false := by decide)
    (hm : behindInMarks .In (.Name x p1) = false := by rfl) : ET X (.Compare e [.In] [.Name x p1] pos) ρ Qb := fun Γ fp F σ H Φ t kk pins s I =>
  (pt_cmp (pc_nin (un9 hr) pe_w (pe_var hN hv hd hcd)) hm).run pins s σ H Φ I (nin_read (Q := fun z ρ1 => ∃ c, z = .d (.bool c) ∧ Qb c ρ1) i t (h.mono fun y ρ1 ⟨kvs, ks, h1, h2, kd, q⟩ => ⟨kvs, ks, h1, h2, kd, _, rfl, q⟩) fun v F' H' p ρ' fp' t' f r ⟨c, ez, q⟩ => by
    subst ez
    exact ⟨c, rep_bool r, kk c F' H' ρ' fp' t' f q⟩)
theorem et_nnin {Qb : Bool → Ev → Prop} (hr : Room k X.A) (h : EV X e ρ fun y ρ1 => ∃ kvs ks, ρ1[i]? = some (some (.cust (dnC X.prog X.w kvs))) ∧ y = .d (NestedKey.tup ks).data ∧ (NestedKey.tup ks).depth ≤ 8 ∧ Qb (!(valD kvs (.tup ks)).isSome) ρ1)
    (hN : X.N[i]? = some x := by rfl) (hv : Vis X.env.scope x := by first | exact Or.inl rfl | exact Or.inr (Or.inl rfl) | exact Or.inr (Or.inr rfl)) (hd : (x == ("__debug__" : Str)) = false := by decide) (hcd : (x == ("__classdict__" : Str)) = false := by decide)
    (hm : behindInMarks .NotIn (.Name x p1) = false := by rfl) : ET X (.Compare e [.NotIn] [.Name x p1] pos) ρ Qb := fun Γ fp F σ H Φ t kk pins s I =>
  (pt_cmp (pc_nnotin (un9 hr) pe_w (pe_var hN hv hd hcd)) hm).run pins s σ H Φ I (nni_read (Q := fun z ρ1 => ∃ c, z = .d (.bool c) ∧ Qb c ρ1) i t (h.mono fun y ρ1 ⟨kvs, ks, h1, h2, kd, q⟩ => ⟨kvs, ks, h1, h2, kd, _, rfl, q⟩) fun v F' H' p ρ' fp' t' f r ⟨c, ez, q⟩ => by
    subst ez
    exact ⟨c, rep_bool r, kk c F' H' ρ' fp' t' f q⟩)
/-- x[e] -/
theorem ev_nget {kvs0 : List (NK × D)} (hr : Room k X.A) (h : EV X e ρ fun y ρ1 => ∃ kvs ks d, ρ1[i]? = some (some (.cust (dnC X.prog X.w kvs))) ∧ y = .d (NestedKey.tup ks).data ∧ (NestedKey.tup ks).depth ≤ 8 ∧ valD kvs (.tup ks) = some d ∧ Q (.d d) ρ1) (h0 : ρ[i]? = some (some (.cust (dnC X.prog X.w kvs0))) := by rfl)
    (hN : X.N[i]? = some x := by rfl) (hv : Vis X.env.scope x := by first | exact Or.inl rfl | exact Or.inr (Or.inl rfl) | exact Or.inr (Or.inr rfl)) (hd : (x == ("__debug__" : Str)) = false := by decide) (hcd : (x == ("__classdict__" : Str)) = false := by decide)
    (hs : NoSl e := by exact fun _ _ => rfl) : EV X (.Subscript (.Name x p1) e pos) ρ Q := fun Γ fp F σ H Φ t kk pins s I => by
  obtain ⟨w, hw, _⟩ := t.cells i _ h0
  refine (pe_nget (un9 hr) (pe_var hN hv hd hcd) pe_w hs).run pins s σ H Φ I ⟨w, hw, h Γ fp F σ H _ t fun v F1 H1 y ρ1 fp1 t1 f1 r1 ⟨kvs, ks, d, h1, ey, kd, hd2, q⟩ => ?_⟩
  subst ey
  obtain ⟨a, ov, g1, g2, g3, g4⟩ := nd_get t1 h1 r1 kd
  rw [hw] at g1
  cases g1
  obtain ⟨u, rfl, hu⟩ := g4 d hd2
  exact ⟨a, u, rfl, g2, kk u F1 H1 (.d d) ρ1 fp1 t1 f1 hu q⟩
/-- x.get(e, f) -/
theorem ev_nget2 {kvs0 : List (NK × D)} {apos cpos : Pos} (hr : Room k X.A) (h : EV X e ρ fun y ρ1 => EV X f ρ1 fun z ρ2 => ∃ kvs ks d, ρ2[i]? = some (some (.cust (dnC X.prog X.w kvs))) ∧ y = .d (NestedKey.tup ks).data ∧ (NestedKey.tup ks).depth ≤ 8 ∧ z = .d d ∧ Q (.d ((valD kvs (.tup ks)).getD d)) ρ2) (h0 : ρ[i]? = some (some (.cust (dnC X.prog X.w kvs0))) := by rfl)
    (hN : X.N[i]? = some x := by rfl) (hv : Vis X.env.scope x := by first | exact Or.inl rfl | exact Or.inr (Or.inl rfl) | exact Or.inr (Or.inr rfl)) (hd : (x == ("__debug__" : Str)) = false := by decide) (hcd : (x == ("__classdict__" : Str)) = false := by decide)
    (m : M2 X (.Name x p1) "get" apos e f cpos := by exact ⟨rfl, rfl, rfl, rfl⟩) : EV X (.Call (.Attribute (.Name x p1) "get" apos) [e, f] [] cpos) ρ Q := fun Γ fp F σ H Φ t kk pins s I => by
  obtain ⟨w, hw, a0, xs0, _, rfl, ha0, _⟩ := t.cells i _ h0
  refine (pe_nget2 (un9 hr) (pe_var hN hv hd hcd) pe_w pe_w m).run pins s σ H Φ I ⟨.ref a0, hw, a0, rfl, ⟨xs0, ha0⟩, h Γ fp F σ H _ t fun v F1 H1 y ρ1 fp1 t1 f1 r1 h1 => h1 Γ fp1 F1 σ H1 _ t1 fun u F2 H2 z ρ2 fp2 t2 f2 r2 ⟨kvs, ks, d, h2, ey, kd, ez, q⟩ => ?_⟩
  subst ey ez
  obtain ⟨a, ov, g1, g2, g3, g4⟩ := nd_get t2 h2 (rep_same (K := X.K) f2 r1) kd
  rw [hw] at g1
  cases g1
  refine ⟨ov, g2, kk _ F2 H2 _ ρ2 fp2 t2 (f1.trans f2) ?_ q⟩
  cases c : valD kvs (.tup ks) with
  | none =>
    rw [c] at g3
    cases ov with
    | some _ => cases g3
    | none => exact r2
  | some d' =>
    obtain ⟨u', rfl, hu⟩ := g4 d' c
    exact hu
/-- x[e] = v -/
theorem ss_nput {v : Expr} {pos' : Pos} {kvs0 : List (NK × D)} (hr : Room k X.A) (h : EV X v ρ fun z ρ1 => ρ1[i]? = some (some (.cust (dnC X.prog X.w kvs0))) ∧ EV X e ρ1 fun y ρ2 => ∃ kvs ks d, z = .d d ∧ ρ2[i]? = some (some (.cust (dnC X.prog X.w kvs))) ∧ y = .d (NestedKey.tup ks).data ∧ (NestedKey.tup ks).depth ≤ 8 ∧ kvs.length < 1000000 ∧ R.nx (ρ2.set i (some (.cust (dnC X.prog X.w (putD kvs (.tup ks) d))))))
    (hN : X.N[i]? = some x := by rfl) (hv : Vis X.env.scope x := by first | exact Or.inl rfl | exact Or.inr (Or.inl rfl) | exact Or.inr (Or.inr rfl)) (hd : (x == ("__debug__" : Str)) = false := by decide) (hcd : (x == ("__classdict__" : Str)) = false := by decide)
    (hs : swapsWith v (some (.Subscript (.Name x p1) e pos')) pos.line X.env = pure false := by rfl) : SS X (.Assign [.Subscript (.Name x p1) e pos'] v pos) ρ R := fun Γ fp F σ H Dd t kk pins s I => by
  refine (ps_nput (un9 hr) (pe_var hN hv hd hcd) pe_w pe_w hs).run pins s σ H Dd I (h Γ fp F σ H _ t fun u F1 H1 z ρ1 fp1 t1 f1 r1 ⟨hc, h1⟩ => ?_)
  obtain ⟨w, hw, _⟩ := t1.cells i _ hc
  refine ⟨w, hw, h1 Γ fp1 F1 σ H1 _ t1 fun v2 F2 H2 y ρ2 fp2 t2 f2 r2 ⟨kvs, ks, d, ez, g2, ey, kd, hl, q⟩ => ?_⟩
  subst ez ey
  obtain ⟨a, H3, k1, k2, t3⟩ := nd_put t2 g2 r2 kd (rep_same (K := X.K) f2 r1) hl
  rw [hw] at k1
  cases k1
  exact ⟨a, H3, rfl, k2, kk.nx _ fp2 F2 σ H3 t3 q⟩
/-- what items() gives -/
def itemN (q : NK × D) : D := .tuple [q.1.data, q.2]
theorem KvN.at : ∀ {F : Hp} {xs : List En} {kvs : List (NK × D)} {i : Nat} {z : En}, KvN F xs kvs → xs[i]? = some z → ∃ q, kvs[i]? = some q ∧ Dq F (.ref z.2.1) q.1.data ∧ Dq F z.2.2 q.2
  | _, _, _, _, _, .nil, e => by simp at e
  | _, _, _, 0, _, .cons a _, e => by
    simp at e
    subst e
    exact ⟨_, rfl, by rw [← a.1]; exact a.2.1, a.2.2.2⟩
  | _, _, _, i + 1, _, .cons _ b, e => by
    obtain ⟨q, h1, h2⟩ := KvN.at (i := i) b (by simpa using e)
    exact ⟨q, by simpa using h1, h2⟩
theorem ie_itemsN {elts : List Expr} {kk : Nat} {tpos apos cpos : Pos} {kvs : List (NK × D)} {Qi : List D → Ev → Prop} (q : Qi (kvs.map itemN) (ρ.set i none)) (h0 : ρ[i]? = some (some (.cust (dnC X.prog X.w kvs))) := by rfl)
    (hN : X.N[i]? = some x := by rfl) (hv : Vis X.env.scope x := by first | exact Or.inl rfl | exact Or.inr (Or.inl rfl) | exact Or.inr (Or.inr rfl)) (hd : (x == ("__debug__" : Str)) = false := by decide) (hcd : (x == ("__classdict__" : Str)) = false := by decide)
    (hbase : attributeBase (.Name x p1) "items" X.env (eval (.Name x p1) X.env) = eval (.Name x p1) X.env := by rfl) (hline : (apos.endLine == cpos.line) = true := by rfl) : IE X (.Tuple elts kk tpos) (.Call (.Attribute (.Name x p1) "items" apos) [] [] cpos) ρ Qi := fun Γ fp F σ H R t kk pins s I => by
  obtain ⟨w, hw, a, xs, hf, rfl, ha, hk⟩ := t.cells i _ h0
  have hi : i < ρ.length := (List.getElem?_eq_some_iff.mp h0).1
  refine (pi_itemsN (pe_var hN hv hd hcd) hbase hline).run pins s σ H R I ⟨.ref a, hw, a, xs, rfl, ha, fun o => ?_⟩
  have t1 := t.give (.frz o (DNO X.prog X.w a xs)) hf hi
  have sm : Same F (upd F a (.frz o (DNO X.prog X.w a xs))) := same_new (t.own i a (by rw [hf]; simp)).1
  have el : xs.length = kvs.length := Paired.length hk
  refine kk (ItN X.prog X.w a o xs) (kvs.map itemN) (fun H => H a = some (.frz o (DNO X.prog X.w a xs))) (fun i H x H' => ∃ T y, xs[i]? = some y ∧ x = .ref T ∧ H T = none ∧ H' = upd H T (.tup [.ref y.2.1, y.2.2])) _ _ _ _ t1 sm ?_ (fun F2 H2 e1 e2 => e2 _ _ (e1 _ _ upd_same)) (fun j F2 H2 v H3 hj e1 e2 y => ?_) q
  · rw [List.length_map, ← el]
    exact ⟨fun i H h1 h2 => ⟨h2, h1⟩, fun H h => ⟨h, Nat.le_refl _⟩, fun i H x H' _ _ y => y⟩
  · obtain ⟨T, y, hy, rfl, hT, h3⟩ := y
    obtain ⟨qq, hq, r1, r2⟩ := hk.at hy
    have s2 := sm.trans e1
    obtain ⟨F3, g, r3⟩ := pair_dq e2 hT h3 (dp_same s2 r1) (dp_same s2 r2)
    exact ⟨F3, _, g, by rw [List.getElem?_map, hq]; rfl, r3⟩
/-- list(x.values()) -/
theorem KvN.vals : ∀ {F : Hp} {xs : List En} {kvs : List (NK × D)}, KvN F xs kvs → DqAll F (xs.map (·.2.2)) (kvs.map (·.2))
  | _, _, _, .nil => .nil
  | _, _, _, .cons a b => .cons a.2.2.2 (KvN.vals b)
theorem en_nvals {apos cpos : Pos} {kvs : List (NK × D)} {Qn : List D → Ev → Prop} (hr : Room k X.A) (hm : X.mg "list" = none) (q : Qn (kvs.map (·.2)) ρ) (h0 : ρ[i]? = some (some (.cust (dnC X.prog X.w kvs))) := by rfl) (hg : Gl X "list" := by rfl)
    (hN : X.N[i]? = some x := by rfl) (hv : Vis X.env.scope x := by first | exact Or.inl rfl | exact Or.inr (Or.inl rfl) | exact Or.inr (Or.inr rfl)) (hd : (x == ("__debug__" : Str)) = false := by decide) (hcd : (x == ("__classdict__" : Str)) = false := by decide)
    (hbase : attributeBase (.Name x p1) "values" X.env (eval (.Name x p1) X.env) = eval (.Name x p1) X.env := by rfl) (hline : (apos.endLine == cpos.line) = true := by rfl)
    (hs : starEach [.Call (.Attribute (.Name x p1) "values" apos) [] [] cpos] X.env = (false, eval (.Call (.Attribute (.Name x p1) "values" apos) [] [] cpos) X.env) :: starEach [] X.env := by rfl) :
    EN X (.Call (.Name "list" p) [.Call (.Attribute (.Name x p1) "values" apos) [] [] cpos] [] pos) ρ Qn := fun Γ fp F σ H Φ t kk pins s I => by
  obtain ⟨w, hw, a, xs, hf, rfl, ha, hk⟩ := t.cells i _ h0
  refine (pe_nvals (pe_var hN hv hd hcd) hr.hd hm hg hbase hline hs).run pins s σ H Φ I ⟨.ref a, hw, a, xs, rfl, ha, fun l hl => ?_⟩
  obtain ⟨t2, n1, n2, n3⟩ := en_fin t hl (.lst (xs.map (·.2.2)))
  exact kk l _ F _ _ ρ fp t2 (Same.refl _) n1 upd_same hk.vals n2 n3 q
end
/-- x = y, the thing that y owns goes over -/
theorem ss_mv (i j : Nat) {p1 p2 : Pos} {c : Cell} (hN : X.N.Nodup) (q : R.nx ((ρ.set j none).set i (some c))) (h0 : ρ[j]? = some (some c) := by rfl) (hi : X.N[i]? = some x := by rfl) (hj : X.N[j]? = some y := by rfl) (hx : Loc X.env.scope x := by first | exact Or.inl rfl | exact Or.inr rfl)
    (hv : Vis X.env.scope y := by first | exact Or.inl rfl | exact Or.inr (Or.inl rfl) | exact Or.inr (Or.inr rfl)) (hd : (y == ("__debug__" : Str)) = false := by decide) (hcd : (y == ("__classdict__" : Str)) = false := by decide)
    (hs : swapsWith (.Name y p2) (some (.Name x p1)) pos.line X.env = pure false := by rfl)
    (hf : X.fn x = true ∨ X.env.scope.names.lookup x = some .local := by first | exact .inl rfl | exact .inr rfl) : SS X (.Assign [.Name x p1] (.Name y p2) pos) ρ R := fun Γ fp F σ H D t k pins s I => by
  obtain ⟨w, hw, hc⟩ := t.cells j c h0
  refine (ps_set hN hi hx (pe_var hj hv hd hcd) hs hf).run pins s σ H D I ⟨w, hw, ?_⟩
  refine k.nx _ _ F _ H ((t.drop j).set (i := i) (as := fp j) hc (fun a ha => t.own j a ha) fun a ha l hl => ?_) q
  by_cases z : l = j
  · subst z
    rw [fset_same] at hl
    cases hl
  · rw [fset_ne z] at hl
    exact t.sep j l a (Ne.symm z) ha hl
end
end DL
end PartDN4
section PartDN5
set_option maxRecDepth 100000
set_option maxHeartbeats 2000000
/-! DN5: defs that give back a thing of the caller's own. -/
namespace DL
open PySem PySem.Spec PyProof.Rows L2
/-- a cell at just this value -/
def atC (K : PySem.W.Frag) (u : V) (c : Cell) : CRel where
  ok := fun F H v as => v = u ∧ CellOk K F H v c as
  st := fun e k h => ⟨h.1, cell_same e k h.2⟩
abbrev WpC := List P → (Cell → Prop) → Prop
def spC (K : PySem.W.Frag) (w : WpC) : Sp := fun vs H Φ _ => ∃ (F : Hp) (ps : List P) (Ψ : Cell → Prop), Same F H ∧ Reps K F vs ps ∧ w ps Ψ ∧
  ∀ v F' H' c as, Gr F H F' H' → CellOk K F' H' v c as → (∀ a ∈ as, F' a = none ∧ H' a ≠ none ∧ H a = none) → Ψ c → Φ v H'
/-- what such a def's statements end with -/
def RtC (K : PySem.W.Frag) (Ψ : Cell → Prop) : Rt := ⟨fun _ => False, fun p ρ => ∃ (i : Nat) (u : V) (c : Cell), p = .raw u ∧ ρ[i]? = some (some (.cust (atC K u c))) ∧ Ψ c, fun _ => False, fun _ => False, fun _ => False⟩
section
variable {P : Program} {w : World} {K : PySem.W.Frag} {mg : Str → Option Value} {base : Heap}
theorem fnC {x qual : Str} {st : Stmt} {f : Addr} {fd : FuncData} {N ps : List Str} {k : Nat} {wp : WpC} (F : Fun K x qual st f fd) (S : FnScope N ps (defScope st)) (len : ∀ as Ψ, wp as Ψ → as.length = ps.length)
    (body : ∀ (cdv : Value) (A : Around) (outer : List Env) (s : Shared) (H : Hp) (E : XK) (as : List DL.P) (Ψ : Cell → Prop), Room k (BX P w K mg base N qual (defScope st) f cdv A outer s H E).A → wp as Ψ →
      SSs (BX P w K mg base N qual (defScope st) f cdv A outer s H E) (defBody st) (st0 N as) (RtC K Ψ)) : FnOk P w K mg base CX0 (k + 1) f fd ps (spC K wp) := by
  refine F.ok S (fun vs H Q E ⟨F0, as, Ψ, s, r, h, _⟩ => by rw [Paired.length r]; exact len as Ψ h) (fun cdv A outer s H vs Φ E hr ⟨F0, as, Ψ, sm, r, h, kk⟩ => ⟨_, pss_w, ?_⟩)
  refine body cdv A outer s H E as Ψ hr h _ _ F0 _ H _ (stt_start sm r fun _ => False) ⟨fun _ _ _ _ _ _ q => q.elim, fun v p ρ' fp' F' σ' H' t rp q => ?_, fun _ _ _ _ _ _ q => q, fun _ _ _ _ _ _ q => q, fun _ _ _ _ _ _ _ _ _ _ q => q.elim⟩
  obtain ⟨i, u, c, rfl, hi, q⟩ := q
  have ev : v = u := rp
  obtain ⟨v', _, e1, e2⟩ := t.cells i _ hi
  rw [e1] at e2
  rw [ev]
  refine kk u F' H' c (fp' i) ⟨t.exF, t.ex, fun a o e => t.exH a o (fun z => z) e, fun a n1 n2 => t.fre a n1 n2 fun z => z⟩ e2 (fun a ha => ?_) q
  obtain ⟨h1, h2, h3⟩ := t.own i a ha
  exact ⟨h1, h2, h3.resolve_left fun z => z⟩
end
section
variable {X : Cx} {ρ : Ev} {pos p : Pos} {a b e : Expr} {es : List Expr} {x : Str} {R : Rt} {Qc : Cell → Ev → Prop}
/-- return x, a thing of one's own -/
theorem ss_retOwn (i : Nat) {p1 : Pos} {c : Cell} (q : ∀ u, R.rt (.raw u) (ρ.set i (some (.cust (atC X.K u c))))) (h0 : ρ[i]? = some (some c) := by rfl) (hN : X.N[i]? = some x := by rfl) (hv : Vis X.env.scope x := by first | exact Or.inl rfl | exact Or.inr (Or.inl rfl) | exact Or.inr (Or.inr rfl))
    (hd : (x == ("__debug__" : Str)) = false := by decide) (hcd : (x == ("__classdict__" : Str)) = false := by decide) : SS X (.Return (some (.Name x p1)) pos) ρ R := fun Γ fp F σ H D t k pins s I => by
  obtain ⟨v, hv1, hc⟩ := t.cells i c h0
  have hi : i < ρ.length := (List.getElem?_eq_some_iff.mp h0).1
  refine (ps_ret (pe_var hN hv hd hcd)).run pins s σ H D I ⟨v, hv1, ?_⟩
  refine k.rt v (.raw v) _ fp F σ H ⟨t.ex, t.exF, t.exH, t.thr, t.fre, by rw [List.length_set]; exact t.len, fun j c' e => ?_, t.own, t.sep⟩ rfl (q v)
  by_cases h : i = j
  · subst h
    rw [List.getElem?_set_self hi] at e
    cases e
    exact ⟨v, hv1, rfl, hc⟩
  · rw [List.getElem?_set_ne h] at e
    exact t.cells j c' e
/-- return e, e new -/
theorem ss_retC (i : Nat) (h : EC X e ρ fun c ρ1 => ∀ u, R.rt (.raw u) (ρ1.set i (some (.cust (atC X.K u c))))) : SS X (.Return (some e) pos) ρ R := fun Γ fp F σ H D t k pins s I =>
  (ps_ret pe_w).run pins s σ H D I (h Γ fp F σ H _ t fun v F' H' c as ρ' fp' t' f r o n q => k.rt v (.raw v) _ _ F' _ H' (t'.set (i := i) (c := .cust (atC X.K v c)) (v := v) (as := as) ⟨rfl, r⟩ (fun a ha => ⟨(o a ha).1, (o a ha).2.1, .inr (o a ha).2.2⟩) n) rfl (q v))
/-- f(..), f gives back a thing of one's own -/
theorem ec_callC {k : Nat} {ps : List Str} {w : WpC} (D : DefOk X.prog X.w X.K X.mg X.base CX0 x k ps (spC X.K w)) (hr : Room k X.A) (h : EA X (e :: es) ρ fun as ρ1 => w as fun c => Qc c ρ1) (hg : Gl X x := by rfl)
    (hdb : (x == ("__debug__" : Str)) = false := by decide) (he : starEach (e :: es) X.env = (false, eval e X.env) :: starEach es X.env := by rfl) (hpl : (backTo pos (starEach es X.env)).any (·.1) = false := by rfl) : EC X (.Call (.Name x p) (e :: es) [] pos) ρ Qc := fun Γ fp F σ H Φ t k pins s I => by
  obtain ⟨f, fd, hm, hk, hb, G⟩ := D
  refine (pe_call G hr hg hm hk hb .nil pass0 pa_w hdb he hpl).run pins s σ H Φ I (h Γ fp F σ H _ t fun vs F1 H1 as ρ1 fp1 t1 f1 r1 q => ?_)
  show spC X.K w (vs ++ []) H1 Φ E0
  rw [List.append_nil]
  refine ⟨F1, as, _, t1.ex, r1, q, fun v F2 H2 c as2 g r2 o2 q2 => k v F2 H2 c as2 ρ1 fp1 (t1.grow g) (f1.trans g.f) r2 (fun a ha => ⟨(o2 a ha).1, (o2 a ha).2.1, ?_⟩) (fun a ha j hj => (t1.own j a hj).2.1 (o2 a ha).2.2) q2⟩
  cases qq : Γ.H a with
  | none => rfl
  | some ob => exact absurd (o2 a ha).2.2 (t1.thr a (by rw [qq]; simp))
/-- for .. in e.values(), e a dict of one's own -/
theorem ie_valsC {tg : Expr} {apos cpos : Pos} {Qi : List D → Ev → Prop} (h : EC X e ρ fun c ρ1 => ∃ kvs, c = .dk kvs ∧ Qi (kvs.map (·.2)) ρ1) (hbase : attributeBase e "values" X.env (eval e X.env) = eval e X.env := by rfl) (hline : (apos.endLine == cpos.line) = true := by rfl) :
    IE X tg (.Call (.Attribute e "values" apos) [] [] cpos) ρ Qi := fun Γ fp F σ H R t kk pins s I =>
  (pi_valuesL pe_w hbase hline).run pins s σ H R I (h Γ fp F σ H _ t fun v F' H' c as ρ' fp' t' f r o n ⟨kvs, ec, q⟩ => by
    subst ec
    obtain ⟨a, ws, rfl, rfl, ha, hk⟩ := r
    obtain ⟨o1, o2, o3⟩ := o a (by simp)
    refine ⟨a, ws, rfl, ha, fun ob => ?_⟩
    have t2 := t'.frzNew (.frz ob (.dK ws)) o1 o3 o2 (fun j => n a (by simp) j)
    have sm : Same F' (upd F' a (.frz ob (.dK ws))) := same_new o1
    have el : ws.length = kvs.length := hk.len
    refine kk (Itd a ob ws) (kvs.map (·.2)) (fun H => H a = some (.frz ob (.dK ws))) (fun i H x H' => H' = H ∧ ∃ k, ws[i]? = some (k, x)) _ _ _ _ t2 (f.trans sm) ?_ (fun F2 H2 e1 e2 => e2 _ _ (e1 _ _ upd_same)) (fun j F2 H2 v H3 hj e1 e2 y => ?_) q
    · rw [List.length_map, ← el]
      exact ⟨fun i H h1 h2 => ⟨h2, h1⟩, fun H h => ⟨h, Nat.le_refl _⟩, fun i H x H' _ _ y => y⟩
    · obtain ⟨rfl, k, hy⟩ := y
      have key : ∀ {ws : List (Key × V)} {kvs : List (Key × D)} {i : Nat} {k : Key} {v : V}, KvOk X.K F' ws kvs → ws[i]? = some (k, v) → ∃ d, (kvs.map (·.2))[i]? = some d ∧ Dq F' v d := by
        intro ws
        induction ws with
        | nil => intro kvs i k v _ e; simp at e
        | cons p ws ih =>
          intro kvs i k v hk e
          cases hk with
          | @cons a b as bs r rr =>
            cases i with
            | zero =>
              simp at e
              subst e
              exact ⟨_, rfl, r.2⟩
            | succ i => exact ih (i := i) rr (by simpa using e)
      obtain ⟨d, h1, h2⟩ := key hk hy
      exact ⟨F2, d, Gr.refl e2, h1, dp_same (sm.trans e1) h2⟩)
end
end DL
end PartDN5
section PartDN6
set_option maxRecDepth 100000
set_option maxHeartbeats 2000000
/-! DN6: a list of lists, all one's own. -/
namespace DL
open PySem PySem.Spec PyProof.Rows L2
def RowIs (F H : Hp) (r : Addr) (ds : List D) : Prop := ∃ vs, H r = some (.lst vs) ∧ DqAll F vs ds
theorem RowIs.same {F F' H H' : Hp} {r : Addr} {ds : List D} (e : Same F F') (k : H' r = H r) (h : RowIs F H r ds) : RowIs F' H' r ds := let ⟨vs, h1, h2⟩ := h; ⟨vs, k.trans h1, dpAll_same e h2⟩
theorem rows_same {F F' H H' : Hp} (e : Same F F') : ∀ {rs : List Addr} {m : List (List D)}, (∀ r ∈ rs, H' r = H r) → Paired (RowIs F H) rs m → Paired (RowIs F' H') rs m
  | _, _, _, .nil => .nil
  | _, _, k, .cons a b => .cons (a.same e (k _ List.mem_cons_self)) (rows_same e (fun r hr => k r (List.mem_cons_of_mem _ hr)) b)
/-- the cell -/
def rowsC (m : List (List D)) : CRel where
  ok := fun F H v as => ∃ a rs, as = a :: rs ∧ v = .ref a ∧ H a = some (.lst (rs.map V.ref)) ∧ a ∉ rs ∧ rs.Nodup ∧ Paired (RowIs F H) rs m
  st := fun e k h => by
    obtain ⟨a, rs, rfl, h2, h3, h4, h5, h6⟩ := h
    exact ⟨a, rs, rfl, h2, (k a List.mem_cons_self).trans h3, h4, h5, rows_same e (fun r hr => k r (List.mem_cons_of_mem _ hr)) h6⟩
theorem get_list {X : Cx} : PGet X (rIxL X.K) := by
  intro pins s σ H x y v u Q I rx ry h
  obtain ⟨p, xs, i, z, rfl, rfl, hq, he, q⟩ := h
  cases rx
  obtain ⟨t, rfl⟩ := ry
  obtain ⟨its, r, pl, hz⟩ := I.list hq
  obtain ⟨j, h1, h2, h3, h4, h5⟩ := atI_get he
  obtain ⟨w, ew, rw'⟩ := r.get h2
  have hl := r.length
  have hn := line63
  have fin : EP X pins σ Q w s := ⟨z, H, I, rw', q⟩
  by_cases h0 : 0 ≤ i
  · have hj : i.toNat = j := by
      rw [seqIndex_of h0 h5] at h1
      exact Option.some.inj h1
    exact wpAny_getItem_list pl.isList h0 (by omega) (by rw [hj]; simpa using ew) fin
  · have hj : (i + (its.toArray.size : Int)).toNat = j := by
      rw [seqIndex_neg (by omega) h4] at h1
      rw [List.size_toArray, ← hl]
      exact Option.some.inj h1
    exact wpAny_getItem_list_neg pl.isList (by omega) (by rw [List.size_toArray] <;> omega) (by omega) (by rw [hj]; simpa using ew) fin
theorem paired_at {α β : Type} {G : α → β → Prop} : ∀ {l₁ : List α} {l₂ : List β} {i : Nat} {b : β}, Paired G l₁ l₂ → l₂[i]? = some b → ∃ a, l₁[i]? = some a ∧ G a b
  | _, _, _, _, .nil, e => by simp at e
  | _, _, 0, _, .cons r _, e => by
    simp at e
    subst e
    exact ⟨_, rfl, r⟩
  | _, _, i + 1, _, .cons _ t, e => by
    obtain ⟨a, h1, h2⟩ := paired_at (i := i) t (by simpa using e)
    exact ⟨a, by simpa using h1, h2⟩
theorem paired_set {α β : Type} {G : α → β → Prop} : ∀ {l₁ : List α} {l₂ : List β} {i : Nat} {b : β}, Paired G l₁ l₂ → (∀ a, l₁[i]? = some a → G a b) → Paired G l₁ (l₂.set i b)
  | _, _, _, _, .nil, _ => .nil
  | _, _, 0, _, .cons r t, h => .cons (h _ rfl) t
  | _, _, i + 1, _, .cons r t, h => .cons r (paired_set (i := i) t fun a e => h a (by simpa using e))
section
variable {K : PySem.W.Frag}
theorem Stt.wrRow {Γ : Anc} {ρ : Ev} {fp : Nat → List Addr} {F H : Hp} {σ : L2.St} (t : Stt K Γ ρ fp F σ H) {i : Nat} {m : List (List D)} (h : ρ[i]? = some (some (.cust (rowsC m)))) {f : Nat} {row : List D} (hf : m[f]? = some row) :
    ∃ (a : Addr) (rs : List Addr) (r : Addr) (vs : List V), σ[i]? = some (some (.ref a)) ∧ H a = some (.lst (rs.map V.ref)) ∧ rs[f]? = some r ∧ H r = some (.lst vs) ∧ DqAll F vs row ∧ ∀ vs' row', DqAll F vs' row' → Stt K Γ (ρ.set i (some (.cust (rowsC (m.set f row'))))) fp F σ (upd H r (.lst vs')) := by
  obtain ⟨v, hv, a, rs, has, rfl, ha, hn, hd, hp⟩ := t.cells i _ h
  have hi : i < ρ.length := (List.getElem?_eq_some_iff.mp h).1
  obtain ⟨r, hr, vs, hvs, dvs⟩ := paired_at hp hf
  have hrm : r ∈ rs := List.mem_of_getElem? hr
  refine ⟨a, rs, r, vs, hv, ha, hr, hvs, dvs, fun vs' row' dq => ?_⟩
  have hmem : r ∈ fp i := by rw [has]; exact List.mem_cons_of_mem _ hrm
  obtain ⟨o1, o2, o3⟩ := t.own i r hmem
  have na : ∀ j b, j ≠ i → b ∈ fp j → b ≠ r := fun j b hj hb z => by
    subst z
    exact t.sep i j b (Ne.symm hj) hmem hb
  refine ⟨fun b u e => ?_, t.exF, fun b u h1 h2 => ?_, fun b hb => ?_, t.fre, by rw [List.length_set]; exact t.len, fun j c e => ?_, fun j b hb => ?_, t.sep⟩
  · rw [upd_ne (fun z => by subst z; rw [o1] at e; cases e)]
    exact t.ex b u e
  · rw [upd_ne (fun z => by
      subst z
      rcases o3 with q | q
      · exact h1 q
      · rw [q] at h2; cases h2)]
    exact t.exH b u h1 h2
  · by_cases z : b = r
    · rw [z, upd_same]; simp
    · rw [upd_ne z]; exact t.thr b hb
  · by_cases hij : i = j
    · subst hij
      rw [List.getElem?_set_self hi] at e
      cases e
      refine ⟨.ref a, hv, a, rs, has, rfl, (upd_ne fun z => hn (by rw [z]; exact hrm)).trans ha, hn, hd, ?_⟩
      have key : ∀ {rs : List Addr} {m : List (List D)} {f : Nat}, rs.Nodup → rs[f]? = some r → Paired (RowIs F H) rs m → Paired (RowIs F (upd H r (.lst vs'))) rs (m.set f row') := by
        intro rs
        induction rs with
        | nil => intro m f _ e _; simp at e
        | cons r0 rs ih =>
          intro m f nd e p
          obtain ⟨n1, n2⟩ := List.nodup_cons.mp nd
          cases p with
          | @cons _ b0 _ bs g gs =>
            cases f with
            | zero =>
              simp at e
              subst e
              exact .cons ⟨vs', upd_same, dq⟩ (rows_same (Same.refl _) (fun x hx => upd_ne fun z => n1 (z ▸ hx)) gs)
            | succ f =>
              have e' : rs[f]? = some r := by simpa using e
              have hx : r ∈ rs := List.mem_of_getElem? e'
              exact .cons (g.same (Same.refl _) (upd_ne fun z => n1 (z ▸ hx))) (ih n2 e' gs)
      exact key hd hr hp
    · rw [List.getElem?_set_ne hij] at e
      obtain ⟨w, h1, h2⟩ := t.cells j c e
      exact ⟨w, h1, cell_same (Same.refl _) (fun b hb => upd_ne (na j b (Ne.symm hij) hb)) h2⟩
  · obtain ⟨h1, h2, h3⟩ := t.own j b hb
    refine ⟨h1, ?_, h3⟩
    by_cases z : b = r
    · rw [z, upd_same]; simp
    · rw [upd_ne z]; exact h2
end
section
variable {X : Cx} {ρ : Ev} {pos p : Pos} {R : Rt}
theorem atI_of {α : Type} {xs : List α} {i : Nat} {z : α} (h : xs[i]? = some z) : atI xs (i : Nat) = some z := by
  have hi := (List.getElem?_eq_some_iff.mp h).1
  unfold atI ixN
  rw [if_pos (by omega), if_pos (by omega)]
  exact h
/-- x[y][z] += n -/
theorem ss_rowInc (i j l : Nat) {x y z : Str} {px py pz tp1 tp2 np : Pos} {nk : Nat} {c : Int} {m : List (List D)} {f g : Nat} {row : List D} {n : Int} (hx : ρ[i]? = some (some (.cust (rowsC m)))) (hy : ρ[j]? = some (some (.p (.d (.int (f : Nat)))))) (hz : ρ[l]? = some (some (.p (.d (.int (g : Nat))))))
    (hf : m[f]? = some row) (hg : row[g]? = some (.int n)) (q : R.nx (ρ.set i (some (.cust (rowsC (m.set f (row.set g (.int (n + c)))))))))
    (hN : X.N[i]? = some x := by rfl) (hN2 : X.N[j]? = some y := by rfl) (hN3 : X.N[l]? = some z := by rfl) (hv : Vis X.env.scope x := by first | exact Or.inl rfl | exact Or.inr (Or.inl rfl) | exact Or.inr (Or.inr rfl))
    (hv2 : Vis X.env.scope y := by first | exact Or.inl rfl | exact Or.inr (Or.inl rfl) | exact Or.inr (Or.inr rfl)) (hv3 : Vis X.env.scope z := by first | exact Or.inl rfl | exact Or.inr (Or.inl rfl) | exact Or.inr (Or.inr rfl))
    (d1 : (x == ("__debug__" : Str)) = false := by decide) (d2 : (x == ("__classdict__" : Str)) = false := by decide) (d3 : (y == ("__debug__" : Str)) = false := by decide) (d4 : (y == ("__classdict__" : Str)) = false := by decide) (d5 : (z == ("__debug__" : Str)) = false := by decide) (d6 : (z == ("__classdict__" : Str)) = false := by decide) :
    SS X (.AugAssign (.Subscript (.Subscript (.Name x px) (.Name y py) tp1) (.Name z pz) tp2) .Add (.Constant (.int c) nk np) pos) ρ R := fun Γ fp F σ H Dd t k pins s I => by
  obtain ⟨a, rs, r, vs, hs, ha, hr, hrv, dq, put⟩ := t.wrRow hx hf
  obtain ⟨vy, hsy, ry⟩ := t.cells j _ hy
  obtain ⟨vz, hsz, rz⟩ := t.cells l _ hz
  have ey := rep_int (K := X.K) ry
  have ez := rep_int (K := X.K) rz
  obtain ⟨u, hu, du⟩ := dq.get hg
  cases du
  refine (ps_augS (pe_ix ix_list (pe_var hN hv d1 d2) (pe_var hN2 hv2 d3 d4) (fun _ _ => rfl)) (pe_var hN3 hv3 d5 d6) get_list pe_int ip_add set_list).run pins s σ H Dd I ⟨.ref a, hs, vy, hsy, a, rs.map V.ref, (f : Nat), .ref r, rfl, ey, SqL.of ha, atI_of (by rw [List.getElem?_map, hr]; rfl), vz, hsz, r, vs, (g : Nat), .int n, rfl, ez, SqL.of hrv, atI_of hu, n, c, rfl, rfl, r, vs, (g : Nat), g, rfl, ez, hrv, ?_, ?_⟩
  · have hg' := (List.getElem?_eq_some_iff.mp hu).1
    unfold ixN
    rw [if_pos (by omega), if_pos (by omega)]
    simp
  · refine k.nx _ fp F σ _ (put (vs.set g (.int (n + c))) (row.set g (.int (n + c))) ?_) q
    have key : ∀ {vs : List V} {ds : List D} {g : Nat}, DqAll F vs ds → DqAll F (vs.set g (.int (n + c))) (ds.set g (.int (n + c))) := by
      intro vs
      induction vs with
      | nil => intro ds g h; cases h; exact .nil
      | cons v vs ih =>
        intro ds g h
        cases h with
        | cons a b =>
          cases g with
          | zero => exact .cons (.int _) b
          | succ g => exact .cons a (ih b)
    exact key dq
end
end DL
end PartDN6
section PartDN7
set_option maxRecDepth 100000
set_option maxHeartbeats 2000000
/-! DN7: a list of lists is made; it becomes data. -/
namespace DL
open PySem PySem.Spec PyProof.Rows L2
theorem paired_rep {α β : Type} {G : α → β → Prop} {b : β} : ∀ {l : List α}, (∀ a ∈ l, G a b) → Paired G l (List.replicate l.length b)
  | [], _ => .nil
  | a :: l, h => .cons (h a List.mem_cons_self) (paired_rep fun x hx => h x (List.mem_cons_of_mem _ hx))
section
variable {X : Cx} {ρ : Ev} {pos : Pos}
/-- [[..] for .. in ..], the inner list new at each turn -/
theorem rows_read {Qc : Cell → Ev → Prop} {elt tg iter : Expr} {scope : Scope} {ix : List Nat} (own : List (Str × Nat)) (zs : List D)
    (h : IE X tg iter ρ fun items ρ1 => forget ρ1 (own.map (·.2)) = ρ1 ∧ items.length ≤ 100000 ∧ (∀ x ∈ items, ∀ B, GB (Bx X scope B) tg ix x ρ1 fun ρ2 => ∀ B, EN (Bx X scope B) elt ρ2 fun ds ρ4 => ρ4 = ρ2 ∧ ds = zs) ∧ Qc (.cust (rowsC (List.replicate items.length zs))) ρ1)
    (hix : ∀ i ∈ ix, i ∈ own.map (·.2)) (Γ : Anc) (fp : Nat → List Addr) (F : Hp) (σ : L2.St) (H : Hp) (Φ : VK) (t : Stt X.K Γ ρ fp F σ H)
    (k : ∀ v F' H' c as ρ' fp', Stt X.K Γ ρ' fp' F' σ H' → Same F F' → CellOk X.K F' H' v c as → (∀ a ∈ as, F' a = none ∧ H' a ≠ none ∧ Γ.H a = none) → (∀ a ∈ as, ∀ j, a ∉ fp' j) → Qc c ρ' → Φ v H') : tLc (wI X tg iter) (bG X scope tg) (bTs X scope []) (bE X scope elt) (own.map (·.2)) σ H Φ := by
  refine h Γ fp F σ H _ t fun J items G Y F1 H1 ρ1 fp1 t1 f1 w hG hY ⟨hfg, hlen, turn, q⟩ => fun p hp => ?_
  obtain ⟨t2, n1, n2, n3⟩ := en_fin t1 hp (.lst [])
  refine lc_it w (fun i H' => ∃ F' rs fp', Stt X.K Γ ρ1 fp' F' σ H' ∧ Same F1 F' ∧ F' p = none ∧ H' p = some (.lst (rs.map V.ref)) ∧ (∀ j, p ∉ fp' j) ∧ rs.length = i ∧ p ∉ rs ∧ rs.Nodup ∧ ∀ r ∈ rs, F' r = none ∧ Γ.H r = none ∧ (∀ j, r ∉ fp' j) ∧ RowIs F' H' r zs)
    ⟨F1, [], fp1, t2, Same.refl _, n1, upd_same, n3, rfl, fun h => (nomatch h), List.nodup_nil, fun r h => (nomatch h)⟩ (fun i H' _ ⟨F', rs, fp', t', e', _⟩ => hG F' H' e' t'.ex) ?_ ?_
  · rintro i v H2 H3 hi ⟨F2, rs, fp2, t3, e2, m1, m2, m4, m5, m6, m7, m8⟩ y
    obtain ⟨F3, d, g, hd, hv⟩ := hY i F2 H2 v H3 hi e2 t3.ex y
    have t4 := t3.grow g
    have m2' := g.h _ _ m2
    have m1' := g.n p m1 (by rw [m2]; simp)
    have t5 : Stt X.K (Here fp2 F3 H3) ρ1 fp2 F3 (wipe σ (own.map (·.2))) H3 := by
      have q := t4.here.wipe (own.map (·.2))
      rw [hfg] at q
      exact q
    intro B
    refine turn d (List.mem_of_getElem? hd) B _ fp2 F3 _ H3 v _ t5 hv fun σ2 ρ2 fp3 t6 u6 w6 h6 => ⟨u6.wipe hix, fun B => ?_⟩
    refine (ets_nil (X := Bx X scope B) (ρ := ρ2) (Q := fun b ρ3 => b = true ∧ ρ3 = ρ2) ⟨rfl, rfl⟩) _ fp3 F3 σ2 H3 _ t6 fun b F4 H4 ρ3 fp4 t7 f7 ⟨eb, e3⟩ => ?_
    subst eb e3
    refine iteT fun B => h6 B _ fp4 F4 σ2 H4 _ t7 fun a vs F5 H5 ds ρ4 fp5 t9 f9 a1 a2 a3 a4 a5 ⟨e4, e5⟩ => ?_
    subst e4 e5
    have a4' : H3 a = none := a4
    have k0 := t9.kept m2' m1' m4
    obtain ⟨k1, k2, k3⟩ := k0
    have t8 : Stt X.K Γ ρ1 fp5 F5 σ H5 := by
      refine (t4.back t9).weak t4.len fun j c e => ?_
      have nj : j ∉ own.map (·.2) := fun z => noForget hfg z e
      have ni : j ∉ ix := fun z => nj (hix j z)
      exact ⟨by rw [w6.2 j ni]; exact e, by rw [u6.2 j ni, wipe_get nj]⟩
    have ap : a ≠ p := fun z => by rw [z, m2'] at a4'; cases a4'
    have old : ∀ r ∈ rs, H3 r ≠ none ∧ H5 r = H3 r ∧ F5 r = none ∧ ∀ j, r ∉ fp5 j := fun r hr => by
      obtain ⟨r1, r2, r3, vs', r4, r5⟩ := m8 r hr
      have h3 := g.h _ _ r4
      have f3 := g.n r r1 (by rw [r4]; simp)
      obtain ⟨l1, l2, l3⟩ := t9.kept h3 f3 r3
      exact ⟨by rw [h3]; simp, by rw [l1, h3], l2, l3⟩
    have ar : a ∉ rs := fun hr => (old a hr).1 a4'
    have aG : Γ.H a = none := by
      cases qq : Γ.H a with
      | none => rfl
      | some ob => exact absurd a4' (t4.thr a (by rw [qq]; simp))
    have ee := ((e2.trans g.f).trans f7).trans f9
    refine ⟨rs.map V.ref, k1, by rw [List.length_map]; exact small5' (by omega), F5, rs ++ [a], fp5, t8.poke k2 n2 k3, ee, k2, by rw [upd_same, List.map_append]; rfl, k3, by rw [List.length_append, List.length_singleton, m5], ?_, ?_, fun r hr => ?_⟩
    · intro z
      rcases List.mem_append.mp z with z | z
      · exact m6 z
      · have z' : p = a := by simpa using z
        exact ap z'.symm
    · rw [List.nodup_append]
      exact ⟨m7, by simp, fun x hx y hy => by
        have : y = a := by simpa using hy
        subst this
        exact fun z => ar (z ▸ hx)⟩
    · rcases List.mem_append.mp hr with hr | hr
      · obtain ⟨l0, l1, l2, l3⟩ := old r hr
        obtain ⟨r1, r2, r3, vs', r4, r5⟩ := m8 r hr
        refine ⟨l2, r2, l3, vs', ?_, dpAll_same ((g.f.trans f7).trans f9) r5⟩
        have rp : r ≠ p := fun z => m6 (by rw [← z]; exact hr)
        rw [upd_ne rp, l1]
        exact g.h _ _ r4
      · have : r = a := by simpa using hr
        subst this
        exact ⟨a1, aG, a5, vs, by rw [upd_ne ap]; exact a2, a3⟩
  · rintro H2 ⟨F2, rs, fp2, t3, e2, m1, m2, m4, m5, m6, m7, m8⟩
    refine k (.ref p) F2 H2 (.cust (rowsC (List.replicate items.length zs))) (p :: rs) ρ1 fp2 t3 (f1.trans e2) ⟨p, rs, rfl, rfl, m2, m6, m7, ?_⟩ (fun b hb => ?_) (fun b hb => ?_) q
    · rw [← m5]
      exact paired_rep fun r hr => (m8 r hr).2.2.2
    · rcases List.mem_cons.mp hb with rfl | hb
      · exact ⟨m1, by rw [m2]; simp, n2⟩
      · obtain ⟨r1, r2, r3, vs', r4, r5⟩ := m8 b hb
        exact ⟨r1, by rw [r4]; simp, r2⟩
    · rcases List.mem_cons.mp hb with rfl | hb
      · exact m4
      · exact (m8 b hb).2.2.1
theorem ec_rows {Qc : Cell → Ev → Prop} {elt tg iter : Expr} {scope : Scope} {ix : List Nat} (own : List (Str × Nat)) (zs : List D) (hc : X.calm = true) (hN : X.N.Nodup)
    (h : IE X tg iter ρ fun items ρ1 => forget ρ1 (own.map (·.2)) = ρ1 ∧ items.length ≤ 100000 ∧ (∀ x ∈ items, ∀ B, GB (Bx X scope B) tg ix x ρ1 fun ρ2 => ∀ B, EN (Bx X scope B) elt ρ2 fun ds ρ4 => ρ4 = ρ2 ∧ ds = zs) ∧ Qc (.cust (rowsC (List.replicate items.length zs))) ρ1)
    (ok : BlkOk X.N X.env.scope scope own := by exact blkOk_by (by kernel_rfl)) (hix : ∀ i ∈ ix, i ∈ own.map (·.2) := by decide) (hs : ∀ x, foldedSetIterable iter X.env x = pure x := by intro _; rfl) : EC X (.ListComp elt [⟨tg, iter, [], 0⟩] scope pos) ρ Qc := fun Γ fp F σ H Φ t k pins s I =>
  (pe_lc (g := bG X scope tg) (tt := bTs X scope []) (te := bE X scope elt) hc hN pi_w ok (fun s H C cl fp => ⟨fun pins s1 σ H1 v u Q I r h => h ⟨s, H, C, cl, fp⟩ pins s1 u I r⟩) (fun s H C cl fp => ⟨fun pins s1 σ H1 Q I h => h ⟨s, H, C, cl, fp⟩ pins s1 I⟩)
    (fun s H C cl fp => ⟨fun pins s1 σ H1 Q I h => h ⟨s, H, C, cl, fp⟩ pins s1 I⟩) hs).run pins s σ H Φ I (rows_read own zs h hix Γ fp F σ H Φ t k)
/-- x = [[..] for ..] -/
theorem ss_setRows (i : Nat) {x : Str} {p1 cpos : Pos} {R : Rt} {elt tg iter : Expr} {scope : Scope} {ix : List Nat} (own : List (Str × Nat)) (zs : List D) (hc : X.calm = true) (hN : X.N.Nodup)
    (h : IE X tg iter ρ fun items ρ1 => forget ρ1 (own.map (·.2)) = ρ1 ∧ items.length ≤ 100000 ∧ (∀ x ∈ items, ∀ B, GB (Bx X scope B) tg ix x ρ1 fun ρ2 => ∀ B, EN (Bx X scope B) elt ρ2 fun ds ρ4 => ρ4 = ρ2 ∧ ds = zs) ∧ R.nx (ρ1.set i (some (.cust (rowsC (List.replicate items.length zs))))))
    (hi : X.N[i]? = some x := by rfl) (hyl : X.env.scope.names.lookup x = some .local := by rfl) (ok : BlkOk X.N X.env.scope scope own := by exact blkOk_by (by kernel_rfl)) (hix : ∀ i ∈ ix, i ∈ own.map (·.2) := by decide) (hs : ∀ x, foldedSetIterable iter X.env x = pure x := by intro _; rfl)
    (hsw : swapsWith (.ListComp elt [⟨tg, iter, [], 0⟩] scope cpos) (some (.Name x p1)) pos.line X.env = pure true := by exact sw_true rfl rfl rfl (by kernel_rfl)) : SS X (.Assign [.Name x p1] (.ListComp elt [⟨tg, iter, [], 0⟩] scope cpos) pos) ρ R := fun Γ fp F σ H Dd t k pins s I => by
  refine (ps_setLc (g := bG X scope tg) (tt := bTs X scope []) (te := bE X scope elt) hc hN hi hyl hsw pi_w ok (fun s H C cl fp => ⟨fun pins s1 σ H1 v u Q I r h => h ⟨s, H, C, cl, fp⟩ pins s1 u I r⟩) (fun s H C cl fp => ⟨fun pins s1 σ H1 Q I h => h ⟨s, H, C, cl, fp⟩ pins s1 I⟩)
    (fun s H C cl fp => ⟨fun pins s1 σ H1 Q I h => h ⟨s, H, C, cl, fp⟩ pins s1 I⟩) hs).run pins s σ H Dd I ?_
  exact rows_read (Qc := fun c ρ1 => R.nx (ρ1.set i (some c))) own zs h hix Γ fp F σ H _ t fun v F' H' c as ρ' fp' t' f r o n q => k.nx _ _ F' _ H' (t'.set (i := i) r (fun a ha => ⟨(o a ha).1, (o a ha).2.1, .inr (o a ha).2.2⟩) n) q
theorem freeze_rows {K : PySem.W.Frag} {Γ : Anc} {fp : Nat → List Addr} {H : Hp} {σ : L2.St} : ∀ {rs : List Addr} {m : List (List D)} {F : Hp}, Stt K Γ ρ fp F σ H → Paired (RowIs F H) rs m → rs.Nodup → (∀ r ∈ rs, F r = none ∧ (Γ.S r ∨ Γ.H r = none) ∧ ∀ j, r ∉ fp j) →
    ∃ F', Stt K Γ ρ fp F' σ H ∧ Same F F' ∧ DqAll F' (rs.map V.ref) (m.map PyData.list) ∧ ∀ b, b ∉ rs → F' b = F b
  | _, _, F, t, .nil, _, _ => ⟨F, t, Same.refl _, .nil, fun _ _ => rfl⟩
  | r :: rs, ds :: m, F, t, .cons a b, nd, hh => by
    obtain ⟨n1, n2⟩ := List.nodup_cons.mp nd
    obtain ⟨vs, a1, a2⟩ := a
    obtain ⟨h1, h2, h3⟩ := hh r List.mem_cons_self
    have t1 := t.freeze a1 h1 h2 h3
    have s1 : Same F (upd F r (.lst vs)) := same_new h1
    obtain ⟨F', t2, s2, d2, k2⟩ := freeze_rows t1 (rows_same s1 (fun _ _ => rfl) b) n2 fun x hx => by
      obtain ⟨g1, g2, g3⟩ := hh x (List.mem_cons_of_mem _ hx)
      have xr : x ≠ r := fun z => n1 (by rw [← z]; exact hx)
      exact ⟨(upd_ne xr).trans g1, g2, g3⟩
    refine ⟨F', t2, s1.trans s2, .cons (.lst (s2 _ _ upd_same) (dpAll_same (s1.trans s2) a2)) d2, fun x hx => ?_⟩
    have xr : x ≠ r := fun z => hx (by rw [z]; exact List.mem_cons_self)
    rw [k2 x (fun z => hx (List.mem_cons_of_mem _ z)), upd_ne xr]
/-- x, a list of lists, as data -/
theorem ev_rows (i : Nat) {x : Str} {p1 : Pos} {m : List (List D)} {Q : P → Ev → Prop} (q : Q (.d (.list (m.map PyData.list))) (ρ.set i none)) (h0 : ρ[i]? = some (some (.cust (rowsC m))) := by rfl) (hN : X.N[i]? = some x := by rfl) (hv : Vis X.env.scope x := by first | exact Or.inl rfl | exact Or.inr (Or.inl rfl) | exact Or.inr (Or.inr rfl))
    (hd : (x == ("__debug__" : Str)) = false := by decide) (hcd : (x == ("__classdict__" : Str)) = false := by decide) : EV X (.Name x p1) ρ Q := fun Γ fp F σ H Φ t k pins s I => by
  obtain ⟨v, hv1, a, rs, has, rfl, ha, hn, hnd, hp⟩ := t.cells i _ h0
  refine (pe_var hN hv hd hcd).run pins s σ H Φ I ⟨.ref a, hv1, ?_⟩
  have t1 := t.drop i
  have cond : ∀ r ∈ a :: rs, F r = none ∧ (Γ.S r ∨ Γ.H r = none) ∧ ∀ j, r ∉ fset fp i [] j := fun r hr => by
    have hm : r ∈ fp i := by rw [has]; exact hr
    obtain ⟨o1, o2, o3⟩ := t.own i r hm
    refine ⟨o1, o3, fun j hj => ?_⟩
    by_cases z : j = i
    · subst z
      rw [fset_same] at hj
      cases hj
    · rw [fset_ne z] at hj
      exact t.sep i j r (Ne.symm z) hm hj
  obtain ⟨F', t2, s2, d2, k2⟩ := freeze_rows t1 hp hnd fun r hr => cond r (List.mem_cons_of_mem _ hr)
  obtain ⟨c1, c2, c3⟩ := cond a List.mem_cons_self
  have fa : F' a = none := (k2 a hn).trans c1
  have t3 := t2.freeze ha fa c2 c3
  have s3 : Same F' (upd F' a (.lst (rs.map V.ref))) := same_new fa
  exact k (.ref a) _ H (.d (.list (m.map PyData.list))) _ _ t3 (s2.trans s3) (Dq.lst upd_same (dpAll_same s3 d2)) q
end
end DL
end PartDN7
section PartDN8
set_option maxRecDepth 100000
set_option maxHeartbeats 2000000
/-! DN8: list.index. -/
namespace DL
open PySem PySem.Spec PyProof.Rows L2
section
variable {X : Cx} {ρ : Ev} {a e : Expr} {Q : P → Ev → Prop}
theorem flat_ints (ns : List Int) : (ns.map V.int).all flatV = true := by
  rw [List.all_map, List.all_eq_true]
  intro n _
  rfl
/-- xs.index(m), ints -/
theorem ev_index {apos cpos : Pos} (h : EV X a ρ fun x ρ1 => ∃ ns : List Int, x = .d (.list (ns.map .int)) ∧ EV X e ρ1 fun y ρ2 => ∃ m : Int, y = .d (.int m) ∧ m ∈ ns ∧ ∀ j : Nat, ns[j]? = some m → Q (.d (.int (j : Nat))) ρ2)
    (hbase : attributeBase a "index" X.env (eval a X.env) = eval a X.env := by rfl)
    (hfew : ((backTo cpos (starEach [e] X.env)).all (fun x => !x.1) && (backToKw cpos (keywordEach [] X.env)).all (fun x => x.1.isSome)
      && decide ([e].length + ([] : List Keyword).length + (if ([] : List Keyword).isEmpty then 0 else 1) < 30)) = true := by rfl)
    (hline : (apos.endLine == cpos.line) = true := by rfl) (hs : starEach [e] X.env = (false, eval e X.env) :: starEach [] X.env := by rfl) (hplain : (backTo cpos (starEach [] X.env)).any (·.1) = false := by rfl) : EV X (.Call (.Attribute a "index" apos) [e] [] cpos) ρ Q := fun Γ fp F σ H Φ t k pins s I =>
  (pe_bm PySem.F.plainAttrs_list PySem.F.slot_list_index PySem.F.type_list_index mt_index pe_w (pa_cons pe_w pa_nil hs) hbase hfew hline hs hplain).run pins s σ H Φ I (h Γ fp F σ H _ t fun v F1 H1 x ρ1 fp1 t1 f1 r1 ⟨ns, ex, h1⟩ => by
    subst ex
    obtain ⟨a1, vs, rfl, s1, d1⟩ := rep_lst r1
    have ev := d1.toInts
    subst ev
    refine ⟨.inl ⟨rfl, _, t1.ex.seq s1⟩, h1 Γ fp1 F1 σ H1 _ t1 fun w F2 H2 y ρ2 fp2 t2 f2 r2 ⟨m, ey, hm, q⟩ => ?_⟩
    subst ey
    have ew := rep_int (K := X.K) r2
    subst ew
    have hl : ns.idxOf m < ns.length := List.idxOf_lt_length_of_mem hm
    have hg : ns[ns.idxOf m]? = some m := by rw [List.getElem?_eq_getElem hl, List.getElem_idxOf hl]
    refine ⟨a1, ns.map V.int, .int m, ns.idxOf m, .int m, rfl, rfl, t2.ex.seq (f2.seq s1), rfl, flat_ints ns, by rw [List.getElem?_map, hg]; rfl, by simp [eqV], fun i z hi hz => ?_, k _ F2 H2 _ ρ2 fp2 t2 (f1.trans f2) rpI (q _ hg)⟩
    rw [List.getElem?_map] at hz
    cases c : ns[i]? with
    | none => rw [c] at hz; cases hz
    | some n =>
      rw [c] at hz
      cases hz
      have : n ≠ m := fun e => by
        subst e
        have h2 := List.getElem?_eq_some_iff.mp c
        obtain ⟨h3, h4⟩ := h2
        have := List.not_of_lt_findIdx (p := (· == n)) (xs := ns) (i := i) hi
        simp [h4] at this
      simp [eqV, this])
end
end DL
end PartDN8
section PartDY1
set_option maxRecDepth 100000
set_option maxHeartbeats 2000000
/-! DY1: a yard is made. -/
namespace DL
open PySem PySem.Spec PyProof.Rows L2
/-- self, no field yet -/
def selfA (C x dx : Addr) : CRel where
  ok := fun F H v as => as = [x, dx] ∧ v = .ref x ∧ dx ≠ x ∧ H x = some (.ins C dx []) ∧ H dx = some (.own x)
  st := fun e k h => by
    obtain ⟨rfl, h2, h3, h4, h5⟩ := h
    exact ⟨rfl, h2, h3, (k x (by simp)).trans h4, (k dx (by simp)).trans h5⟩
/-- .. with its heights -/
def selfB (C x dx : Addr) (hs : List Int) : CRel where
  ok := fun F H v as => ∃ t, as = [x, dx] ∧ v = .ref x ∧ dx ≠ x ∧ H x = some (.ins C dx [("heights", .ref t)]) ∧ F t = some (.tup (hs.map V.int))
  st := fun e k h => by
    obtain ⟨t, rfl, h2, h3, h4, h5⟩ := h
    exact ⟨t, rfl, h2, h3, (k x (by simp)).trans h4, e _ _ h5⟩
abbrev WpY := List P → (List Int → Prop) → Prop
def spY (K : PySem.W.Frag) (C : Addr) (w : WpY) : Sp := fun vs H Φ _ => ∃ (F : Hp) (x dx : Addr) (vs' : List V) (ps : List P) (Ψ : List Int → Prop), vs = .ref x :: vs' ∧ Same F H ∧ F x = none ∧ F dx = none ∧ dx ≠ x ∧ H x = some (.ins C dx []) ∧ H dx = some (.own x) ∧ Reps K F vs' ps ∧ w ps Ψ ∧
  ∀ F' H' hs t, GrX x dx F H F' H' → H' x = some (.ins C dx [("heights", .ref t)]) → F' t = some (.tup (hs.map V.int)) → F' x = none → Ψ hs → Φ .non H'
section
variable {K : PySem.W.Frag}
/-- the cell of slot i is written at an address of its own -/
theorem Stt.wrAt {Γ : Anc} {ρ : Ev} {fp : Nat → List Addr} {F H : Hp} {σ : L2.St} (t : Stt K Γ ρ fp F σ H) {i : Nat} {a : Addr} {o : HO} {v : V} {c : Cell} (ha : a ∈ fp i) (hv : σ[i]? = some (some v)) (hi : i < ρ.length) (hc : CellOk K F (upd H a o) v c (fp i)) : Stt K Γ (ρ.set i (some c)) fp F σ (upd H a o) := by
  obtain ⟨o1, o2, o3⟩ := t.own i a ha
  have na : ∀ j b, j ≠ i → b ∈ fp j → b ≠ a := fun j b hj hb z => by
    subst z
    exact t.sep i j b (Ne.symm hj) ha hb
  refine ⟨fun b u e => ?_, t.exF, fun b u h1 h2 => ?_, fun b hb => ?_, t.fre, by rw [List.length_set]; exact t.len, fun j c e => ?_, fun j b hb => ?_, t.sep⟩
  · rw [upd_ne (fun z => by subst z; rw [o1] at e; cases e)]
    exact t.ex b u e
  · rw [upd_ne (fun z => by
      subst z
      rcases o3 with q | q
      · exact h1 q
      · rw [q] at h2; cases h2)]
    exact t.exH b u h1 h2
  · by_cases z : b = a
    · rw [z, upd_same]; simp
    · rw [upd_ne z]; exact t.thr b hb
  · by_cases hij : i = j
    · subst hij
      rw [List.getElem?_set_self hi] at e
      cases e
      exact ⟨v, hv, hc⟩
    · rw [List.getElem?_set_ne hij] at e
      obtain ⟨w, h1, h2⟩ := t.cells j c e
      exact ⟨w, h1, cell_same (Same.refl _) (fun b hb => upd_ne (na j b (Ne.symm hij) hb)) h2⟩
  · obtain ⟨h1, h2, h3⟩ := t.own j b hb
    refine ⟨h1, ?_, h3⟩
    by_cases z : b = a
    · rw [z, upd_same]; simp
    · rw [upd_ne z]; exact h2
/-- a def's entry, its first argument a thing of one's own that stands at two addresses -/
theorem stt_start2 {F H : Hp} {N : List Str} {vs : List V} {ps : List DL.P} {h c : Addr} {c0 : Cell} (s : Same F H) (r : Reps K F vs ps) (h1 : F h = none) (h2 : F c = none) (h3 : H h ≠ none) (h4 : H c ≠ none) (ok : CellOk K F H (.ref h) c0 [h, c])
    (hN : (V.ref h :: vs).length ≤ N.length) : Stt K ⟨F, H, fun a => a = h ∨ a = c⟩ (some c0 :: (ps.map (fun p => some (.p p)) ++ List.replicate (N.length - (ps.length + 1)) none)) (fun i => if i = 0 then [h, c] else []) F (start N (V.ref h :: vs)) H where
  ex := s
  exF := Same.refl _
  exH := fun _ _ _ h => h
  thr := fun _ h => h
  fre := fun _ h _ _ => h
  len := by
    unfold L2.start
    have hl := Paired.length r
    simp only [List.length_append, List.length_cons, List.length_map, List.length_replicate]
    omega
  cells := fun i cl e => by
    have hl := Paired.length r
    cases i with
    | zero =>
      have e' : some (some c0) = some (some cl) := e
      cases e'
      exact ⟨.ref h, rfl, ok⟩
    | succ i =>
      have e' : (ps.map (fun p => some (Cell.p p)) ++ List.replicate (N.length - (ps.length + 1)) none)[i]? = some (some cl) := by simpa using e
      by_cases hi : i < ps.length
      · rw [List.getElem?_append_left (by rw [List.length_map]; exact hi), List.getElem?_map] at e'
        cases q : ps[i]? with
        | none => rw [q] at e'; cases e'
        | some p =>
          rw [q] at e'
          cases e'
          obtain ⟨v, g1, g2⟩ := reps_get r q
          refine ⟨v, ?_, g2⟩
          unfold L2.start
          rw [List.getElem?_append_left (by rw [List.length_map, List.length_cons, hl]; omega), List.getElem?_map, List.getElem?_cons_succ, g1]
          rfl
      · rw [List.getElem?_append_right (by rw [List.length_map]; omega), List.getElem?_replicate] at e'
        split at e' <;> cases e'
  own := fun i a ha => by
    by_cases z : i = 0
    · simp only [z, if_true] at ha
      have ha' : a = h ∨ a = c := by simpa using ha
      rcases ha' with rfl | rfl
      · exact ⟨h1, h3, .inl (.inl rfl)⟩
      · exact ⟨h2, h4, .inl (.inr rfl)⟩
    · simp only [z, if_false] at ha
      cases ha
  sep := fun i j a hij ha hj => by
    by_cases z : i = 0
    · by_cases z' : j = 0
      · exact hij (z.trans z'.symm)
      · simp only [z', if_false] at hj
        cases hj
    · simp only [z, if_false] at ha
      cases ha
end
section
variable {P : Program} {w : World} {K : PySem.W.Frag} {mg : Str → Option Value} {base : Heap}
theorem fnY {x qual : Str} {st : Stmt} {f C : Addr} {fd : FuncData} {N ps : List Str} {k : Nat} {wp : WpY} (F : Fun K x qual st f fd) (S : FnScope N ps (defScope st)) (len : ∀ as Ψ, wp as Ψ → as.length + 1 = ps.length)
    (body : ∀ (cdv : Value) (A : Around) (outer : List Env) (s : Shared) (H : Hp) (E : XK) (as : List DL.P) (Ψ : List Int → Prop) (y dy : Addr), Room k (BX P w K mg base N qual (defScope st) f cdv A outer s H E).A → wp as Ψ →
      SSs (BX P w K mg base N qual (defScope st) f cdv A outer s H E) (defBody st) (some (.cust (selfA C y dy)) :: (as.map (fun p => some (.p p)) ++ List.replicate (N.length - (as.length + 1)) none))
        ⟨fun ρ => ∃ hs, ρ[0]? = some (some (.cust (selfB C y dy hs))) ∧ Ψ hs, fun _ _ => False, fun _ => False, fun _ => False, fun _ => False⟩) : FnOk P w K mg base CX0 (k + 1) f fd ps (spY K C wp) := by
  have ln : ∀ {vs' : List V} {as : List DL.P} {Ψ : List Int → Prop} {F0 : Hp} {h : Addr}, Reps K F0 vs' as → wp as Ψ → (V.ref h :: vs').length = ps.length := fun r h => by rw [List.length_cons, Paired.length r]; exact len _ _ h
  have hNp : ps.length ≤ N.length := by
    have e := S.pre
    have q := congrArg List.length e
    rw [List.length_take] at q
    omega
  refine F.ok S (fun vs H Q E ⟨F0, y, dy, vs', as, Ψ, ev, _, _, _, _, _, _, r, hw, _⟩ => by rw [ev]; exact ln r hw) (fun cdv A outer s H vs Φ E hr ⟨F0, y, dy, vs', as, Ψ, ev, sm, h1, h2, h3, h4, h5, r, hw, kk⟩ => ⟨_, pss_w, ?_⟩)
  subst ev
  refine body cdv A outer s H E as Ψ y dy hr hw _ _ F0 _ H _ (stt_start2 sm r h1 h2 (by rw [h4]; simp) (by rw [h5]; simp) ⟨rfl, rfl, h3, h4, h5⟩ (by rw [ln r hw]; exact hNp)) ⟨fun ρ' fp' F' σ' H' t ⟨hs, e, q⟩ => ?_, fun _ _ _ _ _ _ _ _ _ q => q.elim, fun _ _ _ _ _ _ q => q, fun _ _ _ _ _ _ q => q, fun _ _ _ _ _ _ _ _ _ _ q => q.elim⟩
  obtain ⟨v', _, t', has, _, hne, g1, g2⟩ := t.cells 0 _ e
  have o1 := t.own 0 y (by rw [has]; simp)
  have o2 := t.own 0 dy (by rw [has]; simp)
  refine kk F' H' hs t' ⟨t.exF, t.ex, fun a o n1 n2 e => t.exH a o (fun z => by rcases z with z | z; exact n1 z; exact n2 z) e, fun a n1 n2 => ?_⟩ g1 g2 o1.1 q
  by_cases z1 : a = y
  · rw [z1]; exact o1.1
  by_cases z2 : a = dy
  · rw [z2]; exact o2.1
  exact t.fre a n1 n2 fun z => by rcases z with z | z; exact z1 z; exact z2 z
end
section
variable {X : Cx} {ρ : Ev} {pos p : Pos} {e : Expr} {es : List Expr} {value : Expr} {x : Str} {R : Rt} {Q : P → Ev → Prop}
/-- self.heights = value -/
theorem ss_heights (i : Nat) {C y dy : Addr} {p1 pos' : Pos} (hc : Cls X.K C) (hna : NoAttr X.K C "heights") (h : EV X value ρ fun z ρ1 => ∃ hs : List Int, z = .d (.tuple (hs.map .int)) ∧ ρ1[i]? = some (some (.cust (selfA C y dy))) ∧ R.nx (ρ1.set i (some (.cust (selfB C y dy hs)))))
    (hN : X.N[i]? = some x := by rfl) (hv : Vis X.env.scope x := by first | exact Or.inl rfl | exact Or.inr (Or.inl rfl) | exact Or.inr (Or.inr rfl)) (hd : (x == ("__debug__" : Str)) = false := by decide) (hcd : (x == ("__classdict__" : Str)) = false := by decide)
    (hs : swapsWith value (some (.Attribute (.Name x p1) "heights" pos')) pos.line X.env = pure false := by rfl) : SS X (.Assign [.Attribute (.Name x p1) "heights" pos'] value pos) ρ R := fun Γ fp F σ H D t k pins s I =>
  (ps_fld (pe_var hN hv hd hcd) pe_w hs).run pins s σ H D I (h Γ fp F σ H _ t fun v F1 H1 z ρ1 fp1 t1 f1 r1 ⟨hs, ez, h1, q⟩ => by
    subst ez
    obtain ⟨w, hw, has, rfl, hne, g1, g2⟩ := t1.cells i _ h1
    obtain ⟨b, vs, rfl, hb, dd⟩ := rep_tupX r1
    have ev := dd.toInts
    subst ev
    have hi : i < ρ1.length := (List.getElem?_eq_some_iff.mp h1).1
    refine ⟨.ref y, hw, y, C, dy, [], rfl, g1, hc, hna, by decide, ?_⟩
    exact k.nx _ fp1 F1 σ _ (t1.wrAt (a := y) (c := .cust (selfB C y dy hs)) (by rw [has]; simp) hw hi ⟨b, has, rfl, hne, upd_same, hb⟩) q)
/-- a class that makes yards -/
structure YdOk (P : Program) (w : World) (K : PySem.W.Frag) (mg : Str → Option Value) (base : Heap) (x : Str) (k : Nat) (wp : WpY) : Prop where
  ex : ∃ (C f : Addr) (fd : FuncData) (ps : List Str), Mk K C f ∧ Cls K C ∧ NoAttr K C "heights" ∧ FnOk P w K mg base CX0 k f fd ps (spY K C wp) ∧ mg x = some (.ref C) ∧ Binds K fd ps []
/-- Yard(e, ..) -/
theorem ev_yard {k : Nat} {wp : WpY} (D : YdOk X.prog X.w X.K X.mg X.base x k wp) (hr : Room (k + 1) X.A) (h : EA X (e :: es) ρ fun as ρ1 => wp as fun hs => Q (.yd hs) ρ1) (hg : Gl X x := by rfl)
    (hdb : (x == ("__debug__" : Str)) = false := by decide) (he : starEach (e :: es) X.env = (false, eval e X.env) :: starEach es X.env := by rfl) (hpl : (backTo pos (starEach es X.env)).any (·.1) = false := by rfl) : EV X (.Call (.Name x p) (e :: es) [] pos) ρ Q := fun Γ fp F σ H Φ t k pins s I => by
  obtain ⟨C, f, fd, ps, M, hc, hna, G, hm, hb⟩ := D.ex
  refine (pe_make M G hr hg hm hb .nil pass0 pa_w hdb he hpl).run pins s σ H Φ I (h Γ fp F σ H _ t fun vs F1 H1 as ρ1 fp1 t1 f1 r1 q => ?_)
  intro y dy hy hdy hne
  rw [List.append_nil]
  have sm1 : Same H1 (upd H1 dy (.own y)) := same_new hdy
  have hy1 : (upd H1 dy (.own y)) y = none := (upd_ne (Ne.symm hne)).trans hy
  have sm2 : Same H1 (upd (upd H1 dy (.own y)) y (.ins C dy [])) := sm1.trans (same_new hy1)
  refine ⟨F1, y, dy, vs, as, _, rfl, t1.ex.trans sm2, none_of t1.ex hy, none_of t1.ex hdy, hne, upd_same, (upd_ne hne).trans upd_same, r1, q, fun F' H' hs tt g e1 e2 e3 q2 => ⟨rfl, ?_⟩⟩
  have gr : Gr F1 H1 (upd F' y (.ins C dy [("heights", .ref tt)])) H' := by
    refine ⟨g.f.trans (same_new e3), fun a u e => ?_, fun a u e => ?_, fun a n1 n2 => ?_⟩
    · by_cases z : a = y
      · subst z
        rw [upd_same] at e
        rw [e1]
        exact e
      · rw [upd_ne z] at e
        exact g.s a u e
    · have z1 : a ≠ y := fun z => by subst z; rw [hy] at e; cases e
      have z2 : a ≠ dy := fun z => by subst z; rw [hdy] at e; cases e
      exact g.h a u z1 z2 (sm2 a u e)
    · have z1 : a ≠ y := fun z => by subst z; exact n2 hy
      rw [upd_ne z1]
      exact g.n a n1 (some_ne sm2 n2)
  exact k (.ref y) _ H' (.yd hs) ρ1 fp1 (t1.grow gr) (f1.trans gr.f) ⟨y, C, dy, tt, rfl, upd_same, hc, hna, (same_new e3) _ _ e2⟩ q2
end
end DL
end PartDY1
section PartF1
set_option maxRecDepth 100000
set_option maxHeartbeats 2000000
namespace W63
open PySem PySem.Spec PyProof.Rows L2 DL
abbrev PW : Program := PySem.Challenge.pw_staysdeep_k63_whole_weaves_of_two_timeta
def top (i : Nat) : Stmt := PW.main.body.getD i (.Pass ⟨0, 0, 0, 0⟩)
/-- the constants of the text -/
structure Cn (mg : Str → Option Value) : Prop where
  letters : ∃ t, mg "LETTERS" = some (.str "abcdefghijklmnopqrstuvwxyz" t)
  longest : ∃ t, mg "LONGEST" = some (.int 8 t)
  fewest : ∃ t, mg "FEWEST" = some (.int 3 t)
  most : ∃ t, mg "MOST" = some (.int 12 t)
section
variable {P : Program} {w : World} {K : PySem.W.Frag} {mg : Str → Option Value} {base : Heap} {f : Addr} {fd : FuncData}
/-! ### is_integer, is_below, is_text, is_sequence, is_pair -/
abbrev s_is_integer : Stmt := top 8
theorem sc_is_integer : FnScope ["value"] ["value"] (defScope s_is_integer) := ⟨rfl, rfl, rfl, by decide +kernel, rfl, by decide +kernel, by decide +kernel⟩
def w_is_integer : Wp := fun as Ψ => ∃ i : Int, as = [.d (.int i)] ∧ Ψ (.d (.bool true))
theorem ok_is_integer (F : Fun K "is_integer" "is_integer" s_is_integer f fd) (T : Bl mg) : FnOk P w K mg base CX0 1 f fd ["value"] (spD K w_is_integer) := by
  refine fnD F sc_is_integer (fun as Ψ ⟨i, e, _⟩ => by rw [e]; rfl) (fun cdv A outer s H E as Ψ hr ⟨i, e, q⟩ => ?_)
  subst e
  exact ss_one (ss_ret (ev_and (ev_isi (n := "int") T.isinstance T.int (ev_var 0 rfl ⟨_, true, rfl, by kernel_rfl, true, rfl, iteT (ev_one (ev_not (ev_isi (n := "bool") T.isinstance T.bool (ev_var 0 rfl ⟨_, false, rfl, by kernel_rfl, false, rfl, q⟩))))⟩))))
abbrev s_is_below : Stmt := top 9
theorem sc_is_below : FnScope ["value", "bound"] ["value", "bound"] (defScope s_is_below) := ⟨rfl, rfl, rfl, by decide +kernel, rfl, by decide +kernel, by decide +kernel⟩
def w_is_below : Wp := fun as Ψ => ∃ i j : Int, as = [.d (.int i), .d (.int j)] ∧ Ψ (.d (.bool (decide (0 ≤ i) && decide (i < j))))
theorem ok_is_below (F : Fun K "is_below" "is_below" s_is_below f fd) (T : Bl mg) (D1 : DefOk P w K mg base CX0 "is_integer" 1 ["value"] (spD K w_is_integer)) : FnOk P w K mg base CX0 2 f fd ["value", "bound"] (spD K w_is_below) := by
  refine fnD F sc_is_below (fun as Ψ ⟨i, j, e, _⟩ => by rw [e]; rfl) (fun cdv A outer s H E as Ψ hr ⟨i, j, e, q⟩ => ?_)
  subst e
  refine ss_one (ss_ret (ev_and (ev_call D1 hr (ea_cons (ev_var 0 rfl (ea_nil ⟨i, rfl, true, rfl, iteT (ev_one (ev_chainI op_le op_lt (ev_int (ev_var 0 rfl ⟨0, i, rfl, rfl, ?_⟩))))⟩))))))
  refine ite2 (fun c => ev_var 1 rfl ⟨j, rfl, ?_⟩) fun c => ?_
  · have c' : decide ((0 : Int) ≤ i) = true := c
    rw [c', Bool.true_and] at q
    exact q
  · have c' : decide ((0 : Int) ≤ i) = false := by simpa using c
    rw [c', Bool.false_and] at q
    exact q
abbrev s_is_text : Stmt := top 10
theorem sc_is_text : FnScope ["value"] ["value"] (defScope s_is_text) := ⟨rfl, rfl, rfl, by decide +kernel, rfl, by decide +kernel, by decide +kernel⟩
def w_is_text : Wp := fun as Ψ => ∃ z : Str, as = [.d (.str z)] ∧ Ψ (.d (.bool true))
theorem ok_is_text (F : Fun K "is_text" "is_text" s_is_text f fd) (T : Bl mg) : FnOk P w K mg base CX0 1 f fd ["value"] (spD K w_is_text) := by
  refine fnD F sc_is_text (fun as Ψ ⟨i, e, _⟩ => by rw [e]; rfl) (fun cdv A outer s H E as Ψ hr ⟨i, e, q⟩ => ?_)
  subst e
  exact ss_one (ss_ret (ev_isi (n := "str") T.isinstance T.str (ev_var 0 rfl ⟨_, true, rfl, by kernel_rfl, q⟩)))
abbrev s_is_pair : Stmt := top 12
theorem sc_is_pair : FnScope ["value"] ["value"] (defScope s_is_pair) := ⟨rfl, rfl, rfl, by decide +kernel, rfl, by decide +kernel, by decide +kernel⟩
def w_is_pair : Wp := fun as Ψ => ∃ a b : D, as = [.d (.tuple [a, b])] ∧ Ψ (.d (.bool true))
theorem ok_is_pair (F : Fun K "is_pair" "is_pair" s_is_pair f fd) (T : Bl mg) : FnOk P w K mg base CX0 1 f fd ["value"] (spD K w_is_pair) := by
  refine fnD F sc_is_pair (fun as Ψ ⟨a, b, e, _⟩ => by rw [e]; rfl) (fun cdv A outer s H E as Ψ hr ⟨a, b, e, q⟩ => ?_)
  subst e
  exact ss_one (ss_ret (ev_and (ev_isi (n := "tuple") T.isinstance T.tuple (ev_var 0 rfl ⟨_, true, rfl, by kernel_rfl, true, rfl, iteT (ev_one (ev_eqI (ev_len T.len (ev_var 0 rfl ⟨_, 2, rfl, rfl, ev_int ⟨_, _, rfl, rfl, q⟩⟩))))⟩))))

/-! ### names -/
def NameOk (b : Str) : Prop := 1 ≤ b.length ∧ b.length ≤ 8 ∧ ∀ c ∈ b.cps.toList, 97 ≤ c ∧ c ≤ 122
theorem do_inSign {c : Nat} {z : Str} {Q : DL.P → Prop} (q : Q (.d (.bool (decide (c ∈ z.cps.toList))))) : DO K (fun x y H Q => ∃ (c : Nat) (z : Str), x = .str ⟨#[c]⟩ ∧ y = .str z ∧ Q (.bl (decide (c ∈ z.cps.toList))) H) (.d (.str ⟨#[c]⟩)) (.d (.str z)) Q :=
  do_of (fun F H v w Φ s r1 r2 k => by
    rw [rep_str r1, rep_str r2]
    exact ⟨c, z, rfl, rfl, k _ rpB⟩) q
theorem letters_in {c : Nat} (h : 97 ≤ c ∧ c ≤ 122) : decide (c ∈ (Str.ofString "abcdefghijklmnopqrstuvwxyz").cps.toList) = true := by
  have all : ∀ n : Fin 26, decide (97 + n.val ∈ (Str.ofString "abcdefghijklmnopqrstuvwxyz").cps.toList) = true := by decide +kernel
  have := all ⟨c - 97, by omega⟩
  have e : 97 + (c - 97) = c := by omega
  simpa [e] using this
abbrev s_is_name : Stmt := top 13
theorem sc_is_name : FnScope ["value", "sign"] ["value"] (defScope s_is_name) := ⟨rfl, rfl, rfl, by decide +kernel, rfl, by decide +kernel, by decide +kernel⟩
def w_is_name : Wp := fun as Ψ => ∃ z : Str, as = [.d (.str z)] ∧ NameOk z ∧ Ψ (.d (.bool true))
theorem ok_is_name (F : Fun K "is_name" "is_name" s_is_name f fd) (T : Bl mg) (C : Cn mg) (D1 : DefOk P w K mg base CX0 "is_text" 1 ["value"] (spD K w_is_text)) : FnOk P w K mg base CX0 2 f fd ["value"] (spD K w_is_name) := by
  refine fnD F sc_is_name (fun as Ψ ⟨z, e, _⟩ => by rw [e]; rfl) (fun cdv A outer s H E as Ψ hr ⟨z, e, hz, q⟩ => ?_)
  subst e
  obtain ⟨h1, h2, h3⟩ := hz
  obtain ⟨t1, c1⟩ := C.longest
  obtain ⟨t2, c2⟩ := C.letters
  have hl : z.length ≤ 100000 := by omega
  refine ss_one (ss_ret (ev_and (ev_call D1 hr (ea_cons (ev_var 0 rfl (ea_nil ⟨z, rfl, true, rfl, iteT (ev_and (ev_chainI op_le op_le (ev_int (ev_len T.len (ev_var 0 rfl ⟨_, z.length, rfl, if_pos hl, 1, z.length, rfl, rfl, ?_⟩)))))⟩))))))
  refine ite2 (fun c => ev_globI c1 ⟨8, rfl, true, by rw [decide_eq_true (by omega)], iteT (ev_one (ev_all rfl T.all (EN.ev (en_mp z.cps.toList (fun c => .str ⟨#[c]⟩) (fun _ => .bool true) [("sign", 1)] rfl sc_is_name.nd (ie_str (ev_var 0 rfl ⟨z, rfl, rfl, rfl, ?_, fun c hc B => gb_name 1 (fun B => ?_) sc_is_name.nd, ?_⟩))))))⟩) fun c => ?_
  · rw [Array.length_toList]
    exact hl
  · exact ev_cmp op_in_sign (ev_var 1 rfl (ev_globS c2 (do_inSign ⟨rfl, by rw [letters_in (h3 c hc)]⟩)))
  · refine ⟨z.cps.toList.map fun _ => true, by rw [List.map_map]; rfl, ?_⟩
    have e : (z.cps.toList.map fun _ => true).all id = true := by
      rw [List.all_map, List.all_eq_true]
      exact fun _ _ => rfl
    rw [e]
    exact q
  · exact absurd (decide_eq_true (show (1 : Int) ≤ (z.length : Int) by omega)) c

/-! ### places, owed -/
abbrev s_places : Stmt := top 19
theorem sc_places : FnScope ["yard"] ["yard"] (defScope s_places) := ⟨rfl, rfl, rfl, by decide +kernel, rfl, by decide +kernel, by decide +kernel⟩
def w_places : Wp := fun as Ψ => ∃ hs : List Int, as = [.yd hs] ∧ Ψ (.d (.int hs.sum))
theorem ok_places (F : Fun K "places" "places" s_places f fd) (T : Bl mg) : FnOk P w K mg base CX0 1 f fd ["yard"] (spD K w_places) := by
  refine fnD F sc_places (fun as Ψ ⟨hs, e, _⟩ => by rw [e]; rfl) (fun cdv A outer s H E as Ψ hr ⟨hs, e, q⟩ => ?_)
  subst e
  exact ss_one (ss_ret (ev_sum rfl T.sum (ev_heights (ev_var 0 rfl ⟨hs, rfl, hs, .inr rfl, q⟩))))
def owed (hs : List Int) (c : Int) : Int := (hs.map fun h => max 0 (h - c)).sum
abbrev s_owed : Stmt := top 28
theorem sc_owed : FnScope ["yard", "cover", "height"] ["yard", "cover"] (defScope s_owed) := ⟨rfl, rfl, rfl, by decide +kernel, rfl, by decide +kernel, by decide +kernel⟩
def w_owed : Wp := fun as Ψ => ∃ (hs : List Int) (c : Int), as = [.yd hs, .d (.int c)] ∧ hs.length ≤ 100000 ∧ Ψ (.d (.int (owed hs c)))
theorem ok_owed (F : Fun K "owed" "owed" s_owed f fd) (T : Bl mg) : FnOk P w K mg base CX0 1 f fd ["yard", "cover"] (spD K w_owed) := by
  refine fnD F sc_owed (fun as Ψ ⟨hs, c, e, _⟩ => by rw [e]; rfl) (fun cdv A outer s H E as Ψ hr ⟨hs, c, e, hl, q⟩ => ?_)
  subst e
  refine ss_one (ss_ret (ev_sum rfl T.sum (EN.ev (en_mp hs .int (fun h => .int (max 0 (h - c))) [("height", 2)] rfl sc_owed.nd (ie_tup (ev_heights (ev_var 0 rfl ⟨hs, rfl, _, rfl, rfl, rfl, hl, fun h _ B => gb_name 2 ?_ sc_owed.nd, ?_⟩)))))))
  · exact fun B => ev_max2 rfl T.max (ev_int (ev_sub (ev_var 2 rfl (ev_var 1 rfl ⟨_, _, rfl, rfl, _, _, rfl, rfl, rfl, rfl⟩))))
  · exact ⟨hs.map fun h => max 0 (h - c), .inl (by rw [List.map_map]; rfl), q⟩

/-! ### events -/
abbrev Evt := Str × Str
def evD (e : Evt) : D := .tuple [.str e.1, .str e.2]
abbrev s_is_event : Stmt := top 21
theorem sc_is_event : FnScope ["value"] ["value"] (defScope s_is_event) := ⟨rfl, rfl, rfl, by decide +kernel, rfl, by decide +kernel, by decide +kernel⟩
def isEvt (e : Evt) : Bool := decide (e.1 ∈ (["in", "out"] : List Str))
def w_is_event : Wp := fun as Ψ => ∃ e : Evt, as = [.d (evD e)] ∧ NameOk e.2 ∧ Ψ (.d (.bool (isEvt e)))
theorem ok_is_event (F : Fun K "is_event" "is_event" s_is_event f fd) (T : Bl mg) (D1 : DefOk P w K mg base CX0 "is_pair" 1 ["value"] (spD K w_is_pair)) (D2 : DefOk P w K mg base CX0 "is_name" 2 ["value"] (spD K w_is_name)) : FnOk P w K mg base CX0 3 f fd ["value"] (spD K w_is_event) := by
  refine fnD F sc_is_event (fun as Ψ ⟨z, e, _⟩ => by rw [e]; rfl) (fun cdv A outer s H E as Ψ hr ⟨z, e, hz, q⟩ => ?_)
  subst e
  have hr1 : Room 1 _ := hr.mono (by decide)
  refine ss_cons (ss_if (EW.et (ew_or (et_not (et_val (ev_call D1 hr1 (ea_cons (ev_var 0 rfl (ea_nil ⟨_, _, rfl, _, rfl, iteF (ew_or1 ?_)⟩)))))))))
  refine et_not (et_val (ev_isi (n := "str") T.isinstance T.str (ev_ix (ev_var 0 rfl (ev_int ⟨_, _, .str z.1, rfl, rfl, .inr (.inl ⟨_, rfl, rfl⟩), _, true, rfl, by kernel_rfl, true, rfl, iteF (ss_nil ?_)⟩)))))
  refine ss_one (ss_ret (ev_and (ev_cmp op_in_seq (ev_ix (ev_var 0 rfl (ev_int ⟨_, _, .str z.1, rfl, rfl, .inr (.inl ⟨_, rfl, rfl⟩), ?_⟩))))))
  refine ev_tup (ea_cons (ev_str (ea_cons (ev_str (ea_nil ⟨[.str "in", .str "out"], rfl, by decide, ?_⟩)))))
  refine do_inS (ys := ["in", "out"]) (.inr rfl) ⟨_, rfl, ?_⟩
  refine ite2 (fun c => ev_one (ev_call D2 hr (ea_cons (ev_ix (ev_var 0 rfl (ev_int ⟨_, _, .str z.2, rfl, rfl, .inr (.inl ⟨_, rfl, rfl⟩), ea_nil ⟨z.2, rfl, hz, ?_⟩⟩)))))) fun c => ?_
  · have c' : isEvt z = true := c
    rw [c'] at q
    exact q
  · have c' : isEvt z = false := Bool.eq_false_iff.mpr c
    rw [c'] at q
    exact q
end
end W63
end PartF1
section PartF2
set_option maxRecDepth 100000
set_option maxHeartbeats 2000000
namespace DL
open PySem PySem.Spec PyProof.Rows L2
theorem enumD_at {ds : List D} {i : Nat} {x : D} (h : (enumD ds)[i]? = some x) : ∃ d, ds[i]? = some d ∧ x = .tuple [.int (i : Nat), d] := by
  have hi := (List.getElem?_eq_some_iff.mp h).1
  rw [enumD_len] at hi
  have e : ds[i]? = some ds[i] := List.getElem?_eq_getElem hi
  rw [enumD_get e] at h
  exact ⟨_, e, (Option.some.inj h).symm⟩
theorem map_at {α : Type} {xs : List α} {f : α → D} {i : Nat} {x : D} (h : (xs.map f)[i]? = some x) : ∃ z, xs[i]? = some z ∧ x = f z := by
  rw [List.getElem?_map] at h
  cases q : xs[i]? with
  | none => rw [q] at h; cases h
  | some z =>
    rw [q] at h
    exact ⟨z, rfl, (Option.some.inj h).symm⟩
theorem drop_at {α : Type} {xs : List α} {i : Nat} {z : α} (h : xs[i]? = some z) : xs.drop i = z :: xs.drop (i + 1) := by
  obtain ⟨hi, e⟩ := List.getElem?_eq_some_iff.mp h
  rw [List.drop_eq_getElem_cons hi, e]
theorem rangeD_at {lo : Int} {n i : Nat} {x : D} (h : (rangeD lo n)[i]? = some x) : i < n ∧ x = .int (lo + (i : Nat)) := by
  have hi := (List.getElem?_eq_some_iff.mp h).1
  rw [rangeD_len] at hi
  rw [rangeD_get hi] at h
  exact ⟨hi, (Option.some.inj h).symm⟩
end DL
namespace W63
open PySem PySem.Spec PyProof.Rows L2 DL
section
variable {P : Program} {w : World} {K : PySem.W.Frag} {mg : Str → Option Value} {base : Heap} {f : Addr} {fd : FuncData}
/-! ### event_fault -/
def fault (most : Int) : List Evt → Nat → List Str → List Str → Option Nat
  | [], _, _, _ => none
  | e :: r, i, came, gone =>
    if isEvt e = false then some i
    else if e.1 = "in" ∧ (e.2 ∈ came ∨ most ≤ (came.length : Int) - gone.length) then some i
    else if e.1 = "out" ∧ (e.2 ∉ came ∨ e.2 ∈ gone) then some i
    else if e.1 = "in" then fault most r (i + 1) (came ++ [e.2]) gone else fault most r (i + 1) came (gone ++ [e.2])
theorem fault_nil {most : Int} {i : Nat} {came gone : List Str} : fault most [] i came gone = none := rfl
theorem fault_cons {most : Int} {e : Evt} {r : List Evt} {i : Nat} {came gone : List Str} : fault most (e :: r) i came gone = if isEvt e = false then some i
    else if e.1 = "in" ∧ (e.2 ∈ came ∨ most ≤ (came.length : Int) - gone.length) then some i
    else if e.1 = "out" ∧ (e.2 ∉ came ∨ e.2 ∈ gone) then some i
    else if e.1 = "in" then fault most r (i + 1) (came ++ [e.2]) gone else fault most r (i + 1) came (gone ++ [e.2]) := rfl
def optD : Option Nat → D
  | none => .none
  | some i => .int (i : Nat)
/-- a dict of names, each with True -/
def dkOf (xs : List Str) : List (Key × D) := xs.map fun b => (Sum.inr b, PyData.bool true)
theorem dkOf_val {b : Str} : ∀ {xs : List Str}, (valD (dkOf xs) (.inr b)).isSome = decide (b ∈ xs)
  | [] => by simp [dkOf, valD]
  | x :: xs => by
    have ih := dkOf_val (b := b) (xs := xs)
    unfold dkOf valD at ih ⊢
    rw [List.map_cons, List.find?_cons]
    by_cases e : x = b
    · subst e
      simp
    · have e1 : decide ((Sum.inr x : Key) = Sum.inr b) = false := by simp [e]
      simp only [e1]
      rw [ih]
      simp [Ne.symm e]
theorem dkOf_any {b : Str} : ∀ {xs : List Str}, ((dkOf xs).any fun kv => decide (kv.1 = Sum.inr b)) = decide (b ∈ xs)
  | [] => by simp [dkOf]
  | x :: xs => by
    have ih := dkOf_any (b := b) (xs := xs)
    unfold dkOf at ih ⊢
    rw [List.map_cons, List.any_cons, ih]
    by_cases e : x = b
    · subst e
      simp
    · simp [e, Ne.symm e]
theorem dkOf_put {b : Str} {xs : List Str} (h : b ∉ xs) : putD (dkOf xs) (.inr b) (.bool true) = dkOf (xs ++ [b]) := by
  unfold putD
  rw [dkOf_any, if_neg (by simp [h])]
  simp [dkOf]
theorem dkOf_same {b : Str} {xs : List Str} (h : b ∈ xs) : putD (dkOf xs) (.inr b) (.bool true) = dkOf xs := by
  unfold putD
  rw [dkOf_any, if_pos (by simp [h])]
  unfold dkOf
  rw [List.map_map]
  apply List.map_congr_left
  intro x _
  by_cases e : (Sum.inr x : Key) = Sum.inr b
  · simp [e]
  · simp [e]
abbrev s_event_fault : Stmt := top 22
theorem sc_event_fault : FnScope ["events", "most", "came", "gone", "at", "event", "word", "box", "full"] ["events", "most"] (defScope s_event_fault) := ⟨rfl, rfl, rfl, by decide +kernel, rfl, by decide +kernel, by decide +kernel⟩
def w_event_fault : Wp := fun as Ψ => ∃ (evs : List Evt) (most : Int), as = [.d (.tuple (evs.map evD)), .d (.int most)] ∧ (∀ e ∈ evs, NameOk e.2) ∧ evs.length ≤ 1000 ∧ Ψ (.d (optD (fault most evs 0 [] [])))
theorem ok_event_fault (F : Fun K "event_fault" "event_fault" s_event_fault f fd) (T : Bl mg) (D1 : DefOk P w K mg base CX0 "is_event" 3 ["value"] (spD K w_is_event)) : FnOk P w K mg base CX0 4 f fd ["events", "most"] (spD K w_event_fault) := by
  refine fnD F sc_event_fault (fun as Ψ ⟨z, m, e, _⟩ => by rw [e]; rfl) (fun cdv A outer s H E as Ψ hr ⟨evs, most, e, hn, hl, q⟩ => ?_)
  subst e
  have nd := sc_event_fault.nd
  refine ss_cons (ss_par 2 3 (by decide) rfl nd (ec_dict (n := 0) (ec_dict (n := 0) ?_ pe_dnewK) pe_dnewK))
  refine ss_cons (ss_for (ix := [4] ++ ([5] ++ [])) PassesOwn.never rfl (ie_enumT T.enumerate (ev_var 0 rfl ⟨_, rfl,
    fun i ρ => ∃ came gone x4 x5 x6 x7 x8, ρ = [some (.p (.d (.tuple (evs.map evD)))), some (.p (.d (.int most))), some (.dk (dkOf came)), some (.dk (dkOf gone)), x4, x5, x6, x7, x8] ∧
      fault most evs 0 [] [] = fault most (evs.drop i) i came gone ∧ came.length ≤ i ∧ gone.length ≤ i, ⟨[], [], none, none, none, none, none, rfl, rfl, Nat.le_refl _, Nat.le_refl _⟩, ?_, ?_⟩)))
  · rintro i x ρ hx ⟨came, gone, x4, x5, x6, x7, x8, rfl, hf, hc, hg⟩
    obtain ⟨d, hd, rfl⟩ := enumD_at hx
    obtain ⟨ev, hev, rfl⟩ := map_at hd
    have hmem : ev ∈ evs := List.mem_of_getElem? hev
    have hi : i < evs.length := (List.getElem?_eq_some_iff.mp hev).1
    rw [drop_at hev] at hf
    rw [fault_cons] at hf
    refine gb_tup rfl (gbs_cons (gb_name 4 (gbs_cons (gb_name 5 (gbs_nil ?_) nd)) nd))
    -- if not is_event(event): return at
    refine ss_cons (ss_if (et_not (et_val (ev_call D1 hr (ea_cons (ev_var 5 rfl (ea_nil ⟨ev, rfl, hn ev hmem, _, rfl, ?_⟩)))))))
    by_cases c1 : isEvt ev = false
    · rw [c1]
      rw [if_pos c1] at hf
      rw [hf] at q
      exact iteT (ss_one (ss_ret (ev_var 4 rfl q)))
    rw [if_neg c1] at hf
    have c1' : isEvt ev = true := by simpa using c1
    rw [c1']
    refine iteF (ss_nil ?_)
    -- word, box = event
    refine ss_cons (ss_asg (ev_var 5 rfl ⟨_, rfl, gb_tup (ds := [.str ev.1, .str ev.2]) rfl (gbs_cons (gb_name 6 (gbs_cons (gb_name 7 (gbs_nil ?_) nd)) nd))⟩))
    -- full = ..
    refine ss_cons (ss_set 8 (EV.ec (ev_and (ev_notN (ev_var 1 rfl ⟨true, rfl, iteT (ev_one (ev_ge (ev_sub (ev_lenD 2 T.len (ev_lenD 3 T.len ⟨_, _, rfl, rfl, ev_var 1 rfl ⟨_, _, rfl, rfl, ?_⟩⟩)))))⟩)))) nd)
    have e1 : (dkOf came).length = came.length := List.length_map ..
    have e2 : (dkOf gone).length = gone.length := List.length_map ..
    rw [e1, e2]
    -- if word == 'in' and (box in came or full): return at
    refine ss_cons (ss_if (EW.et (ew_and (et_eqS (ev_var 6 rfl (ev_str ⟨ev.1, "in", rfl, rfl, ?_⟩))))))
    -- what follows where this is passed
    have hrest : ¬ (ev.1 = "in" ∧ (ev.2 ∈ came ∨ most ≤ (came.length : Int) - gone.length)) → (if ev.1 = "out" ∧ (ev.2 ∉ came ∨ ev.2 ∈ gone) then some i else if ev.1 = "in" then fault most (evs.drop (i + 1)) (i + 1) (came ++ [ev.2]) gone else fault most (evs.drop (i + 1)) (i + 1) came (gone ++ [ev.2])) = fault most evs 0 [] [] := fun cc => by
      rw [hf, if_neg cc]
    by_cases c2 : ev.1 = "in"
    · rw [decide_eq_true c2]
      refine iteT (ew_and1 (EW.et (ew_or (et_din 2 hr (ev_var 7 rfl ⟨_, _, rfl, .inl ⟨_, .inr ev.2, rfl, rfl, rfl⟩, ?_⟩)))))
      rw [dkOf_val]
      by_cases c3 : ev.2 ∈ came
      · rw [decide_eq_true c3]
        rw [if_pos ⟨c2, .inl c3⟩] at hf
        rw [hf] at q
        exact iteT (iteT (ss_one (ss_ret (ev_var 4 rfl q))))
      · rw [decide_eq_false c3]
        refine iteF (ew_or1 (et_val (ev_var 8 rfl ⟨_, rfl, ?_⟩)))
        by_cases c4 : most ≤ (came.length : Int) - gone.length
        · rw [decide_eq_true c4]
          rw [if_pos ⟨c2, .inr c4⟩] at hf
          rw [hf] at q
          exact iteT (ss_one (ss_ret (ev_var 4 rfl q)))
        · rw [decide_eq_false c4]
          have h2 := hrest fun z => z.2.elim c3 c4
          rw [if_neg (by rw [c2]; exact fun z => absurd z.1 (by decide)), if_pos c2] at h2
          refine iteF (ss_nil (ss_cons (ss_if (EW.et (ew_and (et_eqS (ev_var 6 rfl (ev_str ⟨ev.1, "out", rfl, rfl, ?_⟩))))))))
          rw [decide_eq_false (show ¬ ev.1 = ("out" : Str) by rw [c2]; decide)]
          refine iteF (iteF (ss_nil (ss_one (ss_if (et_eqS (ev_var 6 rfl (ev_str ⟨ev.1, "in", rfl, rfl, ?_⟩)))))))
          rw [decide_eq_true c2]
          refine iteT (ss_one (ss_dput 2 hr (ev_bool ⟨_, rfl, ev_var 7 rfl ⟨_, _, .dk (dkOf (came ++ [ev.2])), rfl, rfl, .inl ⟨_, .inr ev.2, rfl, rfl, ?_, ?_⟩, ?_⟩⟩)))
          · rw [e1]; omega
          · rw [dkOf_put c3]
          · exact ⟨came ++ [ev.2], gone, _, _, _, _, _, rfl, h2.symm, by rw [List.length_append, List.length_singleton]; omega, by omega⟩
    · rw [decide_eq_false c2]
      have h2 := hrest fun z => c2 z.1
      refine iteF (iteF (ss_nil (ss_cons (ss_if (EW.et (ew_and (et_eqS (ev_var 6 rfl (ev_str ⟨ev.1, "out", rfl, rfl, ?_⟩)))))))))
      have c5 : ev.1 = "out" := by
        have h := of_decide_eq_true c1'
        rcases List.mem_cons.mp h with z | z
        · exact absurd z c2
        · exact List.mem_singleton.mp z
      rw [decide_eq_true c5]
      refine iteT (ew_and1 (EW.et (ew_or (et_dni 2 hr (ev_var 7 rfl ⟨_, _, rfl, .inl ⟨_, .inr ev.2, rfl, rfl, rfl⟩, ?_⟩)))))
      rw [dkOf_val]
      by_cases c3 : ev.2 ∈ came
      · rw [decide_eq_true c3]
        refine iteF (ew_or1 (et_din 3 hr (ev_var 7 rfl ⟨_, _, rfl, .inl ⟨_, .inr ev.2, rfl, rfl, rfl⟩, ?_⟩)))
        rw [dkOf_val]
        by_cases c4 : ev.2 ∈ gone
        · rw [decide_eq_true c4]
          rw [if_pos ⟨c5, .inr c4⟩] at h2
          rw [← h2] at q
          exact iteT (ss_one (ss_ret (ev_var 4 rfl q)))
        · rw [decide_eq_false c4]
          rw [if_neg (fun z => z.2.elim (fun y => y c3) c4), if_neg c2] at h2
          refine iteF (ss_nil (ss_one (ss_if (et_eqS (ev_var 6 rfl (ev_str ⟨ev.1, "in", rfl, rfl, ?_⟩))))))
          rw [decide_eq_false c2]
          refine iteF (ss_one (ss_dput 3 hr (ev_bool ⟨_, rfl, ev_var 7 rfl ⟨_, _, .dk (dkOf (gone ++ [ev.2])), rfl, rfl, .inl ⟨_, .inr ev.2, rfl, rfl, ?_, ?_⟩, ?_⟩⟩)))
          · rw [e2]; omega
          · rw [dkOf_put c4]
          · exact ⟨came, gone ++ [ev.2], _, _, _, _, _, rfl, h2.symm, by omega, by rw [List.length_append, List.length_singleton]; omega⟩
      · rw [decide_eq_false c3]
        rw [if_pos ⟨c5, .inl c3⟩] at h2
        rw [← h2] at q
        exact iteT (iteT (ss_one (ss_ret (ev_var 4 rfl q))))
  · rintro ρ ⟨came, gone, x4, x5, x6, x7, x8, rfl, hf, hc, hg⟩
    rw [enumD_len, List.length_map, List.drop_length] at hf
    rw [hf] at q
    exact ss_one (ss_ret (ev_none q))
end
end W63
end PartF2
section PartF3
set_option maxRecDepth 100000
set_option maxHeartbeats 2000000
namespace W63
open PySem PySem.Spec PyProof.Rows L2 DL
section
variable {P : Program} {w : World} {K : PySem.W.Frag} {mg : Str → Option Value} {base : Heap} {f : Addr} {fd : FuncData}
/-! ### is_sequence -/
abbrev s_is_sequence : Stmt := top 11
theorem sc_is_sequence : FnScope ["value"] ["value"] (defScope s_is_sequence) := ⟨rfl, rfl, rfl, by decide +kernel, rfl, by decide +kernel, by decide +kernel⟩
def w_is_sequence : Wp := fun as Ψ => ∃ ds : List D, as = [.d (.list ds)] ∧ Ψ (.d (.bool true))
theorem ok_is_sequence (F : Fun K "is_sequence" "is_sequence" s_is_sequence f fd) (T : Bl mg) : FnOk P w K mg base CX0 1 f fd ["value"] (spD K w_is_sequence) := by
  refine fnD F sc_is_sequence (fun as Ψ ⟨i, e, _⟩ => by rw [e]; rfl) (fun cdv A outer s H E as Ψ hr ⟨i, e, q⟩ => ?_)
  subst e
  exact ss_one (ss_ret (ev_isi2 (n1 := "list") (n2 := "tuple") T.isinstance T.list T.tuple (ev_var 0 rfl ⟨_, true, false, rfl, by kernel_rfl, by kernel_rfl, q⟩)))
/-! ### tables -/
abbrev Tb := List (Str × Int)
def tbE (p : Str × Int) : D := .tuple [.str p.1, .int p.2]
def tbD (t : Tb) : D := .tuple (t.map tbE)
def above (t : Tb) (c : Int) : Int := ((t.filter fun p => decide (c < p.2)).length : Nat)
abbrev s_above : Stmt := top 30
theorem sc_above : FnScope ["table", "cover", "box", "mark"] ["table", "cover"] (defScope s_above) := ⟨rfl, rfl, rfl, by decide +kernel, rfl, by decide +kernel, by decide +kernel⟩
def w_above : Wp := fun as Ψ => ∃ (t : Tb) (c : Int), as = [.d (tbD t), .d (.int c)] ∧ t.length ≤ 1000 ∧ Ψ (.d (.int (above t c)))
theorem filterMap_len {α : Type} {g : α → Option D} {p : α → Bool} (h : ∀ x, (g x).isSome = p x) : ∀ xs : List α, (xs.filterMap g).length = (xs.filter p).length
  | [] => rfl
  | x :: xs => by
    have ih := filterMap_len h xs
    have hx := h x
    rw [List.filterMap_cons, List.filter_cons]
    cases q : g x with
    | none =>
      rw [q] at hx
      rw [if_neg (by rw [← hx]; exact Bool.false_ne_true)]
      exact ih
    | some y =>
      rw [q] at hx
      rw [if_pos (show p x = true from hx.symm)]
      show (y :: List.filterMap g xs).length = _
      rw [List.length_cons, List.length_cons, ih]
theorem ok_above (F : Fun K "above" "above" s_above f fd) (T : Bl mg) : FnOk P w K mg base CX0 1 f fd ["table", "cover"] (spD K w_above) := by
  refine fnD F sc_above (fun as Ψ ⟨t, c, e, _⟩ => by rw [e]; rfl) (fun cdv A outer s H E as Ψ hr ⟨t, c, e, hl, q⟩ => ?_)
  subst e
  have nd := sc_above.nd
  refine ss_one (ss_ret (ev_len T.len (EN.ev (en_fm (ix := [2] ++ ([3] ++ [])) t tbE (fun p => if c < p.2 then some (.str p.1) else none) [("box", 2), ("mark", 3)] rfl nd (ie_tup (ev_var 0 rfl ⟨_, rfl, rfl, rfl, by omega, fun p _ B => ?_, ?_⟩))))))
  · refine gb_tup rfl (gbs_cons (gb_name 2 (gbs_cons (gb_name 3 (gbs_nil fun B => ?_) nd)) nd))
    refine et_gt (ev_var 3 rfl (ev_var 1 rfl ⟨_, _, rfl, rfl, rfl, ?_⟩))
    refine ite2 (fun c1 B => ev_var 2 rfl ⟨rfl, _, rfl, if_pos (of_decide_eq_true c1)⟩) fun c1 => if_neg fun z => c1 (decide_eq_true z)
  · refine ⟨_, _, rfl, rfl, ?_⟩
    rw [filterMap_len (p := fun p => decide (c < p.2)) (fun x => by by_cases z : c < x.2 <;> simp [z])]
    exact q
/-- the greatest height -/
def mxl (hs : List Int) : Int := hs.foldr max 0
theorem mxl_ge : ∀ {hs : List Int} {h : Int}, h ∈ hs → h ≤ mxl hs
  | x :: xs, h, m => by
    unfold mxl at *
    rw [List.foldr_cons]
    rcases List.mem_cons.mp m with rfl | m
    · exact Int.le_max_left _ _
    · exact Int.le_trans (mxl_ge (hs := xs) m) (Int.le_max_right _ _)
theorem mxl_mem : ∀ {hs : List Int}, (∀ h ∈ hs, 0 ≤ h) → hs ≠ [] → mxl hs ∈ hs
  | [], _, n => absurd rfl n
  | x :: xs, p, _ => by
    unfold mxl
    rw [List.foldr_cons]
    by_cases e : xs = []
    · subst e
      have := p x List.mem_cons_self
      show max x 0 ∈ _
      rw [Int.max_eq_left this]
      exact List.mem_cons_self
    · have ih := mxl_mem (hs := xs) (fun h m => p h (List.mem_cons_of_mem _ m)) e
      by_cases c : x ≤ xs.foldr max 0
      · rw [Int.max_eq_right c]
        exact List.mem_cons_of_mem _ ih
      · rw [Int.max_eq_left (by omega)]
        exact List.mem_cons_self
theorem mxl_is {hs : List Int} {m : Int} (p : ∀ h ∈ hs, 0 ≤ h) (h1 : m ∈ hs) (h2 : ∀ y ∈ hs, y ≤ m) : m = mxl hs := by
  have a := mxl_ge h1
  have b := h2 _ (mxl_mem p (fun z => by rw [z] at h1; cases h1))
  omega
/-- a yard's heights -/
structure YardOk (hs : List Int) : Prop where
  lo : 3 ≤ hs.length
  hi : hs.length ≤ 12
  pos : ∀ h ∈ hs, 1 ≤ h ∧ h ≤ 12
theorem YardOk.nn {hs : List Int} (y : YardOk hs) : ∀ h ∈ hs, 0 ≤ h := fun h m => by have := y.pos h m; omega
theorem YardOk.mx {hs : List Int} (y : YardOk hs) : 1 ≤ mxl hs ∧ mxl hs ≤ 12 := y.pos _ (mxl_mem y.nn (fun z => by have := y.lo; rw [z] at this; cases this))
theorem sum_bound : ∀ {hs : List Int}, (∀ h ∈ hs, 1 ≤ h ∧ h ≤ 12) → 0 ≤ hs.sum ∧ hs.sum ≤ 12 * (hs.length : Int)
  | [], _ => by simp
  | x :: xs, p => by
    have ih := sum_bound (hs := xs) fun h m => p h (List.mem_cons_of_mem _ m)
    have hx := p x List.mem_cons_self
    rw [List.sum_cons, List.length_cons]
    omega
theorem YardOk.sum {hs : List Int} (y : YardOk hs) : 0 ≤ hs.sum ∧ hs.sum ≤ 144 := by
  have := sum_bound y.pos
  have := y.hi
  omega
/-! ### enough -/
/-- lo, lo + 1, .. below hi -/
def rng (lo hi : Int) : List Int := (List.range (hi - lo).toNat).map fun i => lo + (i : Nat)
theorem rangeD_rng {lo hi : Int} : rangeD lo (hi - lo).toNat = (rng lo hi).map .int := by
  unfold rangeD rng
  rw [List.map_map]
  rfl
theorem rng_mem {lo hi c : Int} : c ∈ rng lo hi ↔ lo ≤ c ∧ c < hi := by
  unfold rng
  rw [List.mem_map]
  constructor
  · rintro ⟨i, hi', rfl⟩
    have := List.mem_range.mp hi'
    omega
  · rintro ⟨h1, h2⟩
    exact ⟨(c - lo).toNat, List.mem_range.mpr (by omega), by omega⟩
theorem rng_len {lo hi : Int} : (rng lo hi).length = (hi - lo).toNat := by unfold rng; rw [List.length_map, List.length_range]
def enough (hs : List Int) (t : Tb) : Bool := (rng (hs.sum - (t.length : Nat)) (mxl hs)).all fun c => decide (owed hs c ≤ above t c)
abbrev s_enough : Stmt := top 31
theorem sc_enough : FnScope ["yard", "table", "free", "cover"] ["yard", "table"] (defScope s_enough) := ⟨rfl, rfl, rfl, by decide +kernel, rfl, by decide +kernel, by decide +kernel⟩
def w_enough : Wp := fun as Ψ => ∃ (hs : List Int) (t : Tb), as = [.yd hs, .d (tbD t)] ∧ YardOk hs ∧ t.length ≤ 1000 ∧ Ψ (.d (.bool (enough hs t)))
theorem ok_enough (F : Fun K "enough" "enough" s_enough f fd) (T : Bl mg) (D1 : DefOk P w K mg base CX0 "places" 1 ["yard"] (spD K w_places)) (D2 : DefOk P w K mg base CX0 "above" 1 ["table", "cover"] (spD K w_above)) (D3 : DefOk P w K mg base CX0 "owed" 1 ["yard", "cover"] (spD K w_owed)) :
    FnOk P w K mg base CX0 2 f fd ["yard", "table"] (spD K w_enough) := by
  refine fnD F sc_enough (fun as Ψ ⟨hs, t, e, _⟩ => by rw [e]; rfl) (fun cdv A outer s H E as Ψ hr ⟨hs, t, e, y, hl, q⟩ => ?_)
  subst e
  have nd := sc_enough.nd
  have ys := y.sum
  have ym := y.mx
  have yl := y.hi
  have yo := y.lo
  have hr1 : Room 1 _ := hr
  refine ss_cons (ss_set 2 (EV.ec (ev_sub (ev_call D1 hr1 (ea_cons (ev_var 0 rfl (ea_nil ⟨hs, rfl, ev_len T.len (ev_var 1 rfl ⟨_, (t.map tbE).length, rfl, rfl, _, _, rfl, rfl, ?_⟩)⟩)))))) nd)
  rw [List.length_map]
  refine ss_one (ss_ret (ev_all rfl T.all (EN.ev (en_mp (ix := [3]) (rng (hs.sum - (t.length : Nat)) (mxl hs)) .int (fun c => .bool (decide (owed hs c ≤ above t c))) [("cover", 3)] rfl nd (ie_range2 T.range (ev_var 2 rfl (ev_max rfl hr T.max (ev_heights (ev_var 0 rfl ⟨hs, rfl, hs, .inr rfl, by omega, fun m h1 h2 => ?_⟩)))))))))
  have em := mxl_is y.nn h1 h2
  subst em
  refine ⟨_, _, rfl, rfl, by omega, rangeD_rng, rfl, by rw [rng_len]; omega, fun c _ B => gb_name 3 (fun B => ?_) nd, ?_⟩
  · exact ev_ge (ev_call D2 hr1 (ea_cons (ev_var 1 rfl (ea_cons (ev_var 3 rfl (ea_nil ⟨t, c, rfl, hl, ev_call D3 hr1 (ea_cons (ev_var 0 rfl (ea_cons (ev_var 3 rfl (ea_nil ⟨hs, c, rfl, by omega, _, _, rfl, rfl, rfl, rfl⟩)))))⟩))))))
  · refine ⟨(rng (hs.sum - (t.length : Nat)) (mxl hs)).map fun c => decide (owed hs c ≤ above t c), by rw [List.map_map]; rfl, ?_⟩
    have e : ((rng (hs.sum - (t.length : Nat)) (mxl hs)).map fun c => decide (owed hs c ≤ above t c)).all id = enough hs t := by
      unfold enough
      rw [List.all_map]
      rfl
    rw [e]
    exact q
end
end W63
end PartF3
section PartM1
set_option maxRecDepth 100000
set_option maxHeartbeats 2000000
/-! M1: timetables, plain. -/
namespace W63
open PySem PySem.Spec PyProof.Rows L2 DL
/-- the boxes there behind one event more -/
def stp (t : List Str) (e : Evt) : List Str := if e.1 = ("in" : Str) then t ++ [e.2] else t.filter fun b => decide (b ≠ e.2)
def thr (evs : List Evt) : List Str := evs.foldl stp []
def came (evs : List Evt) : List Str := evs.filterMap fun e => if e.1 = ("in" : Str) then some e.2 else none
def gone (evs : List Evt) : List Str := evs.filterMap fun e => if e.1 = ("in" : Str) then none else some e.2
theorem came_nil : came [] = [] := rfl
theorem gone_nil : gone [] = [] := rfl
theorem thr_snoc {evs : List Evt} {e : Evt} : thr (evs ++ [e]) = stp (thr evs) e := by
  unfold thr
  rw [List.foldl_append]
  rfl
theorem came_snoc {evs : List Evt} {e : Evt} : came (evs ++ [e]) = came evs ++ (if e.1 = "in" then [e.2] else []) := by
  unfold came
  rw [List.filterMap_append]
  by_cases c : e.1 = "in" <;> simp [c]
theorem gone_snoc {evs : List Evt} {e : Evt} : gone (evs ++ [e]) = gone evs ++ (if e.1 = "in" then [] else [e.2]) := by
  unfold gone
  rw [List.filterMap_append]
  by_cases c : e.1 = "in" <;> simp [c]
/-- a timetable: who comes is new, who goes is there -/
inductive Val : List Evt → Prop
  | nil : Val []
  | inn {evs : List Evt} {b : Str} : Val evs → b ∉ came evs → Val (evs ++ [(("in", b) : Evt)])
  | out {evs : List Evt} {b : Str} : Val evs → b ∈ thr evs → Val (evs ++ [(("out", b) : Evt)])
theorem ne_out : ¬ (("out" : Str) = "in") := by decide
theorem stp_in {t : List Str} {b : Str} : stp t ("in", b) = t ++ [b] := if_pos rfl
theorem stp_out {t : List Str} {b : Str} : stp t ("out", b) = t.filter fun x => decide (x ≠ b) := if_neg ne_out
/-- there: came and not gone -/
theorem Val.facts {evs : List Evt} (v : Val evs) : (came evs).Nodup ∧ (thr evs).Nodup ∧ (gone evs).Nodup ∧ (∀ b, b ∈ thr evs ↔ b ∈ came evs ∧ b ∉ gone evs) ∧ (∀ b ∈ gone evs, b ∈ came evs) ∧ ((thr evs).length : Int) = (came evs).length - (gone evs).length := by
  induction v with
  | nil => exact ⟨List.nodup_nil, List.nodup_nil, List.nodup_nil, fun b => ⟨fun h => (nomatch h), fun h => (nomatch h.1)⟩, fun b h => (nomatch h), rfl⟩
  | @inn evs b v hb ih =>
    obtain ⟨h1, h2, h3, h4, h5, h6⟩ := ih
    have hg : b ∉ gone evs := fun z => hb (h5 b z)
    have ht : b ∉ thr evs := fun z => hb ((h4 b).mp z).1
    rw [thr_snoc, came_snoc, gone_snoc, stp_in]
    simp only [if_true, List.append_nil]
    refine ⟨?_, ?_, h3, fun x => ?_, fun x hx => List.mem_append_left _ (h5 x hx), ?_⟩
    · rw [List.nodup_append]
      exact ⟨h1, by simp, fun a ha c hc => by
        have : c = b := by simpa using hc
        subst this
        exact fun z => hb (z ▸ ha)⟩
    · rw [List.nodup_append]
      exact ⟨h2, by simp, fun a ha c hc => by
        have : c = b := by simpa using hc
        subst this
        exact fun z => ht (z ▸ ha)⟩
    · rw [List.mem_append, List.mem_append, h4 x, List.mem_singleton]
      constructor
      · rintro (⟨a1, a2⟩ | rfl)
        · exact ⟨.inl a1, a2⟩
        · exact ⟨.inr rfl, hg⟩
      · rintro ⟨a1 | rfl, a2⟩
        · exact .inl ⟨a1, a2⟩
        · exact .inr rfl
    · rw [List.length_append, List.length_append, List.length_singleton]
      omega
  | @out evs b v hb ih =>
    obtain ⟨h1, h2, h3, h4, h5, h6⟩ := ih
    obtain ⟨c1, c2⟩ := (h4 b).mp hb
    rw [thr_snoc, came_snoc, gone_snoc, stp_out]
    simp only [ne_out, if_false, List.append_nil]
    refine ⟨h1, h2.filter _, ?_, fun x => ?_, fun x hx => ?_, ?_⟩
    · rw [List.nodup_append]
      exact ⟨h3, by simp, fun a ha c hc => by
        have : c = b := by simpa using hc
        subst this
        exact fun z => c2 (z ▸ ha)⟩
    · rw [List.mem_filter, h4 x, List.mem_append, List.mem_singleton]
      simp only [decide_eq_true_eq, ne_eq]
      constructor
      · rintro ⟨⟨a1, a2⟩, a3⟩
        exact ⟨a1, fun z => z.elim a2 a3⟩
      · rintro ⟨a1, a2⟩
        exact ⟨⟨a1, fun z => a2 (.inl z)⟩, fun z => a2 (.inr z)⟩
    · rcases List.mem_append.mp hx with z | z
      · exact h5 x z
      · have : x = b := by simpa using z
        subst this
        exact c1
    · have key : ∀ {l : List Str}, l.Nodup → b ∈ l → ((l.filter fun x => decide (x ≠ b)).length : Int) = l.length - 1 := by
        intro l
        induction l with
        | nil => intro _ h; cases h
        | cons y l ih2 =>
          intro hn hm
          obtain ⟨n1, n2⟩ := List.nodup_cons.mp hn
          rcases List.mem_cons.mp hm with rfl | hm
          · have e : (l.filter fun x => decide (x ≠ b)) = l := List.filter_eq_self.mpr fun x hx => decide_eq_true fun z => n1 (z ▸ hx)
            rw [List.filter_cons, if_neg (by simp), e, List.length_cons]
            omega
          · have yb : y ≠ b := fun z => n1 (z ▸ hm)
            rw [List.filter_cons, if_pos (by simp [yb]), List.length_cons, List.length_cons]
            have := ih2 n2 hm
            omega
      rw [key h2 hb, List.length_append, List.length_singleton]
      omega
theorem Val.snoc {evs : List Evt} {e : Evt} (v : Val (evs ++ [e])) : Val evs ∧ ((e.1 = "in" ∧ e.2 ∉ came evs) ∨ (e.1 = "out" ∧ e.2 ∈ thr evs)) := by
  generalize h : evs ++ [e] = l at v
  cases v with
  | nil => simp at h
  | inn v' hb =>
    obtain ⟨rfl, h2⟩ := List.append_inj' h rfl
    cases h2
    exact ⟨v', .inl ⟨rfl, hb⟩⟩
  | out v' hb =>
    obtain ⟨rfl, h2⟩ := List.append_inj' h rfl
    cases h2
    exact ⟨v', .inr ⟨rfl, hb⟩⟩
theorem Val.take {evs : List Evt} (v : Val evs) : ∀ k, Val (evs.take k) := by
  induction v with
  | nil => intro k; rw [List.take_nil]; exact .nil
  | @inn evs b v hb ih =>
    intro k
    by_cases c : k ≤ evs.length
    · rw [List.take_append_of_le_length c]; exact ih k
    · rw [List.take_of_length_le (by rw [List.length_append, List.length_singleton]; omega)]; exact .inn v hb
  | @out evs b v hb ih =>
    intro k
    by_cases c : k ≤ evs.length
    · rw [List.take_append_of_le_length c]; exact ih k
    · rw [List.take_of_length_le (by rw [List.length_append, List.length_singleton]; omega)]; exact .out v hb
/-- the event at a place -/
theorem Val.at {evs : List Evt} (v : Val evs) {i : Nat} {e : Evt} (h : evs[i]? = some e) : evs.take (i + 1) = evs.take i ++ [e] ∧ ((e.1 = "in" ∧ e.2 ∉ came (evs.take i)) ∨ (e.1 = "out" ∧ e.2 ∈ thr (evs.take i))) := by
  have e1 : evs.take (i + 1) = evs.take i ++ [e] := by rw [List.take_add_one, h]; rfl
  have q := v.take (i + 1)
  rw [e1] at q
  exact ⟨e1, q.snoc.2⟩
/-- a timetable that a yard of n places may hold -/
structure Tt (n : Int) (evs : List Evt) : Prop where
  val : Val evs
  room : ∀ k, ((thr (evs.take k)).length : Int) ≤ n
  names : ∀ e ∈ evs, NameOk e.2
  few : evs.length ≤ 30
/-- no fault -/
theorem fault_app {n : Int} : ∀ (rest pre : List Evt), Val (pre ++ rest) → (∀ k, ((thr ((pre ++ rest).take k)).length : Int) ≤ n) → ∀ more, fault n (rest ++ more) pre.length (came pre) (gone pre) = fault n more (pre.length + rest.length) (came (pre ++ rest)) (gone (pre ++ rest))
  | [], pre, _, _, more => by rw [List.nil_append, List.append_nil, List.length_nil, Nat.add_zero]
  | e :: r, pre, v, hn, more => by
    have e0 : pre ++ e :: r = (pre ++ [e]) ++ r := by simp
    have ev : (pre ++ e :: r)[pre.length]? = some e := by simp
    obtain ⟨h1, h2⟩ := v.at ev
    have t1 : (pre ++ e :: r).take pre.length = pre := by simp
    rw [t1] at h2
    have vp : Val pre := by have := v.take pre.length; rwa [t1] at this
    obtain ⟨f1, f2, f3, f4, f5, f6⟩ := vp.facts
    have ih := fault_app (n := n) r (pre ++ [e]) (by rw [← e0]; exact v) (by rw [← e0]; exact hn) more
    rw [← e0] at ih
    have len1 : (pre ++ [e]).length = pre.length + 1 := by simp
    rw [len1] at ih
    have len2 : pre.length + (e :: r).length = pre.length + 1 + r.length := by rw [List.length_cons]; omega
    rw [len2, ← ih]
    show fault n (e :: (r ++ more)) pre.length (came pre) (gone pre) = _
    rw [fault_cons]
    rcases h2 with ⟨a1, a2⟩ | ⟨a1, a2⟩
    · have ie : isEvt e = true := by unfold isEvt; rw [a1]; decide
      rw [ie, if_neg (by simp)]
      have ro := hn (pre.length + 1)
      have t2 : (pre ++ e :: r).take (pre.length + 1) = pre ++ [e] := by rw [e0, List.take_left' (by simp)]
      rw [t2, thr_snoc] at ro
      have es : stp (thr pre) e = thr pre ++ [e.2] := by unfold stp; rw [if_pos a1]
      rw [es, List.length_append, List.length_singleton] at ro
      rw [if_neg (by rintro ⟨_, z | z⟩; exact a2 z; omega), if_neg (by rw [a1]; rintro ⟨z, _⟩; exact absurd z (by decide)), if_pos a1, came_snoc, gone_snoc, if_pos a1, if_pos a1, List.append_nil]
    · have ni : ¬ e.1 = "in" := by rw [a1]; decide
      have ie : isEvt e = true := by unfold isEvt; rw [a1]; decide
      obtain ⟨b1, b2⟩ := (f4 e.2).mp a2
      rw [ie, if_neg (by simp), if_neg (fun z => ni z.1), if_neg (by rintro ⟨_, z | z⟩; exact z b1; exact b2 z), if_neg ni, came_snoc, gone_snoc, if_neg ni, if_neg ni, List.append_nil]
theorem Tt.flt {n : Int} {evs : List Evt} (t : Tt n evs) (more : List Evt) : W63.fault n (evs ++ more) 0 [] [] = W63.fault n more evs.length (came evs) (gone evs) := by
  have := fault_app (n := n) evs [] t.val t.room more
  rw [List.nil_append, List.length_nil, Nat.zero_add, came_nil, gone_nil] at this
  exact this
theorem Tt.none {n : Int} {evs : List Evt} (t : Tt n evs) : W63.fault n evs 0 [] [] = none := by
  have := t.flt []
  rw [List.append_nil] at this
  rw [this, W63.fault_nil]
/-- the places free behind k events -/
def fr (n : Int) (evs : List Evt) (k : Nat) : Int := n - (thr (evs.take k)).length
def frees (n : Int) (evs : List Evt) : List Int := (List.range (evs.length + 1)).map (fr n evs)
theorem fr_zero {n : Int} {evs : List Evt} : fr n evs 0 = n := Int.sub_zero n
theorem Val.fr_step {n : Int} {evs : List Evt} (v : Val evs) {i : Nat} {e : Evt} (h : evs[i]? = some e) : fr n evs (i + 1) = if e.1 = "in" then fr n evs i - 1 else fr n evs i + 1 := by
  obtain ⟨e1, h2⟩ := v.at h
  have v1 := v.take i
  have v2 := v.take (i + 1)
  have g1 := v1.facts.2.2.2.2.2
  have g2 := v2.facts.2.2.2.2.2
  unfold fr
  rw [g1, g2, e1, came_snoc, gone_snoc]
  by_cases c : e.1 = "in"
  · rw [if_pos c, if_pos c, if_pos c, List.length_append, List.append_nil, List.length_singleton]
    omega
  · rw [if_neg c, if_neg c, if_neg c, List.append_nil, List.length_append, List.length_singleton]
    omega
end W63
end PartM1
section PartF4
set_option maxRecDepth 100000
set_option maxHeartbeats 2000000
namespace W63
open PySem PySem.Spec PyProof.Rows L2 DL
open PySem.XSup (XsTxt)
section
variable {P : Program} {w : World} {K : PySem.W.Frag} {mg : Str → Option Value} {base : Heap} {f : Addr} {fd : FuncData}
/-! ### lot_of, timetable_boxes -/
abbrev s_lot_of : Stmt := top 14
theorem sc_lot_of : FnScope ["things"] ["things"] (defScope s_lot_of) := ⟨rfl, rfl, rfl, by decide +kernel, rfl, by decide +kernel, by decide +kernel⟩
def w_lot_of : Wp := fun as Ψ => ∃ ns : List Str, as = [.d (.list (ns.map .str))] ∧ ns.length < 60 ∧ ∀ ms : List Str, (∀ x, x ∈ ms ↔ x ∈ ns) → ms.length ≤ ns.length → Ψ (.d (.tuple (ms.map .str)))
theorem ok_lot_of (F : Fun K "lot_of" "lot_of" s_lot_of f fd) (T : Bl mg) : FnOk P w K mg base CX0 1 f fd ["things"] (spD K w_lot_of) := by
  refine fnD F sc_lot_of (fun as Ψ ⟨i, e, _⟩ => by rw [e]; rfl) (fun cdv A outer s H E as Ψ hr ⟨ns, e, hl, q⟩ => ?_)
  subst e
  exact ss_one (ss_ret (ev_tuple T.tuple (EN.ev (en_sortSet rfl T.sorted T.set (ev_var 0 rfl ⟨ns, rfl, hl, fun ms h1 h2 => ⟨_, .inl rfl, q ms h1 h2⟩⟩)))))
def ttD (evs : List Evt) : D := .tuple (evs.map evD)
abbrev s_timetable_boxes : Stmt := top 24
theorem sc_timetable_boxes : FnScope ["timetable", "word", "box"] ["timetable"] (defScope s_timetable_boxes) := ⟨rfl, rfl, rfl, by decide +kernel, rfl, by decide +kernel, by decide +kernel⟩
def w_timetable_boxes : Wp := fun as Ψ => ∃ evs : List Evt, as = [.d (ttD evs)] ∧ evs.length ≤ 30 ∧ ∀ ms : List Str, (∀ x, x ∈ ms ↔ x ∈ W63.came evs) → ms.length ≤ 30 → Ψ (.d (.tuple (ms.map .str)))
theorem came_fm (evs : List Evt) : (evs.filterMap fun e => if e.1 = ("in" : Str) then some (PyData.str e.2) else none) = (W63.came evs).map .str := by
  unfold W63.came
  rw [List.map_filterMap]
  congr 1
  funext e
  by_cases c : e.1 = ("in" : Str) <;> simp [c]
theorem came_len (evs : List Evt) : (W63.came evs).length ≤ evs.length := List.length_filterMap_le ..
theorem ok_timetable_boxes (F : Fun K "timetable_boxes" "timetable_boxes" s_timetable_boxes f fd) (T : Bl mg) (D1 : DefOk P w K mg base CX0 "lot_of" 1 ["things"] (spD K w_lot_of)) : FnOk P w K mg base CX0 2 f fd ["timetable"] (spD K w_timetable_boxes) := by
  refine fnD F sc_timetable_boxes (fun as Ψ ⟨i, e, _⟩ => by rw [e]; rfl) (fun cdv A outer s H E as Ψ hr ⟨evs, e, hl, q⟩ => ?_)
  subst e
  have nd := sc_timetable_boxes.nd
  have cl := came_len evs
  refine ss_one (ss_ret (ev_call D1 hr (ea_cons (EN.ev (en_fm (ix := [1] ++ ([2] ++ [])) evs evD (fun e => if e.1 = ("in" : Str) then some (PyData.str e.2) else none) [("word", 1), ("box", 2)] rfl nd (ie_tup (ev_var 0 rfl ⟨_, rfl, rfl, rfl, by omega, fun p _ B => ?_, ?_⟩)))))))
  · refine gb_tup rfl (gbs_cons (gb_name 1 (gbs_cons (gb_name 2 (gbs_nil fun B => ?_) nd)) nd))
    refine et_eqS (ev_var 1 rfl (ev_str ⟨_, _, rfl, rfl, rfl, ?_⟩))
    exact ite2 (fun c1 B => ev_var 2 rfl ⟨rfl, _, rfl, if_pos (of_decide_eq_true c1)⟩) fun c1 => if_neg fun z => c1 (decide_eq_true z)
  · rw [came_fm]
    exact ea_nil ⟨_, rfl, by omega, fun ms h1 h2 => q ms h1 (by omega)⟩
/-! ### need_timetable -/
abbrev s_need_timetable : Stmt := top 23
theorem sc_need_timetable : FnScope ["yard", "value", "fault"] ["yard", "value"] (defScope s_need_timetable) := ⟨rfl, rfl, rfl, by decide +kernel, rfl, by decide +kernel, by decide +kernel⟩
def w_need : Wp := fun as Ψ => ∃ (hs : List Int) (evs : List Evt), as = [.yd hs, .d (ttD evs)] ∧ Tt hs.sum evs ∧ Ψ (.d .none)
def badAt (i : Int) : Exn := ⟨"InvalidTimetable", "at", .int i⟩
def wx_need : Wx := fun as Θ => ∃ hs : List Int, (∃ ds, as = [.yd hs, .d (.list ds)] ∧ Θ (badAt (-1))) ∨ ∃ (evs : List Evt) (i : Nat), as = [.yd hs, .d (ttD evs)] ∧ (∀ e ∈ evs, NameOk e.2) ∧ evs.length ≤ 1000 ∧ fault hs.sum evs 0 [] [] = some i ∧ Θ (badAt (i : Nat))
theorem ok_need {C Y fI : Addr} (F : Fun K "need_timetable" "need_timetable" s_need_timetable f fd) (T : Bl mg) (X1 : XsTxt P K mg "InvalidTimetable" "at" C Y fI) (D1 : DefOk P w K mg base CX0 "event_fault" 4 ["events", "most"] (spD K w_event_fault)) (D2 : DefOk P w K mg base CX0 "places" 1 ["yard"] (spD K w_places)) :
    FnOk P w K mg base (L2.CX P w) 5 f fd ["yard", "value"] (spX mg K w_need wx_need) := by
  refine fnX F sc_need_timetable (fun as Ψ ⟨_, _, e, _⟩ => by rw [e]; rfl) (fun as Θ ⟨_, h⟩ => by rcases h with ⟨_, e, _⟩ | ⟨_, _, e, _⟩ <;> rw [e] <;> rfl) (fun cdv A outer s H E as Ψ hr ⟨hs, evs, e, tt, q⟩ => ?_) (fun cdv A outer s H E as Θ hr ⟨hs, h⟩ => ?_)
  · subst e
    have nd := sc_need_timetable.nd
    have tf := tt.few
    refine ss_cons (ss_if (et_not (et_val (ev_isi (n := "tuple") T.isinstance T.tuple (ev_var 1 rfl ⟨_, true, rfl, by kernel_rfl, true, rfl, iteF (ss_nil ?_)⟩)))))
    refine ss_cons (ss_set 2 (EV.ec (ev_call D1 hr (ea_cons (ev_var 1 rfl (ea_cons (ev_call D2 (hr.mono (by decide)) (ea_cons (ev_var 0 rfl (ea_nil ⟨hs, rfl, ea_nil ⟨evs, hs.sum, rfl, tt.names, by omega, ?_⟩⟩))))))))) nd)
    rw [tt.none]
    exact ss_one (ss_if (et_notN (ev_var 2 rfl (iteF (ss_nil q)))))
  · have nd := sc_need_timetable.nd
    rcases h with ⟨ds, e, q⟩ | ⟨evs, i, e, hn, hl, hf, q⟩
    · subst e
      exact ss_cons (ss_if (et_not (et_val (ev_isi (n := "tuple") T.isinstance T.tuple (ev_var 1 rfl ⟨_, false, rfl, by kernel_rfl, false, rfl, iteT (ss_one (ss_raise X1 rfl hr (ev_neg (ev_int ⟨1, rfl, _, rfl, q⟩))))⟩)))))
    · subst e
      refine ss_cons (ss_if (et_not (et_val (ev_isi (n := "tuple") T.isinstance T.tuple (ev_var 1 rfl ⟨_, true, rfl, by kernel_rfl, true, rfl, iteF (ss_nil ?_)⟩)))))
      refine ss_cons (ss_set 2 (EV.ec (ev_call D1 hr (ea_cons (ev_var 1 rfl (ea_cons (ev_call D2 (hr.mono (by decide)) (ea_cons (ev_var 0 rfl (ea_nil ⟨hs, rfl, ea_nil ⟨evs, hs.sum, rfl, hn, hl, ?_⟩⟩))))))))) nd)
      rw [hf]
      exact ss_one (ss_if (et_notN (ev_var 2 rfl (iteT (ss_one (ss_raise X1 rfl hr (ev_var 2 rfl ⟨_, rfl, q⟩)))))))
/-! ### free_counts -/
abbrev s_free_counts : Stmt := top 25
theorem sc_free_counts : FnScope ["yard", "timetable", "counts", "word", "box"] ["yard", "timetable"] (defScope s_free_counts) := ⟨rfl, rfl, rfl, by decide +kernel, rfl, by decide +kernel, by decide +kernel⟩
def w_free_counts : Wp := fun as Ψ => ∃ (hs : List Int) (evs : List Evt), as = [.yd hs, .d (ttD evs)] ∧ Tt hs.sum evs ∧ Ψ (.d (.tuple ((frees hs.sum evs).map .int)))
theorem frees_take {n : Int} {evs : List Evt} {i : Nat} : ((List.range (i + 1)).map fun k => PyData.int (fr n evs k)).length = i + 1 := by rw [List.length_map, List.length_range]
theorem ok_free_counts (F : Fun K "free_counts" "free_counts" s_free_counts f fd) (T : Bl mg) (D1 : DefOk P w K mg base (L2.CX P w) "need_timetable" 5 ["yard", "value"] (spX mg K w_need wx_need)) (D2 : DefOk P w K mg base CX0 "places" 1 ["yard"] (spD K w_places)) :
    FnOk P w K mg base CX0 6 f fd ["yard", "timetable"] (spD K w_free_counts) := by
  refine fnD F sc_free_counts (fun as Ψ ⟨_, _, e, _⟩ => by rw [e]; rfl) (fun cdv A outer s H E as Ψ hr ⟨hs, evs, e, tt, q⟩ => ?_)
  subst e
  have nd := sc_free_counts.nd
  have tf := tt.few
  refine ss_cons (ss_expr (ev_callX D1 hr (ea_cons (ev_var 0 rfl (ea_cons (ev_var 1 rfl (ea_nil ⟨hs, evs, rfl, tt, ?_⟩)))))))
  refine ss_cons (ss_set 2 (EN.ec (en_lst (ea_cons (ev_call D2 (hr.mono (by decide)) (ea_cons (ev_var 0 rfl (ea_nil ⟨hs, rfl, ea_nil ⟨[.int hs.sum], rfl, by simp, ?_⟩⟩))))))) nd)
  refine ss_cons (ss_for (ix := [3] ++ ([4] ++ [])) PassesOwn.never rfl (ie_tup (ev_var 1 rfl ⟨_, rfl,
    fun i ρ => ∃ x3 x4, ρ = [some (.p (.yd hs)), some (.p (.d (ttD evs))), some (.own ((List.range (i + 1)).map fun k => PyData.int (fr hs.sum evs k))), x3, x4],
    ⟨none, none, by rw [show List.range (0 + 1) = [0] from rfl, List.map_singleton, fr_zero]; rfl⟩, ?_, ?_⟩)))
  · rintro i x ρ hx ⟨x3, x4, rfl⟩
    obtain ⟨ev, hev, rfl⟩ := map_at hx
    have hi : i < evs.length := (List.getElem?_eq_some_iff.mp hev).1
    have st := tt.val.fr_step (n := hs.sum) hev
    refine gb_tup rfl (gbs_cons (gb_name 3 (gbs_cons (gb_name 4 (gbs_nil ?_) nd)) nd))
    have last : atI ((List.range (i + 1)).map fun k => PyData.int (fr hs.sum evs k)) (-1) = some (PyData.int (fr hs.sum evs i)) := by
      unfold atI ixN
      rw [frees_take, if_neg (by omega), if_pos (by omega)]
      have e : ((-1 : Int) + ((i + 1 : Nat) : Int)).toNat = i := by omega
      show ((List.range (i + 1)).map fun k => PyData.int (fr hs.sum evs k))[((-1 : Int) + ((i + 1 : Nat) : Int)).toNat]? = _
      rw [e, List.getElem?_map, List.getElem?_range (by omega)]
      rfl
    have fin : ∀ z, z = fr hs.sum evs (i + 1) → ((List.range (i + 1)).map fun k => PyData.int (fr hs.sum evs k)) ++ [PyData.int z] = (List.range (i + 1 + 1)).map fun k => PyData.int (fr hs.sum evs k) := fun z hz => by
      rw [hz, List.range_succ (n := i + 1), List.map_append]
      rfl
    refine ss_one (ss_app 2 (ev_ifExp (et_eqS (ev_var 3 rfl (ev_str ⟨_, _, rfl, rfl, ?_⟩)))))
    refine ite2 (fun c => ev_sub (ev_ixO 2 (ev_neg (ev_int ⟨1, rfl, _, _, _, rfl, rfl, last, ev_int ⟨_, _, rfl, rfl, ?_⟩⟩)))) fun c => ev_add (ev_ixO 2 (ev_neg (ev_int ⟨1, rfl, _, _, _, rfl, rfl, last, ev_int ⟨_, _, rfl, rfl, ?_⟩⟩)))
    · refine ⟨_, _, rfl, rfl, by rw [frees_take]; omega, some (.p (.d (.str ev.1))), some (.p (.d (.str ev.2))), ?_⟩
      rw [fin _ (by rw [st, if_pos (of_decide_eq_true c)])]
      rfl
    · refine ⟨_, _, rfl, rfl, by rw [frees_take]; omega, some (.p (.d (.str ev.1))), some (.p (.d (.str ev.2))), ?_⟩
      rw [fin _ (by rw [st, if_neg (fun z => c (decide_eq_true z))])]
      rfl
  · rintro ρ ⟨x3, x4, rfl⟩
    refine ss_one (ss_ret (ev_tuple T.tuple (ev_take 2 rfl ⟨_, .inl rfl, ?_⟩)))
    rw [List.length_map]
    have e : ((List.range (evs.length + 1)).map fun k => PyData.int (fr hs.sum evs k)) = (frees hs.sum evs).map .int := by
      unfold frees
      rw [List.map_map]
      rfl
    rw [e]
    exact q
end
end W63
end PartF4
section PartF5
set_option maxRecDepth 100000
set_option maxHeartbeats 2000000
namespace W63
open PySem PySem.Spec PyProof.Rows L2 DL
open PySem.XSup (XsTxt)
section
variable {P : Program} {w : World} {K : PySem.W.Frag} {mg : Str → Option Value} {base : Heap} {f : Addr} {fd : FuncData}
/-! ### after_event -/
def aft (hs : List Int) (t : Tb) (e : Evt) : Tb :=
  if e.1 = ("in" : Str) then (t ++ [(e.2, min (mxl hs) (hs.sum - (t.length : Nat)))]).mergeSort (PySem.W.dataLe false tbE)
  else (t.filter fun p => decide (p.1 ≠ e.2)).map fun p => (p.1, max p.2 (min (mxl hs) (hs.sum - (t.length : Nat) + 1)))
theorem fm_filter {g : Str × Int → Str × Int} {c : Str × Int → Prop} [DecidablePred c] : ∀ t : Tb, (t.filterMap fun p => if c p then some (tbE (g p)) else none) = ((t.filter fun p => decide (c p)).map g).map tbE
  | [] => rfl
  | p :: t => by
    have ih := fm_filter (g := g) (c := c) t
    rw [List.filterMap_cons, List.filter_cons]
    by_cases h : c p
    · rw [if_pos h, if_pos (by simpa using h), List.map_cons, List.map_cons, ih]
    · rw [if_neg h, if_neg (by simpa using h), ih]
abbrev s_after_event : Stmt := top 32
theorem sc_after_event : FnScope ["yard", "table", "event", "word", "box", "high", "free", "name", "mark"] ["yard", "table", "event"] (defScope s_after_event) := ⟨rfl, rfl, rfl, by decide +kernel, rfl, by decide +kernel, by decide +kernel⟩
def w_after : Wp := fun as Ψ => ∃ (hs : List Int) (t : Tb) (e : Evt), as = [.yd hs, .d (tbD t), .d (evD e)] ∧ YardOk hs ∧ t.length ≤ 1000 ∧ Ψ (.d (tbD (aft hs t e)))
theorem ok_after (F : Fun K "after_event" "after_event" s_after_event f fd) (T : Bl mg) (D1 : DefOk P w K mg base CX0 "places" 1 ["yard"] (spD K w_places)) : FnOk P w K mg base CX0 2 f fd ["yard", "table", "event"] (spD K w_after) := by
  refine fnD F sc_after_event (fun as Ψ ⟨_, _, _, e, _⟩ => by rw [e]; rfl) (fun cdv A outer s H E as Ψ hr ⟨hs, t, e, ea, y, hl, q⟩ => ?_)
  subst ea
  have nd := sc_after_event.nd
  have yo := y.lo
  refine ss_cons (ss_asg (ev_var 2 rfl ⟨_, rfl, gb_tup (ds := [.str e.1, .str e.2]) rfl (gbs_cons (gb_name 3 (gbs_cons (gb_name 4 (gbs_nil ?_) nd)) nd))⟩))
  refine ss_cons (ss_set 5 (EV.ec (ev_max rfl hr T.max (ev_heights (ev_var 0 rfl ⟨hs, rfl, hs, .inr rfl, by omega, fun m h1 h2 => ?_⟩)))) nd)
  have em := mxl_is y.nn h1 h2
  subst em
  refine ss_cons (ss_set 6 (EV.ec (ev_sub (ev_call D1 hr (ea_cons (ev_var 0 rfl (ea_nil ⟨hs, rfl, ev_len T.len (ev_var 1 rfl ⟨_, (t.map tbE).length, rfl, rfl, _, _, rfl, rfl, ?_⟩)⟩)))))) nd)
  rw [List.length_map]
  refine ss_cons (ss_if (et_eqS (ev_var 3 rfl (ev_str ⟨_, _, rfl, rfl, ?_⟩))))
  refine ite2 (fun c => ?_) fun c => ?_
  · have ce := of_decide_eq_true c
    unfold aft at q
    rw [if_pos ce] at q
    refine ss_one <| ss_ret <| ev_tuple T.tuple <| EN.ev <| en_sortedT tbE (t ++ [(e.2, min (mxl hs) (hs.sum - (t.length : Nat)))]) hr T.sorted <| ev_cat_tup <| ev_var 1 rfl <| ev_tup <| ea_cons <| ev_tup <| ea_cons <| ev_var 4 rfl <| ea_cons <| ev_min2 rfl T.min <| ev_var 5 rfl <| ev_var 6 rfl ⟨_, _, rfl, rfl, ?_⟩
    refine ea_nil ⟨[.str e.2, .int _], rfl, by simp, ea_nil ⟨[_], rfl, by simp, _, _, rfl, rfl, by rw [List.length_map]; simp; omega, ?_⟩⟩
    refine ⟨by rw [List.map_append]; rfl, PySem.W.AllAlike.of fun a b => by simp [PySem.W.alike, PySem.W.alikeAll, tbE], PySem.W.Sortable.tuples fun b => ⟨_, _, rfl⟩, fun b _ => by simp [tbE, PyData.depth, PyData.depthAll], _, .inl rfl, q⟩
  · unfold aft at q
    rw [if_neg fun z => c (decide_eq_true z)] at q
    refine ss_nil <| ss_one <| ss_ret <| ev_tuple T.tuple <| EN.ev <| en_fm (ix := [7] ++ ([8] ++ [])) t tbE (fun p => if p.1 ≠ e.2 then some (tbE (p.1, max p.2 (min (mxl hs) (hs.sum - (t.length : Nat) + 1)))) else none) [("name", 7), ("mark", 8)] rfl nd <| ie_tup <| ev_var 1 rfl ⟨_, rfl, rfl, rfl, by omega, fun p _ B => ?_, ?_⟩
    · refine gb_tup rfl (gbs_cons (gb_name 7 (gbs_cons (gb_name 8 (gbs_nil fun B => ?_) nd)) nd))
      refine et_neS (ev_var 7 rfl (ev_var 4 rfl ⟨_, _, rfl, rfl, rfl, ?_⟩))
      refine ite2 (fun c1 B => ?_) fun c1 => if_neg fun z => c1 (decide_eq_true z)
      refine ev_tup <| ea_cons <| ev_var 7 rfl <| ea_cons <| ev_max2 rfl T.max <| ev_var 8 rfl <| ev_min2 rfl T.min <| ev_var 5 rfl <| ev_add <| ev_var 6 rfl <| ev_int ⟨_, _, rfl, rfl, _, _, rfl, rfl, _, _, rfl, rfl, ?_⟩
      exact ea_nil ⟨[.str p.1, .int _], rfl, by simp, rfl, _, rfl, if_pos (of_decide_eq_true c1)⟩
    · rw [fm_filter (g := fun p => (p.1, max p.2 (min (mxl hs) (hs.sum - (t.length : Nat) + 1)))) (c := fun p => p.1 ≠ e.2)]
      exact ⟨_, .inl rfl, q⟩
/-! ### need_apart -/
abbrev s_need_apart : Stmt := top 33
theorem sc_need_apart : FnScope ["yard", "one", "other", "boxes", "box"] ["yard", "one", "other"] (defScope s_need_apart) := ⟨rfl, rfl, rfl, by decide +kernel, rfl, by decide +kernel, by decide +kernel⟩
/-- two timetables that no box is in both of -/
structure Two (n : Int) (one other : List Evt) : Prop where
  o : Tt n one
  t : Tt n other
  ap : ∀ b, b ∈ W63.came one → b ∉ W63.came other
def w_apart : Wp := fun as Ψ => ∃ (hs : List Int) (one other : List Evt), as = [.yd hs, .d (ttD one), .d (ttD other)] ∧ Two hs.sum one other ∧ Ψ (.d .none)
def common : Exn := ⟨"Refused", "word", .str "boxes"⟩
def wx_apart : Wx := fun as Θ => ∃ hs : List Int, (∃ v1 v2, as = [.yd hs, v1, v2] ∧ wx_need [.yd hs, v1] Θ) ∨ (∃ one v2, as = [.yd hs, .d (ttD one), v2] ∧ Tt hs.sum one ∧ wx_need [.yd hs, v2] Θ) ∨
  ∃ one other b, as = [.yd hs, .d (ttD one), .d (ttD other)] ∧ Tt hs.sum one ∧ Tt hs.sum other ∧ b ∈ W63.came one ∧ b ∈ W63.came other ∧ Θ common
theorem ok_apart {C Y fI : Addr} (F : Fun K "need_apart" "need_apart" s_need_apart f fd) (T : Bl mg) (X2 : XsTxt P K mg "Refused" "word" C Y fI) (D1 : DefOk P w K mg base (L2.CX P w) "need_timetable" 5 ["yard", "value"] (spX mg K w_need wx_need)) (D2 : DefOk P w K mg base CX0 "timetable_boxes" 2 ["timetable"] (spD K w_timetable_boxes)) :
    FnOk P w K mg base (L2.CX P w) 6 f fd ["yard", "one", "other"] (spX mg K w_apart wx_apart) := by
  have nd := sc_need_apart.nd
  -- behind the two looks
  have rest : ∀ {cdv A outer s H E} {R : Rt} {hs : List Int} {one other : List Evt}, Room 5 (BXX P w K mg base ["yard", "one", "other", "boxes", "box"] "need_apart" (defScope s_need_apart) f cdv A outer s H E).A → Tt hs.sum one → Tt hs.sum other →
      ((∀ b, b ∈ W63.came one → b ∉ W63.came other) → ∀ ρ, R.nx ρ) → (∀ b, b ∈ W63.came one → b ∈ W63.came other → R.xc common) →
      SSs (BXX P w K mg base ["yard", "one", "other", "boxes", "box"] "need_apart" (defScope s_need_apart) f cdv A outer s H E) ((defBody s_need_apart).drop 2) [some (.p (.yd hs)), some (.p (.d (ttD one))), some (.p (.d (ttD other))), none, none] R := by
    intro cdv A outer s H E R hs one other hr t1 t2 k1 k2
    have f1 := t1.few
    have f2 := t2.few
    refine ss_cons (ss_set 3 (EV.ec (ev_call D2 (hr.mono (by decide)) (ea_cons (ev_var 1 rfl (ea_nil ⟨one, rfl, f1, fun ms hm hl => ?_⟩))))) nd)
    refine ss_one <| ss_if <| et_val <| ev_any rfl T.any <| EN.ev <| en_mpE (ix := [4]) (α := Str) .str [("box", 4)] rfl nd <| ie_tup <| ev_call D2 (hr.mono (by decide)) <| ea_cons <| ev_var 2 rfl <| ea_nil ⟨other, rfl, f2, fun ns hn hnl => ⟨_, rfl, ns, fun b => .bool (decide (b ∈ ms)), rfl, rfl, by omega, fun b _ B => gb_name 4 (fun B => ?_) nd, ?_⟩⟩
    · exact ev_cmp op_in_seq <| ev_var 4 rfl <| ev_var 3 rfl (do_inS (neg := false) (.inr rfl) ⟨rfl, rfl⟩)
    · refine ⟨ns.map fun b => decide (b ∈ ms), by rw [List.map_map]; rfl, _, rfl, ?_⟩
      have e : (ns.map fun b => decide (b ∈ ms)).any id = decide (∃ b ∈ W63.came one, b ∈ W63.came other) := by
        rw [Bool.eq_iff_iff, List.any_map, List.any_eq_true, decide_eq_true_iff]
        constructor
        · rintro ⟨b, h1, h2⟩
          exact ⟨b, (hm b).mp (of_decide_eq_true h2), (hn b).mp h1⟩
        · rintro ⟨b, h1, h2⟩
          exact ⟨b, (hn b).mpr h2, decide_eq_true ((hm b).mpr h1)⟩
      rw [e]
      refine ite2 (fun c => ?_) fun c => ?_
      · obtain ⟨b, h1, h2⟩ := of_decide_eq_true c
        exact ss_one (ss_raise X2 rfl hr (ev_str ⟨_, rfl, k2 b h1 h2⟩))
      · exact ss_nil (k1 (fun b h1 h2 => c (decide_eq_true ⟨b, h1, h2⟩)) _)
  refine fnX F sc_need_apart (fun as Ψ ⟨_, _, _, e, _⟩ => by rw [e]; rfl) (fun as Θ ⟨_, h⟩ => by rcases h with ⟨_, _, e, _⟩ | ⟨_, _, e, _⟩ | ⟨_, _, _, e, _⟩ <;> rw [e] <;> rfl) (fun cdv A outer s H E as Ψ hr ⟨hs, one, other, e, tw, q⟩ => ?_) (fun cdv A outer s H E as Θ hr ⟨hs, h⟩ => ?_)
  · subst e
    refine ss_cons <| ss_expr <| ev_callX D1 hr <| ea_cons <| ev_var 0 rfl <| ea_cons <| ev_var 1 rfl <| ea_nil ⟨hs, one, rfl, tw.o, ?_⟩
    refine ss_cons <| ss_expr <| ev_callX D1 hr <| ea_cons <| ev_var 0 rfl <| ea_cons <| ev_var 2 rfl <| ea_nil ⟨hs, other, rfl, tw.t, ?_⟩
    exact rest hr tw.o tw.t (fun _ _ => q) fun b h1 h2 => (tw.ap b h1 h2).elim
  · rcases h with ⟨v1, v2, e, h⟩ | ⟨one, v2, e, t1, h⟩ | ⟨one, other, b, e, t1, t2, h1, h2, q⟩
    · subst e
      exact ss_cons <| ss_exprR <| er_call D1 hr <| ea_cons <| ev_var 0 rfl <| ea_cons <| ev_var 1 rfl <| ea_nil h
    · subst e
      refine ss_cons <| ss_expr <| ev_callX D1 hr <| ea_cons <| ev_var 0 rfl <| ea_cons <| ev_var 1 rfl <| ea_nil ⟨hs, one, rfl, t1, ?_⟩
      exact ss_cons <| ss_exprR <| er_call D1 hr <| ea_cons <| ev_var 0 rfl <| ea_cons <| ev_var 2 rfl <| ea_nil h
    · subst e
      refine ss_cons <| ss_expr <| ev_callX D1 hr <| ea_cons <| ev_var 0 rfl <| ea_cons <| ev_var 1 rfl <| ea_nil ⟨hs, one, rfl, t1, ?_⟩
      refine ss_cons <| ss_expr <| ev_callX D1 hr <| ea_cons <| ev_var 0 rfl <| ea_cons <| ev_var 2 rfl <| ea_nil ⟨hs, other, rfl, t2, ?_⟩
      exact rest hr t1 t2 (fun z _ => z b h1 h2) fun _ _ _ => q
end
end W63
end PartF5
section PartF6
set_option maxRecDepth 100000
set_option maxHeartbeats 2000000
namespace W63
open PySem PySem.Spec PyProof.Rows L2 DL
open PySem.XSup (XsTxt)
section
variable {P : Program} {w : World} {K : PySem.W.Frag} {mg : Str → Option Value} {base : Heap} {f : Addr} {fd : FuncData}
/-! ### woven -/
abbrev Pt := Nat × Nat
def ptD (p : Pt) : D := .tuple [.int (p.1 : Nat), .int (p.2 : Nat)]
def cut (xs : List Evt) (a b : Nat) : List Evt := (xs.drop a).take (b - a)
def wvs (one other : List Evt) (ps : List Pt) : List Evt × Nat × Nat := ps.foldl (fun st p => (st.1 ++ (cut one st.2.1 p.1 ++ cut other st.2.2 p.2), p.1, p.2)) ([], 0, 0)
def wvL (one other : List Evt) (way : List Pt) : List Evt := (wvs one other (way ++ [(one.length, other.length)])).1
theorem cutD_cut {xs : List Evt} {a b : Nat} (ha : a ≤ xs.length) (hb : b ≤ xs.length) : DL.cutD (xs.map evD) (some (a : Int)) (some (b : Int)) = (cut xs a b).map evD := by
  unfold DL.cutD cut
  rw [HT.sIx_nat, HT.sIx_nat, List.length_map, Nat.min_eq_left ha, Nat.min_eq_left hb, List.map_take, List.map_drop]
theorem wvs_snoc {one other : List Evt} {ps : List Pt} {p : Pt} : wvs one other (ps ++ [p]) = ((wvs one other ps).1 ++ (cut one (wvs one other ps).2.1 p.1 ++ cut other (wvs one other ps).2.2 p.2), p.1, p.2) := by
  unfold wvs
  rw [List.foldl_append]
  rfl
theorem cut_len {xs : List Evt} {a b : Nat} : (cut xs a b).length ≤ b - a := by
  unfold cut
  rw [List.length_take]
  omega
/-- the way's points stand in the timetables -/
def InTt (one other : List Evt) (ps : List Pt) : Prop := ∀ p ∈ ps, p.1 ≤ one.length ∧ p.2 ≤ other.length
theorem wvs_at {one other : List Evt} : ∀ {ps : List Pt}, InTt one other ps → (wvs one other ps).2.1 ≤ one.length ∧ (wvs one other ps).2.2 ≤ other.length := fun {ps} h => by
  rcases List.eq_nil_or_concat ps with rfl | ⟨qs, p, rfl⟩
  · exact ⟨Nat.zero_le _, Nat.zero_le _⟩
  · rw [List.concat_eq_append, wvs_snoc]
    exact h p (by simp)
abbrev s_woven : Stmt := top 34
theorem sc_woven : FnScope ["one", "other", "way", "result", "first", "second", "left", "right"] ["one", "other", "way"] (defScope s_woven) := ⟨rfl, rfl, rfl, by decide +kernel, rfl, by decide +kernel, by decide +kernel⟩
def w_woven : Wp := fun as Ψ => ∃ (one other : List Evt) (way : List Pt), as = [.d (ttD one), .d (ttD other), .d (.list (way.map ptD))] ∧ InTt one other way ∧ way.length ≤ 100 ∧ one.length ≤ 30 ∧ other.length ≤ 30 ∧ Ψ (.d (ttD (wvL one other way)))
theorem wvs_lenG {one other : List Evt} : ∀ (ps : List Pt) (st : List Evt × Nat × Nat), InTt one other ps →
    (ps.foldl (fun st p => (st.1 ++ (cut one st.2.1 p.1 ++ cut other st.2.2 p.2), p.1, p.2)) st).1.length ≤ st.1.length + ps.length * (one.length + other.length)
  | [], st, _ => by simp
  | p :: ps, st, h => by
    rw [List.foldl_cons]
    have ih := wvs_lenG ps (st.1 ++ (cut one st.2.1 p.1 ++ cut other st.2.2 p.2), p.1, p.2) fun q hq => h q (List.mem_cons_of_mem _ hq)
    have h2 := h p List.mem_cons_self
    have c1 := cut_len (xs := one) (a := st.2.1) (b := p.1)
    have c2 := cut_len (xs := other) (a := st.2.2) (b := p.2)
    have e : (p :: ps).length * (one.length + other.length) = ps.length * (one.length + other.length) + (one.length + other.length) := by rw [List.length_cons, Nat.add_mul, Nat.one_mul]
    rw [e]
    have el : (st.1 ++ (cut one st.2.1 p.1 ++ cut other st.2.2 p.2)).length = st.1.length + ((cut one st.2.1 p.1).length + (cut other st.2.2 p.2).length) := by rw [List.length_append, List.length_append]
    have ih' : _ ≤ (st.1 ++ (cut one st.2.1 p.1 ++ cut other st.2.2 p.2)).length + _ := ih
    rw [el] at ih'
    omega
theorem wvs_len {one other : List Evt} {ps : List Pt} (h : InTt one other ps) : (wvs one other ps).1.length ≤ ps.length * (one.length + other.length) := by
  have := wvs_lenG ps ([], 0, 0) h
  rw [List.length_nil, Nat.zero_add] at this
  exact this
theorem ok_woven (F : Fun K "woven" "woven" s_woven f fd) (T : Bl mg) : FnOk P w K mg base CX0 1 f fd ["one", "other", "way"] (spD K w_woven) := by
  refine fnD F sc_woven (fun as Ψ ⟨_, _, _, e, _⟩ => by rw [e]; rfl) (fun cdv A outer s H E as Ψ hr ⟨one, other, way, e, hw, hl, l1, l2, q⟩ => ?_)
  subst e
  have nd := sc_woven.nd
  have hw2 : InTt one other (way ++ [(one.length, other.length)]) := fun p hp => by
    rcases List.mem_append.mp hp with z | z
    · exact hw p z
    · have : p = (one.length, other.length) := by simpa using z
      rw [this]
      exact ⟨Nat.le_refl _, Nat.le_refl _⟩
  refine ss_cons <| ss_set 3 (EN.ec <| en_lst <| ea_nil ⟨[], rfl, by simp, ?_⟩) nd
  refine ss_cons <| ss_asg <| ev_tup <| ea_cons <| ev_int <| ea_cons <| ev_int <| ea_nil ⟨[.int 0, .int 0], rfl, by decide, _, rfl, gb_tup rfl <| gbs_cons (gb_name 4 (gbs_cons (gb_name 5 (gbs_nil ?_) nd)) nd)⟩
  refine ss_cons <| ss_for (ix := [6] ++ ([7] ++ [])) PassesOwn.never rfl <| ie_list <| EN.ev <| en_cat <| ev_var 2 rfl <| EN.ev <| en_lst <| ea_cons <| ev_tup <| ea_cons <| ev_len T.len <| ev_var 0 rfl ⟨_, (one.map evD).length, rfl, rfl, ea_cons <| ev_len T.len <| ev_var 1 rfl ⟨_, (other.map evD).length, rfl, rfl, ?_⟩⟩
  rw [List.length_map, List.length_map]
  refine ea_nil ⟨[.int (one.length : Nat), .int (other.length : Nat)], rfl, by simp, ea_nil ⟨[ptD (one.length, other.length)], rfl, by simp, _, _, rfl, rfl, by rw [List.length_map]; simp; omega, ?_⟩⟩
  have ei : way.map ptD ++ [ptD (one.length, other.length)] = (way ++ [(one.length, other.length)]).map ptD := by rw [List.map_append]; rfl
  rw [ei]
  refine ⟨_, rfl, fun i ρ => ∃ x6 x7, ρ = [some (.p (.d (ttD one))), some (.p (.d (ttD other))), some (.p (.d (.list (way.map ptD)))), some (.own ((wvs one other ((way ++ [(one.length, other.length)]).take i)).1.map evD)), some (.p (.d (.int ((wvs one other ((way ++ [(one.length, other.length)]).take i)).2.1 : Nat)))), some (.p (.d (.int ((wvs one other ((way ++ [(one.length, other.length)]).take i)).2.2 : Nat)))), x6, x7],
    ⟨none, none, rfl⟩, ?_, ?_⟩
  · rintro i x ρ hx ⟨x6, x7, rfl⟩
    obtain ⟨p, hp, rfl⟩ := map_at hx
    have hi : i < (way ++ [(one.length, other.length)]).length := (List.getElem?_eq_some_iff.mp hp).1
    have hpm := hw2 p (List.mem_of_getElem? hp)
    have hin : InTt one other ((way ++ [(one.length, other.length)]).take i) := fun z hz => hw2 z (List.mem_of_mem_take hz)
    have hat := wvs_at hin
    have hlen := wvs_len hin
    have et : (way ++ [(one.length, other.length)]).take (i + 1) = (way ++ [(one.length, other.length)]).take i ++ [p] := by rw [List.take_add_one, hp]; rfl
    refine gb_tup rfl <| gbs_cons (gb_name 6 (gbs_cons (gb_name 7 (gbs_nil ?_) nd)) nd)
    refine ss_cons <| ss_augL 3 (en_cat <| EN.ev <| en_list T.list <| ev_slT <| ev_var 0 rfl <| eo_some <| ev_var 4 rfl ⟨_, rfl, eo_some <| ev_var 6 rfl ⟨_, rfl, _, rfl, _, .inr rfl, ?_⟩⟩) nd
    rw [cutD_cut hat.1 hpm.1]
    refine EN.ev <| en_list T.list <| ev_slT <| ev_var 1 rfl <| eo_some <| ev_var 5 rfl ⟨_, rfl, eo_some <| ev_var 7 rfl ⟨_, rfl, _, rfl, _, .inr rfl, ?_⟩⟩
    rw [cutD_cut hat.2 hpm.2]
    have c1 := cut_len (xs := one) (a := (wvs one other ((way ++ [(one.length, other.length)]).take i)).2.1) (b := p.1)
    have c2 := cut_len (xs := other) (a := (wvs one other ((way ++ [(one.length, other.length)]).take i)).2.2) (b := p.2)
    have hb : ((way ++ [(one.length, other.length)]).take i).length * (one.length + other.length) ≤ 101 * 60 := Nat.mul_le_mul (by rw [List.length_take]; rw [List.length_append, List.length_singleton] at hi; omega) (by omega)
    refine ⟨_, _, rfl, rfl, by rw [List.length_map, List.length_map]; omega, _, rfl, by rw [List.length_append, List.length_map, List.length_map, List.length_map]; omega, ?_⟩
    refine ss_one <| ss_par 4 5 (by decide) rfl nd (EV.ec <| ev_var 6 rfl <| EV.ec <| ev_var 7 rfl ⟨some (.p (.d (.int (p.1 : Nat)))), some (.p (.d (.int (p.2 : Nat)))), ?_⟩)
    rw [et, wvs_snoc, ← List.map_append, ← List.map_append]
    rfl
  · rintro ρ ⟨x6, x7, rfl⟩
    refine ss_one <| ss_ret <| ev_tuple T.tuple <| ev_take 3 rfl ⟨_, .inl rfl, ?_⟩
    rw [List.length_map, List.take_length]
    exact q
end
end W63
end PartF6
section PartF7
set_option maxRecDepth 100000
set_option maxHeartbeats 2000000
namespace W63
open PySem PySem.Spec PyProof.Rows L2 DL
open PySem.XSup (XsTxt)
/-! ### assoc lists with types -/
section
variable {κ β : Type} [DecidableEq κ]
def vl (kvs : List (κ × β)) (k : κ) : Option β := (kvs.find? fun q => decide (q.1 = k)).map (·.2)
def pt (kvs : List (κ × β)) (k : κ) (v : β) : List (κ × β) := if (kvs.any fun q => decide (q.1 = k)) = true then kvs.map fun q => if q.1 = k then (q.1, v) else q else kvs ++ [(k, v)]
variable {κ2 : Type} [DecidableEq κ2] {e : κ → κ2} {g : β → D}
theorem valD_enc (inj : ∀ a b, e a = e b → a = b) (k : κ) : ∀ kvs : List (κ × β), valD (kvs.map fun q => (e q.1, g q.2)) (e k) = (vl kvs k).map g
  | [] => rfl
  | q :: kvs => by
    have ih := valD_enc inj k kvs
    by_cases c : q.1 = k
    · have h1 : valD ((q :: kvs).map fun q => (e q.1, g q.2)) (e k) = some (g q.2) := by simp [valD, List.find?_cons, c]
      have h2 : vl (q :: kvs) k = some q.2 := by simp [vl, List.find?_cons, c]
      rw [h1, h2]
      rfl
    · have c' : ¬ e q.1 = e k := fun z => c (inj _ _ z)
      have h1 : valD ((q :: kvs).map fun q => (e q.1, g q.2)) (e k) = valD (kvs.map fun q => (e q.1, g q.2)) (e k) := by simp [valD, List.find?_cons, c']
      have h2 : vl (q :: kvs) k = vl kvs k := by simp [vl, List.find?_cons, c]
      rw [h1, h2, ih]
theorem any_enc (inj : ∀ a b, e a = e b → a = b) (k : κ) (kvs : List (κ × β)) : ((kvs.map fun q => (e q.1, g q.2)).any fun q => decide (q.1 = e k)) = kvs.any fun q => decide (q.1 = k) := by
  rw [List.any_map]
  congr 1
  funext q
  show decide (e q.1 = e k) = decide (q.1 = k)
  rw [decide_eq_decide]
  exact ⟨inj _ _, fun z => by rw [z]⟩
theorem putD_enc (inj : ∀ a b, e a = e b → a = b) (k : κ) (v : β) (kvs : List (κ × β)) : putD (kvs.map fun q => (e q.1, g q.2)) (e k) (g v) = (pt kvs k v).map fun q => (e q.1, g q.2) := by
  unfold putD pt
  rw [any_enc inj]
  by_cases c : (kvs.any fun q => decide (q.1 = k)) = true
  · rw [if_pos c, if_pos c, List.map_map, List.map_map]
    refine List.map_congr_left fun q _ => ?_
    show (if e q.1 = e k then (e q.1, g v) else (e q.1, g q.2)) = ((fun q => (e q.1, g q.2)) (if q.1 = k then (q.1, v) else q))
    by_cases z : q.1 = k
    · rw [if_pos z, if_pos (by rw [z])]
    · rw [if_neg z, if_neg fun y => z (inj _ _ y)]
  · rw [if_neg c, if_neg c, List.map_append]
    rfl
theorem pt_len (kvs : List (κ × β)) (k : κ) (v : β) : (pt kvs k v).length ≤ kvs.length + 1 := by
  unfold pt
  split
  · rw [List.length_map]; omega
  · rw [List.length_append, List.length_singleton]; omega
end
/-! ### weave_states -/
abbrev WK := Nat × Nat × Tb
abbrev WV := Int × List Evt
def tbN (t : Tb) : List NK := t.map fun p => .tup [.text p.1, .num p.2]
def keyL (k : WK) : List NK := [.num (k.1 : Nat), .num (k.2.1 : Nat), .tup (tbN k.2.2)]
def keyN (k : WK) : NK := .tup (keyL k)
def valN (v : WV) : D := .tuple [.int v.1, ttD v.2]
def encS (q : WK × WV) : NK × D := (keyN q.1, valN q.2)
theorem tbN_inj : ∀ {a b : Tb}, tbN a = tbN b → a = b
  | [], [], _ => rfl
  | [], _ :: _, h => by cases h
  | _ :: _, [], h => by cases h
  | p :: a, q :: b, h => by
    unfold tbN at h
    rw [List.map_cons, List.map_cons] at h
    obtain ⟨h1, h2⟩ := List.cons.inj h
    have := tbN_inj (a := a) (b := b) h2
    rw [this]
    congr 1
    injection h1 with h1
    injection h1 with h3 h4
    injection h3 with h3
    injection h4 with h4 h5
    injection h4 with h4
    exact Prod.ext h3 h4
theorem keyN_inj (a b : WK) (h : keyN a = keyN b) : a = b := by
  obtain ⟨a1, a2, a3⟩ := a
  obtain ⟨b1, b2, b3⟩ := b
  unfold keyN keyL at h
  injection h with h
  injection h with h1 h
  injection h with h2 h
  injection h with h3 h
  injection h1 with h1
  injection h2 with h2
  injection h3 with h3
  have e3 := tbN_inj h3
  have e1 : a1 = b1 := by exact Int.ofNat.inj h1
  have e2 : a2 = b2 := by exact Int.ofNat.inj h2
  have e4 : a3 = b3 := e3
  rw [e1, e2, e4]
theorem tbN_datas : ∀ t : Tb, NestedKey.datas (tbN t) = t.map tbE
  | [] => rfl
  | p :: t => by
    show NestedKey.data (.tup [.text p.1, .num p.2]) :: NestedKey.datas (tbN t) = _
    rw [tbN_datas t]
    rfl
theorem keyN_data (k : WK) : (NestedKey.tup (keyL k)).data = .tuple [.int (k.1 : Nat), .int (k.2.1 : Nat), tbD k.2.2] := by
  show PyData.tuple [.int (k.1 : Nat), .int (k.2.1 : Nat), .tuple (NestedKey.datas (tbN k.2.2))] = _
  rw [tbN_datas]
  rfl
theorem keyN_depth (k : WK) : (NestedKey.tup (keyL k)).depth ≤ 8 := by
  have tb : ∀ t : Tb, NestedKey.depthAll (tbN t) ≤ 3 := by
    intro t
    induction t with
    | nil => exact Nat.zero_le _
    | cons p t ih =>
      show max (NestedKey.depth (.tup [.text p.1, .num p.2])) (NestedKey.depthAll (tbN t)) ≤ 3
      have h1 : NestedKey.depth (.tup [.text p.1, .num p.2]) ≤ 3 := by simp [NestedKey.depth, NestedKey.depthAll]
      omega
  have h := tb k.2.2
  unfold keyL
  simp only [NestedKey.depth, NestedKey.depthAll]
  omega
def itS (q : WK × WV) : D := .tuple [.tuple [.int (q.1.1 : Nat), .int (q.1.2.1 : Nat), tbD q.1.2.2], .tuple [.int q.2.1, ttD q.2.2]]
theorem items_enc (kvs : List (WK × WV)) : (kvs.map encS).map itemN = kvs.map itS := by
  rw [List.map_map]
  refine List.map_congr_left fun q _ => ?_
  show PyData.tuple [(NestedKey.tup (keyL q.1)).data, valN q.2] = _
  rw [keyN_data]
  rfl
abbrev Nx := Nat × Nat × Evt
def nexts (one other : List Evt) (l r : Nat) : List Nx := (match one[l]? with | some e => [(l + 1, r, e)] | none => []) ++ (match other[r]? with | some e => [(l, r + 1, e)] | none => [])
def nxD (x : Nx) : D := .tuple [.int (x.1 : Nat), .int (x.2.1 : Nat), evD x.2.2]
def stE (hs : List Int) (t : Tb) (v : WV) (acc : List (WK × WV)) (x : Nx) : List (WK × WV) :=
  if x.2.2.1 = ("in" : Str) ∧ ((t.length : Nat) : Int) = hs.sum then acc
  else if enough hs (aft hs t x.2.2) = true then pt acc (x.1, x.2.1, aft hs t x.2.2) (((vl acc (x.1, x.2.1, aft hs t x.2.2)).getD (0, [])).1 + v.1, v.2 ++ [x.2.2]) else acc
def stR (hs : List Int) (one other : List Evt) (acc : List (WK × WV)) (q : WK × WV) : List (WK × WV) := (nexts one other q.1.1 q.1.2.1).foldl (stE hs q.1.2.2 q.2) acc
def stA (hs : List Int) (one other : List Evt) (rows : List (WK × WV)) : List (WK × WV) := rows.foldl (stR hs one other) []
def wst (hs : List Int) (one other : List Evt) : Nat → List (WK × WV)
  | 0 => [((0, 0, []), (1, []))]
  | n + 1 => stA hs one other (wst hs one other n)
theorem nexts_len (one other : List Evt) (l r : Nat) : (nexts one other l r).length ≤ 2 := by
  unfold nexts
  rw [List.length_append]
  cases one[l]? <;> cases other[r]? <;> simp
theorem stE_len {hs : List Int} {t : Tb} {v : WV} {acc : List (WK × WV)} {x : Nx} : (stE hs t v acc x).length ≤ acc.length + 1 := by
  unfold stE
  split
  · omega
  · split
    · exact pt_len _ _ _
    · omega
theorem foldE_len {hs : List Int} {t : Tb} {v : WV} : ∀ (xs : List Nx) (acc : List (WK × WV)), (xs.foldl (stE hs t v) acc).length ≤ acc.length + xs.length
  | [], acc => by simp
  | x :: xs, acc => by
    rw [List.foldl_cons, List.length_cons]
    have h1 := foldE_len (hs := hs) (t := t) (v := v) xs (stE hs t v acc x)
    have h2 := stE_len (hs := hs) (t := t) (v := v) (acc := acc) (x := x)
    omega
theorem stR_len {hs : List Int} {one other : List Evt} {acc : List (WK × WV)} {q : WK × WV} : (stR hs one other acc q).length ≤ acc.length + 2 := by
  have h1 := foldE_len (hs := hs) (t := q.1.2.2) (v := q.2) (nexts one other q.1.1 q.1.2.1) acc
  have h2 := nexts_len one other q.1.1 q.1.2.1
  unfold stR
  omega
theorem foldR_len {hs : List Int} {one other : List Evt} : ∀ (xs acc : List (WK × WV)), (xs.foldl (stR hs one other) acc).length ≤ acc.length + 2 * xs.length
  | [], acc => by simp
  | x :: xs, acc => by
    rw [List.foldl_cons, List.length_cons]
    have h1 := foldR_len (hs := hs) (one := one) (other := other) xs (stR hs one other acc x)
    have h2 := stR_len (hs := hs) (one := one) (other := other) (acc := acc) (q := x)
    omega
theorem wst_len {hs : List Int} {one other : List Evt} : ∀ n, (wst hs one other n).length ≤ 2 ^ n
  | 0 => Nat.le_refl _
  | n + 1 => by
    have h1 := foldR_len (hs := hs) (one := one) (other := other) (wst hs one other n) []
    have h2 := wst_len (hs := hs) (one := one) (other := other) n
    rw [List.length_nil] at h1
    show (stA hs one other (wst hs one other n)).length ≤ _
    unfold stA
    rw [Nat.pow_succ]
    omega
theorem mem_pt {κ β : Type} [DecidableEq κ] {kvs : List (κ × β)} {k : κ} {v : β} {q : κ × β} (h : q ∈ pt kvs k v) : q ∈ kvs ∨ q = (k, v) := by
  unfold pt at h
  split at h
  · obtain ⟨p, hp, e⟩ := List.mem_map.mp h
    by_cases c : p.1 = k
    · rw [if_pos c] at e
      exact .inr (by rw [← e, c])
    · rw [if_neg c] at e
      exact .inl (e ▸ hp)
  · rcases List.mem_append.mp h with h | h
    · exact .inl h
    · exact .inr (by simpa using h)
theorem aft_len {hs : List Int} {t : Tb} {e : Evt} : (aft hs t e).length ≤ t.length + 1 := by
  unfold aft
  split
  · rw [List.length_mergeSort, List.length_append]; exact Nat.le_refl _
  · rw [List.length_map]
    have := List.length_filter_le (fun p => decide (p.1 ≠ e.2)) t
    omega
/-- what is kept of a state behind n events -/
def WSz (n : Nat) (q : WK × WV) : Prop := q.1.2.2.length ≤ n ∧ q.2.2.length ≤ n
theorem stE_sz {hs : List Int} {t : Tb} {v : WV} {n : Nat} (h1 : t.length ≤ n) (h2 : v.2.length ≤ n) {acc : List (WK × WV)} {x : Nx} (h : ∀ q ∈ acc, WSz (n + 1) q) : ∀ q ∈ stE hs t v acc x, WSz (n + 1) q := by
  intro q hq
  unfold stE at hq
  split at hq
  · exact h q hq
  · split at hq
    · rcases mem_pt hq with z | z
      · exact h q z
      · subst z
        refine ⟨?_, ?_⟩
        · have := aft_len (hs := hs) (t := t) (e := x.2.2)
          show (aft hs t x.2.2).length ≤ n + 1
          omega
        · show (v.2 ++ [x.2.2]).length ≤ n + 1
          rw [List.length_append, List.length_singleton]
          omega
    · exact h q hq
theorem foldE_sz {hs : List Int} {t : Tb} {v : WV} {n : Nat} (h1 : t.length ≤ n) (h2 : v.2.length ≤ n) : ∀ (xs : List Nx) (acc : List (WK × WV)), (∀ q ∈ acc, WSz (n + 1) q) → ∀ q ∈ xs.foldl (stE hs t v) acc, WSz (n + 1) q
  | [], acc, h => h
  | x :: xs, acc, h => foldE_sz h1 h2 xs _ (stE_sz h1 h2 h)
theorem foldR_sz {hs : List Int} {one other : List Evt} {n : Nat} : ∀ (xs acc : List (WK × WV)), (∀ q ∈ xs, WSz n q) → (∀ q ∈ acc, WSz (n + 1) q) → ∀ q ∈ xs.foldl (stR hs one other) acc, WSz (n + 1) q
  | [], acc, _, h => h
  | x :: xs, acc, h0, h => by
    have hx := h0 x List.mem_cons_self
    exact foldR_sz xs _ (fun q hq => h0 q (List.mem_cons_of_mem _ hq)) (foldE_sz hx.1 hx.2 _ _ h)
theorem wst_sz {hs : List Int} {one other : List Evt} : ∀ n, ∀ q ∈ wst hs one other n, WSz n q
  | 0 => fun q hq => by
    have : q = ((0, 0, []), (1, [])) := by simpa [wst] using hq
    subst this
    exact ⟨Nat.le_refl _, Nat.le_refl _⟩
  | n + 1 => foldR_sz _ _ (wst_sz n) fun q hq => nomatch hq
end W63
end PartF7
section PartF8
set_option maxRecDepth 100000
set_option maxHeartbeats 4000000
namespace DL
open PySem PySem.Spec PyProof.Rows L2
/-- if c: .. else: .., both ways to the same slots -/
theorem ss_ifJ {X : Cx} {ρ : Ev} {pos : Pos} {e : Expr} {s1 s2 : List Stmt} {R : Rt} (h : ET X e ρ fun z ρ1 => ∃ (c : Prop) (_ : Decidable c) (ρ2 : Ev), z = decide c ∧ (c → SSs X s1 ρ1 { R with nx := fun ρ' => ρ' = ρ2 }) ∧ (¬ c → SSs X s2 ρ1 { R with nx := fun ρ' => ρ' = ρ2 }) ∧ R.nx ρ2) : SS X (.If e s1 s2 pos) ρ R :=
  ss_if (fun Γ fp F σ H Φ t k => h Γ fp F σ H Φ t fun b F' H' ρ' fp' t' f ⟨c, dc, ρ2, ez, h1, h2, q⟩ => k b F' H' ρ' fp' t' f (by
    subst ez
    by_cases hc : c
    · rw [if_pos (decide_eq_true hc)]
      exact (h1 hc).mono (fun _ z => by rw [z]; exact q) (fun _ _ z => z) (fun _ z => z) (fun _ z => z) (fun _ z => z)
    · rw [if_neg (by simpa using hc)]
      exact (h2 hc).mono (fun _ z => by rw [z]; exact q) (fun _ _ z => z) (fun _ z => z) (fun _ z => z) (fun _ z => z)))
end DL
namespace W63
open PySem PySem.Spec PyProof.Rows L2 DL
open PySem.XSup (XsTxt)
section
variable {P : Program} {w : World} {K : PySem.W.Frag} {mg : Str → Option Value} {base : Heap} {f : Addr} {fd : FuncData}
abbrev s_weave_states : Stmt := top 38
theorem sc_weave_states : FnScope ["yard", "one", "other", "rows", "step", "found", "key", "many", "events", "first", "second", "table", "nexts", "left", "right", "event", "behind", "more"] ["yard", "one", "other"] (defScope s_weave_states) := ⟨rfl, rfl, rfl, by decide +kernel, rfl, by decide +kernel, by decide +kernel⟩
def w_states : Wp := fun as Ψ => ∃ (hs : List Int) (one other : List Evt), as = [.yd hs, .d (ttD one), .d (ttD other)] ∧ YardOk hs ∧ Two hs.sum one other ∧ one.length + other.length ≤ 12 ∧ Ψ (.d (.list ((wst hs one other (one.length + other.length)).map fun q => valN q.2)))
theorem nexts_l {one other : List Evt} {l r : Nat} : nexts one other l r = (if h : l < one.length then [(l + 1, r, one[l])] else []) ++ (if h : r < other.length then [(l, r + 1, other[r])] else []) := by
  unfold nexts
  congr 1
  · by_cases h : l < one.length
    · rw [dif_pos h, List.getElem?_eq_getElem h]
    · rw [dif_neg h, List.getElem?_eq_none (by omega)]
  · by_cases h : r < other.length
    · rw [dif_pos h, List.getElem?_eq_getElem h]
    · rw [dif_neg h, List.getElem?_eq_none (by omega)]
theorem at_ev {one : List Evt} {l : Nat} (h : l < one.length) : atI (one.map evD) (l : Nat) = some (evD one[l]) := by
  unfold atI ixN
  rw [List.length_map, if_pos (by omega), if_pos (by omega)]
  show (one.map evD)[((l : Nat) : Int).toNat]? = _
  rw [Int.toNat_natCast, List.getElem?_map, List.getElem?_eq_getElem h]
  rfl
theorem encS_vals (kvs : List (WK × WV)) : (kvs.map encS).map (·.2) = kvs.map fun q => valN q.2 := by
  rw [List.map_map]
  rfl
theorem ok_states (F : Fun K "weave_states" "weave_states" s_weave_states f fd) (T : Bl mg) (D1 : DefOk P w K mg base (L2.CX P w) "need_apart" 6 ["yard", "one", "other"] (spX mg K w_apart wx_apart)) (D2 : DefOk P w K mg base CX0 "places" 1 ["yard"] (spD K w_places))
    (D3 : DefOk P w K mg base CX0 "after_event" 2 ["yard", "table", "event"] (spD K w_after)) (D4 : DefOk P w K mg base CX0 "enough" 2 ["yard", "table"] (spD K w_enough)) :
    FnOk P w K mg base (L2.CX P w) 7 f fd ["yard", "one", "other"] (spX mg K w_states wx_apart) := by
  have nd := sc_weave_states.nd
  refine fnX F sc_weave_states (fun as Ψ ⟨_, _, _, e, _⟩ => by rw [e]; rfl) (fun as Θ ⟨_, h⟩ => by rcases h with ⟨_, _, e, _⟩ | ⟨_, _, e, _⟩ | ⟨_, _, _, e, _⟩ <;> rw [e] <;> rfl) (fun cdv A outer s H E as Ψ hr ⟨hs, one, other, e, y, tw, hl, q⟩ => ?_) (fun cdv A outer s H E as Θ hr h => ?_)
  · subst e
    have f1 := tw.o.few
    have f2 := tw.t.few
    refine ss_cons <| ss_expr <| ev_callX D1 hr <| ea_cons <| ev_var 0 rfl <| ea_cons <| ev_var 1 rfl <| ea_cons <| ev_var 2 rfl <| ea_nil ⟨hs, one, other, rfl, tw, ?_⟩
    refine ss_cons ?_
    refine ss_ndisp (k := 6) 3 ?_ ?_ ?_
    · exact nd
    · exact hr
    refine (ev_tup <| ea_cons <| ev_int <| ea_cons <| ev_int <| ea_cons (ev_tup <| ea_nil ⟨[], rfl, by simp, ?_⟩))
    refine ea_nil ⟨[.int 0, .int 0, .tuple []], rfl, by simp, ev_tup <| ea_cons <| ev_int <| ea_cons (ev_tup <| ea_nil ⟨[], rfl, by simp, ?_⟩)⟩
    refine ea_nil ⟨[.int 1, .tuple []], rfl, by simp, keyL (0, 0, []), valN (1, []), by rw [keyN_data]; rfl, keyN_depth _, by rfl, ?_⟩
    refine ss_cons <| ss_for (ix := [4]) PassesOwn.leaving rfl <| ie_range1 T.range <| ev_add <| ev_len T.len <| ev_var 1 rfl ⟨_, (one.map evD).length, rfl, rfl, ev_len T.len <| ev_var 2 rfl ⟨_, (other.map evD).length, rfl, rfl, _, _, rfl, rfl, ?_⟩⟩
    rw [List.length_map, List.length_map]
    refine ⟨_, rfl, by omega, by omega, fun i ρ => ∃ x4 x5 x6 x7 x8 x9 x10 x11 x12 x13 x14 x15 x16 x17, ρ = [some (.p (.yd hs)), some (.p (.d (ttD one))), some (.p (.d (ttD other))), some (.cust (dnC P w ((wst hs one other i).map encS))), x4, x5, x6, x7, x8, x9, x10, x11, x12, x13, x14, x15, x16, x17],
      ⟨none, none, none, none, none, none, none, none, none, none, none, none, none, none, rfl⟩, ?_, ?_⟩
    · rintro i x ρ hx ⟨x4, x5, x6, x7, x8, x9, x10, x11, x12, x13, x14, x15, x16, x17, rfl⟩
      have hi : i < one.length + other.length := by
        have := (List.getElem?_eq_some_iff.mp hx).1
        rw [rangeD_len] at this
        omega
      have wl := wst_len (hs := hs) (one := one) (other := other) i
      have pw : 2 ^ i ≤ 2 ^ 12 := Nat.pow_le_pow_right (by decide) (by omega)
      refine gb_name 4 ?_ nd
      refine ss_cons <| ss_set 5 (ec_nnew ?_) nd
      refine ss_cons <| ss_for (ix := [6] ++ (([7] ++ ([8] ++ [])) ++ [])) PassesOwn.leaving rfl <| ie_itemsN 3 ?_
      refine ⟨fun j ρ => ∃ x6 x7 x8 x9 x10 x11 x12 x13 x14 x15 x16 x17, ρ = [some (.p (.yd hs)), some (.p (.d (ttD one))), some (.p (.d (ttD other))), none, some (.p (.d x)), some (.cust (dnC P w ((((wst hs one other i).take j).foldl (stR hs one other) []).map encS))), x6, x7, x8, x9, x10, x11, x12, x13, x14, x15, x16, x17],
        ⟨x6, x7, x8, x9, x10, x11, x12, x13, x14, x15, x16, x17, rfl⟩, ?_, ?_⟩
      · rintro j xj ρ hj ⟨y6, y7, y8, y9, y10, y11, y12, y13, y14, y15, y16, y17, rfl⟩
        rw [items_enc] at hj
        obtain ⟨st, hst, rfl⟩ := map_at hj
        obtain ⟨⟨l, r, t⟩, many, evs⟩ := st
        obtain ⟨z1, z2⟩ := wst_sz (hs := hs) (one := one) (other := other) i _ (List.mem_of_getElem? hst)
        have z1' : t.length ≤ i := z1
        have z2' : evs.length ≤ i := z2
        have hjl := (List.getElem?_eq_some_iff.mp hst).1
        have acl := foldR_len (hs := hs) (one := one) (other := other) ((wst hs one other i).take j) []
        rw [List.length_nil, List.length_take] at acl
        have tk : (wst hs one other i).take (j + 1) = (wst hs one other i).take j ++ [((l, r, t), many, evs)] := by rw [List.take_add_one, hst]; rfl
        generalize hac : ((wst hs one other i).take j).foldl (stR hs one other) [] = acc at acl ⊢
        have nx : ((wst hs one other i).take (j + 1)).foldl (stR hs one other) [] = (nexts one other l r).foldl (stE hs t (many, evs)) acc := by
          rw [tk, List.foldl_append, hac]
          rfl
        refine gb_tup rfl <| gbs_cons <| gb_name 6 (gbs_cons <| gb_tup rfl <| gbs_cons <| gb_name 7 (gbs_cons <| gb_name 8 (gbs_nil <| gbs_nil ?_) nd) nd) nd
        refine ss_cons <| ss_asg <| ev_var 6 rfl ⟨_, rfl, gb_tup rfl <| gbs_cons <| gb_name 9 (gbs_cons <| gb_name 10 (gbs_cons <| gb_name 11 (gbs_nil ?_) nd) nd) nd⟩
        refine ss_cons <| ss_set 12 (EN.ec <| en_lst <| ea_nil ⟨[], rfl, by simp, ?_⟩) nd
        refine ss_cons <| ss_ifJ <| et_lt <| ev_var 9 rfl <| ev_len T.len <| ev_var 1 rfl ⟨_, (one.map evD).length, rfl, rfl, _, _, rfl, rfl, ?_⟩
        rw [List.length_map]
        refine ⟨(l : Int) < (one.length : Nat), inferInstance, [some (.p (.yd hs)), some (.p (.d (ttD one))), some (.p (.d (ttD other))), none, some (.p (.d x)), some (.cust (dnC P w (acc.map encS))), some (.p (.d (.tuple [.int (l : Nat), .int (r : Nat), tbD t]))), some (.p (.d (.int many))), some (.p (.d (ttD evs))), some (.p (.d (.int (l : Nat)))), some (.p (.d (.int (r : Nat)))), some (.p (.d (tbD t))), some (.own ((if h : l < one.length then [(l + 1, r, one[l])] else []).map nxD)), y13, y14, y15, y16, y17], rfl, fun c => ?_, fun c => ?_, ?_⟩
        · have c' : l < one.length := by omega
          refine ss_one <| ss_app 12 <| ev_tup <| ea_cons <| ev_add <| ev_var 9 rfl <| ev_int ⟨_, _, rfl, rfl, ea_cons <| ev_var 10 rfl <| ea_cons <| ev_ix <| ev_var 1 rfl <| ev_var 9 rfl ⟨_, _, _, rfl, rfl, .inr (.inl ⟨_, rfl, at_ev c'⟩), ?_⟩⟩
          refine ea_nil ⟨[.int (l + 1), .int (r : Nat), evD one[l]], rfl, by simp, _, _, rfl, rfl, by simp, ?_⟩
          rw [dif_pos c']
          rfl
        · have c' : ¬ l < one.length := by omega
          refine ss_nil ?_
          rw [dif_neg c']
          rfl
        refine ss_cons <| ss_ifJ <| et_lt <| ev_var 10 rfl <| ev_len T.len <| ev_var 2 rfl ⟨_, (other.map evD).length, rfl, rfl, _, _, rfl, rfl, ?_⟩
        rw [List.length_map]
        refine ⟨(r : Int) < (other.length : Nat), inferInstance, [some (.p (.yd hs)), some (.p (.d (ttD one))), some (.p (.d (ttD other))), none, some (.p (.d x)), some (.cust (dnC P w (acc.map encS))), some (.p (.d (.tuple [.int (l : Nat), .int (r : Nat), tbD t]))), some (.p (.d (.int many))), some (.p (.d (ttD evs))), some (.p (.d (.int (l : Nat)))), some (.p (.d (.int (r : Nat)))), some (.p (.d (tbD t))), some (.own ((nexts one other l r).map nxD)), y13, y14, y15, y16, y17], rfl, fun c => ?_, fun c => ?_, ?_⟩
        · have c' : r < other.length := by omega
          refine ss_one <| ss_app 12 <| ev_tup <| ea_cons <| ev_var 9 rfl <| ea_cons <| ev_add <| ev_var 10 rfl <| ev_int ⟨_, _, rfl, rfl, ea_cons <| ev_ix <| ev_var 2 rfl <| ev_var 10 rfl ⟨_, _, _, rfl, rfl, .inr (.inl ⟨_, rfl, at_ev c'⟩), ?_⟩⟩
          refine ea_nil ⟨[.int (l : Nat), .int (r + 1), evD other[r]], rfl, by simp, _, _, rfl, rfl, by rw [List.length_map]; split <;> simp, ?_⟩
          rw [nexts_l, dif_pos c', List.map_append]
          rfl
        · have c' : ¬ r < other.length := by omega
          refine ss_nil ?_
          rw [nexts_l, dif_neg c', List.append_nil]
        refine ss_one <| ss_for (ix := [13] ++ ([14] ++ ([15] ++ []))) PassesOwn.leaving rfl <| ie_list <| ev_take 12 rfl ⟨_, rfl, fun m ρ => ∃ y13 y14 y15 y16 y17, ρ = [some (.p (.yd hs)), some (.p (.d (ttD one))), some (.p (.d (ttD other))), none, some (.p (.d x)), some (.cust (dnC P w ((((nexts one other l r).take m).foldl (stE hs t (many, evs)) acc).map encS))), some (.p (.d (.tuple [.int (l : Nat), .int (r : Nat), tbD t]))), some (.p (.d (.int many))), some (.p (.d (ttD evs))), some (.p (.d (.int (l : Nat)))), some (.p (.d (.int (r : Nat)))), some (.p (.d (tbD t))), some (.p (.d (.list ((nexts one other l r).map nxD)))), y13, y14, y15, y16, y17], ⟨y13, y14, y15, y16, y17, rfl⟩, ?_, ?_⟩
        · rintro m xm ρ hm ⟨y13, y14, y15, y16, y17, rfl⟩
          obtain ⟨⟨l', r', e⟩, hxm, rfl⟩ := map_at hm
          have hml := (List.getElem?_eq_some_iff.mp hxm).1
          have nl := nexts_len one other l r
          have al := foldE_len (hs := hs) (t := t) (v := (many, evs)) ((nexts one other l r).take m) acc
          rw [List.length_take] at al
          have tk2 : ((nexts one other l r).take (m + 1)).foldl (stE hs t (many, evs)) acc = stE hs t (many, evs) (((nexts one other l r).take m).foldl (stE hs t (many, evs)) acc) (l', r', e) := by
            rw [List.take_add_one, hxm]
            show (((nexts one other l r).take m) ++ [(l', r', e)]).foldl _ _ = _
            rw [List.foldl_append]
            rfl
          generalize ((nexts one other l r).take m).foldl (stE hs t (many, evs)) acc = ac at al tk2 ⊢
          refine gb_tup rfl <| gbs_cons <| gb_name 13 (gbs_cons <| gb_name 14 (gbs_cons <| gb_name 15 (gbs_nil ?_) nd) nd) nd
          refine ss_cons <| ss_if <| ET.mono (Q := fun b ρ1 => b = decide (e.1 = ("in" : Str) ∧ ((t.length : Nat) : Int) = hs.sum) ∧ ρ1 = [some (.p (.yd hs)), some (.p (.d (ttD one))), some (.p (.d (ttD other))), none, some (.p (.d x)), some (.cust (dnC P w (ac.map encS))), some (.p (.d (.tuple [.int (l : Nat), .int (r : Nat), tbD t]))), some (.p (.d (.int many))), some (.p (.d (ttD evs))), some (.p (.d (.int (l : Nat)))), some (.p (.d (.int (r : Nat)))), some (.p (.d (tbD t))), some (.p (.d (.list ((nexts one other l r).map nxD)))), some (.p (.d (.int (l' : Nat)))), some (.p (.d (.int (r' : Nat)))), some (.p (.d (evD e))), y16, y17]) ?_ ?_
          · refine EW.et <| ew_and <| et_eqS <| ev_ix <| ev_var 15 rfl <| ev_int ⟨_, _, .str e.1, rfl, rfl, .inr (.inl ⟨_, rfl, rfl⟩), ev_str ⟨e.1, "in", rfl, rfl, ?_⟩⟩
            by_cases c1 : e.1 = ("in" : Str)
            · rw [if_pos (decide_eq_true c1)]
              refine ew_and1 <| et_eqI <| ev_len T.len <| ev_var 11 rfl ⟨_, (t.map tbE).length, rfl, rfl, ev_call D2 (hr.mono (by decide)) <| ea_cons <| ev_var 0 rfl <| ea_nil ⟨hs, rfl, _, _, rfl, rfl, ?_, rfl⟩⟩
              rw [List.length_map]
              by_cases c2 : ((t.length : Nat) : Int) = hs.sum
              · rw [decide_eq_true c2, decide_eq_true ⟨c1, c2⟩]
              · rw [decide_eq_false c2, decide_eq_false fun z => c2 z.2]
            · rw [if_neg (by simpa using c1)]
              exact ⟨(decide_eq_false fun z => c1 z.1).symm, rfl⟩
          rintro b ρ1 ⟨rfl, rfl⟩
          by_cases c : e.1 = ("in" : Str) ∧ ((t.length : Nat) : Int) = hs.sum
          · rw [if_pos (decide_eq_true c)]
            refine ss_one <| ss_continue ?_
            have e9 : stE hs t (many, evs) ac (l', r', e) = ac := if_pos c
            rw [e9] at tk2
            subst tk2
            exact ⟨_, _, _, _, _, rfl⟩
          rw [if_neg (by simpa using c)]
          refine ss_nil <| ss_cons <| ss_set 16 (EV.ec <| ev_call D3 (hr.mono (by decide)) <| ea_cons <| ev_var 0 rfl <| ea_cons <| ev_var 11 rfl <| ea_cons <| ev_var 15 rfl <| ea_nil ⟨hs, t, e, rfl, y, by omega, ?_⟩) nd
          have bl := aft_len (hs := hs) (t := t) (e := e)
          refine ss_one <| ss_if <| et_val <| ev_call D4 (hr.mono (by decide)) <| ea_cons <| ev_var 0 rfl <| ea_cons <| ev_var 16 rfl <| ea_nil ⟨hs, aft hs t e, rfl, y, by omega, _, rfl, ?_⟩
          by_cases c3 : enough hs (aft hs t e) = true
          · rw [if_pos c3]
            have e9 : stE hs t (many, evs) ac (l', r', e) = pt ac (l', r', aft hs t e) (((vl ac (l', r', aft hs t e)).getD (0, [])).1 + many, evs ++ [e]) := (if_neg c).trans (if_pos c3)
            have e10 : putD (ac.map encS) (.tup (keyL (l', r', aft hs t e))) (valN (((vl ac (l', r', aft hs t e)).getD (0, [])).1 + many, evs ++ [e])) = (((nexts one other l r).take (m + 1)).foldl (stE hs t (many, evs)) acc).map encS := by
              rw [tk2, e9]
              exact putD_enc (e := keyN) (g := valN) keyN_inj (l', r', aft hs t e) _ ac
            have e11 : valD (ac.map encS) (.tup (keyL (l', r', aft hs t e))) = (vl ac (l', r', aft hs t e)).map valN := valD_enc (e := keyN) (g := valN) keyN_inj (l', r', aft hs t e) ac
            have e12 : ((vl ac (l', r', aft hs t e)).map valN).getD (valN (0, [])) = valN ((vl ac (l', r', aft hs t e)).getD (0, [])) := by cases vl ac (l', r', aft hs t e) <;> rfl
            refine ss_cons <| ss_set 17 (EV.ec <| ev_ix <| ev_nget2 5 hr <| ev_tup <| ea_cons <| ev_var 13 rfl <| ea_cons <| ev_var 14 rfl <| ea_cons <| ev_var 16 rfl ?_) nd
            refine ea_nil ⟨[.int (l' : Nat), .int (r' : Nat), tbD (aft hs t e)], rfl, by simp, ev_tup <| ea_cons <| ev_int <| ea_cons (ev_tup <| ea_nil ⟨[], rfl, by simp, ?_⟩)⟩
            refine ea_nil ⟨[.int 0, .tuple []], rfl, by simp, ac.map encS, keyL (l', r', aft hs t e), valN (0, []), rfl, by rw [keyN_data], keyN_depth _, by rfl, ?_⟩
            rw [e11, e12]
            refine ev_int ⟨_, _, .int ((vl ac (l', r', aft hs t e)).getD (0, [])).1, rfl, rfl, .inr (.inl ⟨_, rfl, rfl⟩), ?_⟩
            refine ss_one <| ss_nput (kvs0 := ac.map encS) 5 hr <| ev_tup <| ea_cons <| ev_add <| ev_var 17 rfl <| ev_var 7 rfl ⟨_, _, rfl, rfl, ea_cons <| ev_cat_tup <| ev_var 8 rfl <| ev_tup <| ea_cons <| ev_var 15 rfl <| ea_nil ⟨[evD e], rfl, by simp, evs.map evD, _, rfl, rfl, by rw [List.length_map]; simp; omega, ?_⟩⟩
            refine ea_nil ⟨[.int (((vl ac (l', r', aft hs t e)).getD (0, [])).1 + many), .tuple (evs.map evD ++ [evD e])], rfl, by simp, rfl, ev_tup <| ea_cons <| ev_var 13 rfl <| ea_cons <| ev_var 14 rfl <| ea_cons <| ev_var 16 rfl ?_⟩
            refine ea_nil ⟨[.int (l' : Nat), .int (r' : Nat), tbD (aft hs t e)], rfl, by simp, ac.map encS, keyL (l', r', aft hs t e), valN (((vl ac (l', r', aft hs t e)).getD (0, [])).1 + many, evs ++ [e]), ?_, rfl, by rw [keyN_data], keyN_depth _, by rw [List.length_map]; omega, ?_⟩
            · show _ = DL.P.d (PyData.tuple [_, .tuple ((evs ++ [e]).map evD)])
              rw [List.map_append]
              rfl
            · rw [e10]
              exact ⟨_, _, _, _, _, rfl⟩
          · rw [if_neg c3]
            have e9 : stE hs t (many, evs) ac (l', r', e) = ac := (if_neg c).trans (if_neg c3)
            rw [e9] at tk2
            subst tk2
            exact ss_nil ⟨_, _, _, _, _, rfl⟩
        · rintro ρ ⟨y13, y14, y15, y16, y17, rfl⟩
          rw [List.length_map, List.take_length, ← nx]
          exact ⟨_, _, _, _, _, _, _, _, _, _, _, _, rfl⟩
      · rintro ρ ⟨y6, y7, y8, y9, y10, y11, y12, y13, y14, y15, y16, y17, rfl⟩
        rw [items_enc, List.length_map, List.take_length]
        refine ss_one <| ss_mv 3 5 nd ?_
        exact ⟨some (.p (.d x)), none, y6, y7, y8, y9, y10, y11, y12, y13, y14, y15, y16, y17, rfl⟩
    · rintro ρ ⟨x4, x5, x6, x7, x8, x9, x10, x11, x12, x13, x14, x15, x16, x17, rfl⟩
      refine ss_one <| ss_ret <| EN.ev <| en_nvals 3 hr T.list ?_
      rw [encS_vals, rangeD_len]
      have en : (((one.length : Nat) : Int) + ((other.length : Nat) : Int)).toNat = one.length + other.length := by omega
      rw [en]
      exact q
  · obtain ⟨hs, h'⟩ := id h
    rcases h' with ⟨v1, v2, e, _⟩ | ⟨one, v2, e, _⟩ | ⟨one, other, b, e, _⟩
    all_goals
      subst e
      exact ss_cons <| ss_exprR <| er_call D1 hr <| ea_cons <| ev_var 0 rfl <| ea_cons <| ev_var 1 rfl <| ea_cons <| ev_var 2 rfl <| ea_nil h
end
end W63
end PartF8
section PartF9
set_option maxRecDepth 100000
set_option maxHeartbeats 4000000
namespace DL
open PySem PySem.Spec PyProof.Rows L2
section
variable {X : Cx} {ρ : Ev} {pos p : Pos} {a b e : Expr}
/-- if xs: a list's truth -/
theorem et_truL {Qb : Bool → Ev → Prop} (h : EV X a ρ fun y ρ1 => ∃ ds, y = .d (.list ds) ∧ Qb (!ds.isEmpty) ρ1) (he : ∀ whole, isTrue a X.env whole = (do let v ← whole; standAt a.pos; holding [v] (truthy v)) := by intro _; rfl) : ET X a ρ Qb := fun Γ fp F σ H Φ t k pins s I =>
  (pt_truth pe_w he).run pins s σ H Φ I (h Γ fp F σ H _ t fun v F1 H1 y ρ1 fp1 t1 f1 r1 ⟨ds, ey, q⟩ => by
    subst ey
    obtain ⟨a1, vs, rfl, s1, d1⟩ := rep_lst r1
    refine ⟨!vs.isEmpty, .inl ⟨vs, t1.ex.seq s1, rfl⟩, ?_⟩
    have e1 : vs.isEmpty = ds.isEmpty := by
      cases d1 <;> rfl
    rw [e1]
    exact k _ F1 H1 ρ1 fp1 t1 f1 q)
end
end DL
namespace W63
open PySem PySem.Spec PyProof.Rows L2 DL
open PySem.XSup (XsTxt)
section
variable {P : Program} {w : World} {K : PySem.W.Frag} {mg : Str → Option Value} {base : Heap} {f : Addr} {fd : FuncData}
abbrev s_some_weave : Stmt := top 39
theorem sc_some_weave : FnScope ["yard", "one", "other", "found"] ["yard", "one", "other"] (defScope s_some_weave) := ⟨rfl, rfl, rfl, by decide +kernel, rfl, by decide +kernel, by decide +kernel⟩
def someD (rows : List (WK × WV)) : D := match rows with | [] => .none | q :: _ => ttD q.2.2
def w_some : Wp := fun as Ψ => ∃ (hs : List Int) (one other : List Evt), as = [.yd hs, .d (ttD one), .d (ttD other)] ∧ YardOk hs ∧ Two hs.sum one other ∧ one.length + other.length ≤ 12 ∧ Ψ (.d (someD (wst hs one other (one.length + other.length))))
theorem ok_some (F : Fun K "some_weave" "some_weave" s_some_weave f fd) (T : Bl mg) (D1 : DefOk P w K mg base (L2.CX P w) "weave_states" 7 ["yard", "one", "other"] (spX mg K w_states wx_apart)) :
    FnOk P w K mg base (L2.CX P w) 8 f fd ["yard", "one", "other"] (spX mg K w_some wx_apart) := by
  have nd := sc_some_weave.nd
  refine fnX F sc_some_weave (fun as Ψ ⟨_, _, _, e, _⟩ => by rw [e]; rfl) (fun as Θ ⟨_, h⟩ => by rcases h with ⟨_, _, e, _⟩ | ⟨_, _, e, _⟩ | ⟨_, _, _, e, _⟩ <;> rw [e] <;> rfl) (fun cdv A outer s H E as Ψ hr ⟨hs, one, other, e, y, tw, hl, q⟩ => ?_) (fun cdv A outer s H E as Θ hr h => ?_)
  · subst e
    refine ss_cons <| ss_set 3 (EV.ec <| ev_callX D1 hr <| ea_cons <| ev_var 0 rfl <| ea_cons <| ev_var 1 rfl <| ea_cons <| ev_var 2 rfl <| ea_nil ⟨hs, one, other, rfl, y, tw, hl, ?_⟩) nd
    generalize wst hs one other (one.length + other.length) = rows at q ⊢
    refine ss_one <| ss_ret <| ev_ifExp <| et_truL <| ev_var 3 rfl ⟨_, rfl, ?_⟩
    cases rows with
    | nil => exact iteF (ev_none q)
    | cons r rows =>
      refine iteT (ev_ix <| ev_ix <| ev_var 3 rfl <| ev_int ⟨_, _, valN r.2, rfl, rfl, .inl ⟨_, rfl, ?_⟩, ev_int ⟨_, _, ttD r.2.2, rfl, rfl, .inr (.inl ⟨_, rfl, rfl⟩), q⟩⟩)
      unfold atI ixN
      rw [if_pos (by omega), if_pos (by rw [List.map_cons, List.length_cons]; omega)]
      rfl
  · obtain ⟨hs, h'⟩ := id h
    rcases h' with ⟨v1, v2, e, _⟩ | ⟨one, v2, e, _⟩ | ⟨one, other, b, e, _⟩
    all_goals
      subst e
      exact ss_cons <| ss_setR 3 (er_call D1 hr <| ea_cons <| ev_var 0 rfl <| ea_cons <| ev_var 1 rfl <| ea_cons <| ev_var 2 rfl <| ea_nil h) nd
abbrev s_count_weaves : Stmt := top 40
theorem sc_count_weaves : FnScope ["yard", "one", "other", "many", "events"] ["yard", "one", "other"] (defScope s_count_weaves) := ⟨rfl, rfl, rfl, by decide +kernel, rfl, by decide +kernel, by decide +kernel⟩
def w_count : Wp := fun as Ψ => ∃ (hs : List Int) (one other : List Evt), as = [.yd hs, .d (ttD one), .d (ttD other)] ∧ YardOk hs ∧ Two hs.sum one other ∧ one.length + other.length ≤ 12 ∧ Ψ (.d (.int ((wst hs one other (one.length + other.length)).map fun q => q.2.1).sum))
theorem ok_count (F : Fun K "count_weaves" "count_weaves" s_count_weaves f fd) (T : Bl mg) (D1 : DefOk P w K mg base (L2.CX P w) "weave_states" 7 ["yard", "one", "other"] (spX mg K w_states wx_apart)) :
    FnOk P w K mg base (L2.CX P w) 8 f fd ["yard", "one", "other"] (spX mg K w_count wx_apart) := by
  have nd := sc_count_weaves.nd
  refine fnX F sc_count_weaves (fun as Ψ ⟨_, _, _, e, _⟩ => by rw [e]; rfl) (fun as Θ ⟨_, h⟩ => by rcases h with ⟨_, _, e, _⟩ | ⟨_, _, e, _⟩ | ⟨_, _, _, e, _⟩ <;> rw [e] <;> rfl) (fun cdv A outer s H E as Ψ hr ⟨hs, one, other, e, y, tw, hl, q⟩ => ?_) (fun cdv A outer s H E as Θ hr h => ?_)
  · subst e
    have wl := wst_len (hs := hs) (one := one) (other := other) (one.length + other.length)
    have pw : 2 ^ (one.length + other.length) ≤ 2 ^ 12 := Nat.pow_le_pow_right (by decide) hl
    refine ss_one <| ss_ret <| ev_sum rfl T.sum <| EN.ev <| en_mpE (ix := [3] ++ ([4] ++ [])) (α := WK × WV) (fun q => valN q.2) [("many", 3), ("events", 4)] rfl nd <| ie_list <| ev_callX D1 hr <| ea_cons <| ev_var 0 rfl <| ea_cons <| ev_var 1 rfl <| ea_cons <| ev_var 2 rfl <| ea_nil ⟨hs, one, other, rfl, y, tw, hl, _, rfl, wst hs one other (one.length + other.length), fun q => .int q.2.1, rfl, rfl, by omega, fun b _ B => ?_, ?_⟩
    · exact gb_tup rfl <| gbs_cons <| gb_name 3 (gbs_cons <| gb_name 4 (gbs_nil fun B => ev_var 3 rfl ⟨rfl, rfl⟩) nd) nd
    · exact ⟨(wst hs one other (one.length + other.length)).map fun q => q.2.1, .inl (by rw [List.map_map]; rfl), q⟩
  · obtain ⟨hs, h'⟩ := id h
    rcases h' with ⟨v1, v2, e, _⟩ | ⟨one, v2, e, _⟩ | ⟨one, other, b, e, _⟩
    all_goals
      subst e
      exact ss_one <| ss_retR <| er_callB (cr_sumA rfl) T.sum <| er_lc [("many", 3), ("events", 4)] rfl nd <| er_call D1 hr <| ea_cons <| ev_var 0 rfl <| ea_cons <| ev_var 1 rfl <| ea_cons <| ev_var 2 rfl <| ea_nil h
end
end W63
end PartF9
section PartM2
set_option maxRecDepth 100000
set_option maxHeartbeats 2000000
/-! M2: who is there from when to when, plain. -/
namespace W63
open PySem PySem.Spec PyProof.Rows L2 DL
/-- the place behind the coming -/
def cmI (evs : List Evt) (b : Str) : Nat := evs.idxOf (("in", b) : Evt) + 1
def lvI (evs : List Evt) (b : Str) : Nat := evs.idxOf (("out", b) : Evt)
abbrev Prs := List (Str × (Nat × Nat))
def prs (evs : List Evt) (k : Nat) : Prs := (came (evs.take k)).map fun b => (b, (cmI evs b, if b ∈ gone (evs.take k) then lvI evs b else evs.length))
theorem idx_at {evs : List Evt} {k : Nat} {e : Evt} (h : evs[k]? = some e) (n : e ∉ evs.take k) : evs.idxOf e = k := by
  have hk := (List.getElem?_eq_some_iff.mp h).1
  have s : evs = evs.take k ++ e :: evs.drop (k + 1) := by
    have e1 : evs[k] = e := (List.getElem?_eq_some_iff.mp h).2
    rw [← e1, List.getElem_cons_drop, List.take_append_drop]
  have key : (evs.take k ++ e :: evs.drop (k + 1)).idxOf e = (evs.take k).length := by
    rw [List.idxOf_append, if_neg n, List.idxOf_cons_self]
    simp
  rw [← s, List.length_take, Nat.min_eq_left (by omega)] at key
  exact key
theorem mem_came {evs : List Evt} {b : Str} : b ∈ came evs ↔ (("in", b) : Evt) ∈ evs := by
  unfold came
  rw [List.mem_filterMap]
  constructor
  · rintro ⟨⟨x, y⟩, h1, h2⟩
    by_cases c : x = ("in" : Str)
    · rw [if_pos c] at h2
      cases h2
      subst c
      exact h1
    · rw [if_neg c] at h2
      cases h2
  · intro h
    exact ⟨_, h, if_pos rfl⟩
theorem Val.words {evs : List Evt} (v : Val evs) : ∀ e ∈ evs, e.1 = "in" ∨ e.1 = "out" := by
  intro e he
  obtain ⟨i, hi⟩ := List.getElem?_of_mem he
  rcases (v.at hi).2 with ⟨h, _⟩ | ⟨h, _⟩
  · exact .inl h
  · exact .inr h
theorem mem_gone {evs : List Evt} (v : Val evs) {b : Str} : b ∈ gone evs ↔ (("out", b) : Evt) ∈ evs := by
  unfold gone
  rw [List.mem_filterMap]
  constructor
  · rintro ⟨⟨x, y⟩, h1, h2⟩
    by_cases c : x = ("in" : Str)
    · rw [if_pos c] at h2
      cases h2
    · rw [if_neg c] at h2
      cases h2
      rcases v.words _ h1 with z | z
      · exact absurd z c
      · have z' : x = "out" := z
        rw [z'] at h1
        exact h1
  · intro h
    exact ⟨_, h, if_neg ne_out⟩
theorem mem_take_idx {evs : List Evt} {e : Evt} {k : Nat} : e ∈ evs.take k ↔ e ∈ evs ∧ evs.idxOf e < k := by
  constructor
  · intro h
    refine ⟨List.mem_of_mem_take h, ?_⟩
    have h1 : (evs.take k ++ evs.drop k).idxOf e = (evs.take k).idxOf e := by rw [List.idxOf_append, if_pos h]
    rw [List.take_append_drop] at h1
    have h2 := List.idxOf_lt_length_of_mem h
    rw [List.length_take] at h2
    omega
  · rintro ⟨h1, h2⟩
    have hl : evs.idxOf e < evs.length := List.idxOf_lt_length_of_mem h1
    have h3 : evs[evs.idxOf e] = e := List.getElem_idxOf hl
    have h4 : (evs.take k)[evs.idxOf e]'(by rw [List.length_take]; omega) = e := by rw [List.getElem_take]; exact h3
    rw [← h4]
    exact List.getElem_mem _
theorem prs_vl {evs : List Evt} {k : Nat} {b : Str} (h : b ∈ came (evs.take k)) : vl (prs evs k) b = some (cmI evs b, if b ∈ gone (evs.take k) then lvI evs b else evs.length) := by
  unfold prs vl
  generalize came (evs.take k) = l at h
  induction l with
  | nil => cases h
  | cons x l ih =>
    rw [List.map_cons, List.find?_cons]
    by_cases c : x = b
    · subst c
      simp
    · have := ih ((List.mem_cons.mp h).resolve_left fun z => c z.symm)
      simp only [c, decide_false]
      exact this
theorem prs_any {evs : List Evt} {k : Nat} {b : Str} : ((prs evs k).any fun q => decide (q.1 = b)) = decide (b ∈ came (evs.take k)) := by
  unfold prs
  rw [Bool.eq_iff_iff, List.any_eq_true, decide_eq_true_iff]
  constructor
  · rintro ⟨q, hq, e⟩
    obtain ⟨x, hx, rfl⟩ := List.mem_map.mp hq
    have : x = b := of_decide_eq_true e
    exact this ▸ hx
  · intro h
    exact ⟨_, List.mem_map.mpr ⟨b, h, rfl⟩, decide_eq_true rfl⟩
theorem prs_in {evs : List Evt} (v : Val evs) {k : Nat} {b : Str} (h : evs[k]? = some (("in", b) : Evt)) : pt (prs evs k) b (k + 1, evs.length) = prs evs (k + 1) := by
  obtain ⟨e1, h2⟩ := v.at h
  have nb : b ∉ came (evs.take k) := by
    rcases h2 with ⟨_, z⟩ | ⟨z, _⟩
    · exact z
    · exact absurd (show ("in" : Str) = "out" from z) (by decide)
  have vt := v.take k
  have ng : b ∉ gone (evs.take k) := fun z => nb (vt.facts.2.2.2.2.1 b z)
  have ix : evs.idxOf (("in", b) : Evt) = k := idx_at h fun z => nb (mem_came.mpr z)
  unfold pt
  rw [prs_any, if_neg (by simpa using nb)]
  unfold prs
  rw [e1, came_snoc, gone_snoc]
  simp only [if_true, List.append_nil, List.map_append, List.map_cons, List.map_nil]
  rw [if_neg ng]
  unfold cmI
  rw [ix]
theorem prs_out {evs : List Evt} (v : Val evs) {k : Nat} {b : Str} (h : evs[k]? = some (("out", b) : Evt)) : b ∈ came (evs.take k) ∧ pt (prs evs k) b (cmI evs b, k) = prs evs (k + 1) := by
  obtain ⟨e1, h2⟩ := v.at h
  have vt := v.take k
  have tb : b ∈ thr (evs.take k) := by
    rcases h2 with ⟨z, _⟩ | ⟨_, z⟩
    · exact absurd (show ("out" : Str) = "in" from z) (by decide)
    · exact z
  obtain ⟨cb, ng⟩ := (vt.facts.2.2.2.1 b).mp tb
  refine ⟨cb, ?_⟩
  have ix : evs.idxOf (("out", b) : Evt) = k := idx_at h fun z => ng ((mem_gone vt).mpr z)
  unfold pt
  rw [prs_any, if_pos (by simpa using cb)]
  unfold prs
  rw [e1, came_snoc, gone_snoc]
  simp only [ne_out, if_false, List.append_nil, List.map_map]
  refine List.map_congr_left fun x _ => ?_
  show (if x = b then (x, (cmI evs b, k)) else (x, (cmI evs x, if x ∈ gone (evs.take k) then lvI evs x else evs.length))) = (x, (cmI evs x, if x ∈ gone (evs.take k) ++ [b] then lvI evs x else evs.length))
  by_cases c : x = b
  · subst c
    rw [if_pos rfl, if_pos (List.mem_append_right _ (by simp))]
    unfold lvI
    rw [ix]
  · rw [if_neg c]
    have : (x ∈ gone (evs.take k) ++ [b]) ↔ x ∈ gone (evs.take k) := by
      rw [List.mem_append, List.mem_singleton]
      exact ⟨fun z => z.resolve_right c, .inl⟩
    simp only [this]
/-- who is there at f and at l -/
def stay (evs : List Evt) (f l : Nat) : Nat := ((thr (evs.take f)).filter fun b => decide (b ∈ thr (evs.take l))).length
theorem prs_stay {evs : List Evt} (v : Val evs) {f l : Nat} (hfl : f ≤ l) (hl : l ≤ evs.length) : ((prs evs evs.length).filter fun q => decide (q.2.1 ≤ f ∧ l ≤ q.2.2)).length = stay evs f l := by
  have fa := v.facts
  have ff := (v.take f).facts
  have fl := (v.take l).facts
  unfold prs stay
  rw [List.take_length, List.filter_map, List.length_map]
  refine List.Perm.length_eq ((List.perm_ext_iff_of_nodup (fa.1.filter _) (ff.2.1.filter _)).mpr fun b => ?_)
  rw [List.mem_filter, List.mem_filter, decide_eq_true_iff, ff.2.2.2.1 b, fl.2.2.2.1 b]
  show b ∈ came evs ∧ decide (cmI evs b ≤ f ∧ l ≤ if b ∈ gone evs then lvI evs b else evs.length) = true ↔ _
  rw [decide_eq_true_iff, mem_came, mem_came, mem_came, mem_gone (v.take f), mem_gone (v.take l), mem_take_idx, mem_take_idx, mem_take_idx, mem_take_idx]
  by_cases c0 : b ∈ gone evs
  · have c := (mem_gone v).mp c0
    rw [if_pos c0]
    unfold cmI lvI
    constructor
    · rintro ⟨h1, h2, h3⟩
      exact ⟨⟨⟨h1, by omega⟩, fun z => by omega⟩, ⟨h1, by omega⟩, fun z => by omega⟩
    · rintro ⟨⟨⟨h1, h2⟩, h3⟩, ⟨h4, h5⟩, h6⟩
      refine ⟨h1, by omega, ?_⟩
      have : ¬ evs.idxOf (("out", b) : Evt) < l := fun z => h6 ⟨c, z⟩
      omega
  · have c := fun z => c0 ((mem_gone v).mpr z)
    rw [if_neg c0]
    unfold cmI
    constructor
    · rintro ⟨h1, h2, h3⟩
      exact ⟨⟨⟨h1, by omega⟩, fun z => c z.1⟩, ⟨h1, by omega⟩, fun z => c z.1⟩
    · rintro ⟨⟨⟨h1, h2⟩, h3⟩, ⟨h4, h5⟩, h6⟩
      exact ⟨h1, by omega, hl⟩
end W63
end PartM2
section PartF10
set_option maxRecDepth 100000
set_option maxHeartbeats 4000000
namespace W63
open PySem PySem.Spec PyProof.Rows L2 DL
open PySem.XSup (XsTxt)
section
variable {P : Program} {w : World} {K : PySem.W.Frag} {mg : Str → Option Value} {base : Heap} {f : Addr} {fd : FuncData}
abbrev s_presence_table : Stmt := top 26
theorem sc_presence_table : FnScope ["timetable", "table", "at", "word", "box"] ["timetable"] (defScope s_presence_table) := ⟨rfl, rfl, rfl, by decide +kernel, rfl, by decide +kernel, by decide +kernel⟩
def pD (v : Nat × Nat) : D := .tuple [.int (v.1 : Nat), .int (v.2 : Nat)]
def pk (l : Prs) : List (Key × D) := l.map fun q => (Sum.inr q.1, pD q.2)
theorem inr_inj (a b : Str) (h : (Sum.inr a : Key) = Sum.inr b) : a = b := by cases h; rfl
theorem pk_put (l : Prs) (b : Str) (v : Nat × Nat) : putD (pk l) (Sum.inr b) (pD v) = pk (pt l b v) := putD_enc (e := fun b : Str => (Sum.inr b : Key)) (g := pD) inr_inj b v l
theorem pk_val (l : Prs) (b : Str) : valD (pk l) (Sum.inr b) = (vl l b).map pD := valD_enc (e := fun b : Str => (Sum.inr b : Key)) (g := pD) inr_inj b l
theorem prs_len {evs : List Evt} {k : Nat} : (prs evs k).length ≤ evs.length := by
  unfold prs
  rw [List.length_map]
  have h1 := came_len (evs.take k)
  rw [List.length_take] at h1
  omega
def w_pres : WpC := fun as Ψ => ∃ evs : List Evt, as = [.d (ttD evs)] ∧ Val evs ∧ evs.length ≤ 30 ∧ Ψ (.dk (pk (prs evs evs.length)))
theorem ok_presence (F : Fun K "presence_table" "presence_table" s_presence_table f fd) (T : Bl mg) : FnOk P w K mg base CX0 1 f fd ["timetable"] (spC K w_pres) := by
  have nd := sc_presence_table.nd
  refine fnC F sc_presence_table (fun as Ψ ⟨_, e, _⟩ => by rw [e]; rfl) (fun cdv A outer s H E as Ψ hr ⟨evs, e, v, hl, q⟩ => ?_)
  subst e
  refine ss_cons <| ss_set 1 (ec_dict (n := 0) ?_ pe_dnewK) nd
  refine ss_cons <| ss_for (ix := [2] ++ (([3] ++ ([4] ++ [])) ++ [])) PassesOwn.never rfl <| ie_enumT T.enumerate <| ev_var 0 rfl ⟨_, rfl, fun k ρ => ∃ x2 x3 x4, ρ = [some (.p (.d (ttD evs))), some (.dk (pk (prs evs k))), x2, x3, x4], ⟨none, none, none, rfl⟩, ?_, ?_⟩
  · rintro k x ρ hx ⟨x2, x3, x4, rfl⟩
    have hk : k < evs.length := by
      have := (List.getElem?_eq_some_iff.mp hx).1
      rw [enumD_len, List.length_map] at this
      exact this
    have hev : evs[k]? = some evs[k] := List.getElem?_eq_getElem hk
    have hx2 := enumD_get (ds := evs.map evD) (i := k) (d := evD evs[k]) (by rw [List.getElem?_map, hev]; rfl)
    rw [hx2] at hx
    cases hx
    generalize evs[k] = ev at hev
    obtain ⟨wd, b⟩ := ev
    have pl := prs_len (evs := evs) (k := k)
    have pkl : (pk (prs evs k)).length < 100000 := by unfold pk; rw [List.length_map]; omega
    refine gb_tup rfl <| gbs_cons <| gb_name 2 (gbs_cons <| gb_tup rfl <| gbs_cons <| gb_name 3 (gbs_cons <| gb_name 4 (gbs_nil <| gbs_nil ?_) nd) nd) nd
    refine ss_one <| ss_if <| et_eqS <| ev_var 3 rfl <| ev_str ⟨_, _, rfl, rfl, ?_⟩
    refine ite2 (fun c => ?_) fun c => ?_
    · have c' : wd = ("in" : Str) := of_decide_eq_true c
      subst c'
      refine ss_one <| ss_dput 1 hr <| ev_tup <| ea_cons <| ev_add <| ev_var 2 rfl <| ev_int ⟨_, _, rfl, rfl, ea_cons <| ev_len T.len <| ev_var 0 rfl ⟨_, (evs.map evD).length, rfl, rfl, ?_⟩⟩
      rw [List.length_map]
      refine ea_nil ⟨[.int ((k : Int) + 1), .int (evs.length : Nat)], rfl, by simp, .dk (pk (prs evs k)), rfl, ev_var 4 rfl ⟨.dk (pk (prs evs k)), pD (k + 1, evs.length), .dk (pk (prs evs (k + 1))), rfl, rfl, .inl ⟨_, Sum.inr b, rfl, rfl, pkl, ?_⟩, _, _, _, rfl⟩⟩
      rw [pk_put, prs_in v hev]
    · have h2 := v.words _ (List.mem_of_getElem? hev)
      have c' : wd = ("out" : Str) := h2.resolve_left fun z => c (decide_eq_true z)
      subst c'
      obtain ⟨cb, po⟩ := prs_out v hev
      have va := prs_vl cb
      have vd : valD (pk (prs evs k)) (Sum.inr b) = some (pD (cmI evs b, if b ∈ gone (evs.take k) then lvI evs b else evs.length)) := by rw [pk_val, va]; rfl
      refine ss_one <| ss_dput 1 hr <| ev_tup <| ea_cons <| ev_ix <| ev_dget 1 hr <| ev_var 4 rfl ⟨_, _, rfl, .inl ⟨_, Sum.inr b, rfl, rfl, vd.symm⟩, ev_int ⟨_, _, .int (cmI evs b : Nat), rfl, rfl, .inr (.inl ⟨_, rfl, rfl⟩), ea_cons <| ev_var 2 rfl <| ea_nil ⟨[.int (cmI evs b : Nat), .int (k : Nat)], rfl, by simp, .dk (pk (prs evs k)), rfl, ev_var 4 rfl ⟨.dk (pk (prs evs k)), pD (cmI evs b, k), .dk (pk (prs evs (k + 1))), rfl, rfl, .inl ⟨_, Sum.inr b, rfl, rfl, pkl, ?_⟩, _, _, _, rfl⟩⟩⟩⟩
      rw [pk_put, po]
  · rintro ρ ⟨x2, x3, x4, rfl⟩
    rw [enumD_len, List.length_map]
    exact ss_one <| ss_retOwn 1 fun u => ⟨1, u, _, rfl, rfl, q⟩
end
end W63
end PartF10
section PartF11
set_option maxRecDepth 100000
set_option maxHeartbeats 4000000
namespace W63
open PySem PySem.Spec PyProof.Rows L2 DL
open PySem.XSup (XsTxt)
/-! ### staying_counts -/
def mat (m : Nat) (h : Nat → Nat → Int) : List (List D) := (List.range m).map fun f => (List.range m).map fun g => .int (h f g)
theorem mat_at {m : Nat} {h : Nat → Nat → Int} {f : Nat} (hf : f < m) : (mat m h)[f]? = some ((List.range m).map fun g => PyData.int (h f g)) := by
  unfold mat
  rw [List.getElem?_map, List.getElem?_range hf]
  rfl
theorem row_at {m : Nat} {h : Nat → Int} {g : Nat} (hg : g < m) : ((List.range m).map fun g => PyData.int (h g))[g]? = some (.int (h g)) := by
  rw [List.getElem?_map, List.getElem?_range hg]
  rfl
theorem range_set {α : Type} {m f : Nat} {h h' : Nat → α} (hh : ∀ x, x < m → x ≠ f → h' x = h x) : ((List.range m).map h).set f (h' f) = (List.range m).map h' := by
  apply List.ext_getElem?
  intro i
  by_cases hi : i < m
  · by_cases c : f = i
    · subst c
      rw [List.getElem?_set_self (by rw [List.length_map, List.length_range]; exact hi), List.getElem?_map, List.getElem?_range hi]
      rfl
    · rw [List.getElem?_set_ne c, List.getElem?_map, List.getElem?_map, List.getElem?_range hi]
      show some (h i) = some (h' i)
      rw [hh i hi (fun z => c z.symm)]
  · rw [List.getElem?_eq_none (by rw [List.length_set, List.length_map, List.length_range]; omega), List.getElem?_eq_none (by rw [List.length_map, List.length_range]; omega)]
theorem mat_inc {m : Nat} {h h' : Nat → Nat → Int} {f g : Nat} (hf : f < m) (hg : g < m) (hh : ∀ x y, x < m → y < m → h' x y = if x = f ∧ y = g then h f g + 1 else h x y) :
    (mat m h).set f (((List.range m).map fun y => PyData.int (h f y)).set g (.int (h f g + 1))) = mat m h' := by
  have e1 : ((List.range m).map fun y => PyData.int (h f y)).set g (.int (h f g + 1)) = (List.range m).map fun y => PyData.int (h' f y) := by
    have := range_set (m := m) (f := g) (h := fun y => PyData.int (h f y)) (h' := fun y => PyData.int (if y = g then h f g + 1 else h f y)) (fun x _ hx => by simp [hx])
    simp only [if_true] at this
    rw [this]
    refine List.map_congr_left fun y hy => ?_
    rw [hh f y hf (List.mem_range.mp hy)]
    simp
  rw [e1]
  unfold mat
  refine range_set (h := fun x => (List.range m).map fun y => PyData.int (h x y)) (h' := fun x => (List.range m).map fun y => PyData.int (h' x y)) fun x hx hn => ?_
  refine List.map_congr_left fun y hy => ?_
  rw [hh x y hx (List.mem_range.mp hy), if_neg fun z => hn z.1]
theorem mat_congr {m : Nat} {h h' : Nat → Nat → Int} (hh : ∀ x y, x < m → y < m → h x y = h' x y) : mat m h = mat m h' := by
  unfold mat
  refine List.map_congr_left fun x hx => List.map_congr_left fun y hy => ?_
  rw [hh x y (List.mem_range.mp hx) (List.mem_range.mp hy)]
/-- how many of l are there from f to g -/
def cnt (l : Prs) (f g : Nat) : Int := ((l.filter fun q => decide (q.2.1 ≤ f ∧ f ≤ g ∧ g ≤ q.2.2)).length : Nat)
theorem cnt_snoc {l : Prs} {q : Str × (Nat × Nat)} {f g : Nat} : cnt (l ++ [q]) f g = cnt l f g + if q.2.1 ≤ f ∧ f ≤ g ∧ g ≤ q.2.2 then 1 else 0 := by
  unfold cnt
  rw [List.filter_append, List.length_append]
  by_cases c : q.2.1 ≤ f ∧ f ≤ g ∧ g ≤ q.2.2
  · rw [if_pos c, List.filter_cons, if_pos (by simpa using c)]
    simp
  · rw [if_neg c, List.filter_cons, if_neg (by simpa using c)]
    simp
theorem prs_bd {evs : List Evt} {k : Nat} {q : Str × (Nat × Nat)} (h : q ∈ prs evs k) : 1 ≤ q.2.1 ∧ q.2.1 ≤ evs.length + 1 ∧ q.2.2 ≤ evs.length := by
  unfold prs at h
  obtain ⟨b, hb, rfl⟩ := List.mem_map.mp h
  have h1 : evs.idxOf (("in", b) : Evt) ≤ evs.length := List.idxOf_le_length
  have h2 : evs.idxOf (("out", b) : Evt) ≤ evs.length := List.idxOf_le_length
  refine ⟨by show 1 ≤ evs.idxOf (("in", b) : Evt) + 1; omega, by show evs.idxOf (("in", b) : Evt) + 1 ≤ _; omega, ?_⟩
  show (if b ∈ gone (evs.take k) then lvI evs b else evs.length) ≤ evs.length
  split
  · exact h2
  · exact Nat.le_refl _
section
variable {P : Program} {w : World} {K : PySem.W.Frag} {mg : Str → Option Value} {base : Heap} {f : Addr} {fd : FuncData}
abbrev s_staying_counts : Stmt := top 35
theorem sc_staying_counts : FnScope ["timetable", "many", "rows", "first", "last", "come", "leave"] ["timetable"] (defScope s_staying_counts) := ⟨rfl, rfl, rfl, by decide +kernel, rfl, by decide +kernel, by decide +kernel⟩
def keptD (evs : List Evt) : D := .list ((mat (evs.length + 1) (cnt (prs evs evs.length))).map .list)
def w_stay : Wp := fun as Ψ => ∃ evs : List Evt, as = [.d (ttD evs)] ∧ Val evs ∧ evs.length ≤ 30 ∧ Ψ (.d (keptD evs))
theorem pk_vals (l : Prs) : (pk l).map (·.2) = l.map fun q => pD q.2 := by
  unfold pk
  rw [List.map_map]
  rfl
theorem ok_stay (F : Fun K "staying_counts" "staying_counts" s_staying_counts f fd) (T : Bl mg) (D1 : DefOk P w K mg base CX0 "presence_table" 1 ["timetable"] (spC K w_pres)) : FnOk P w K mg base CX0 2 f fd ["timetable"] (spD K w_stay) := by
  have nd := sc_staying_counts.nd
  refine fnD F sc_staying_counts (fun as Ψ ⟨_, e, _⟩ => by rw [e]; rfl) (fun cdv A outer s H E as Ψ hr ⟨evs, e, v, hl, q⟩ => ?_)
  subst e
  refine ss_cons <| ss_set 1 (EV.ec <| ev_add <| ev_len T.len <| ev_var 0 rfl ⟨_, (evs.map evD).length, rfl, rfl, ev_int ⟨_, _, rfl, rfl, ?_⟩⟩) nd
  rw [List.length_map]
  obtain ⟨m, em⟩ : ∃ m, m = evs.length + 1 := ⟨_, rfl⟩
  have e1 : ((evs.length : Nat) : Int) + 1 = (m : Nat) := by omega
  rw [e1]
  refine ss_cons <| ss_setRows (ix := [3]) 2 [("first", 3)] ((List.range m).map fun _ => .int 0) rfl nd <| ie_range1 T.range <| ev_var 1 rfl ⟨_, rfl, by omega, by omega, rfl, by rw [rangeD_len]; omega, fun x _ B => gb_name 3 (fun B => ?_) nd, ?_⟩
  · refine en_mp (ix := [4]) (List.range m) (fun i => .int (0 + (i : Nat))) (fun _ => .int 0) [("last", 4)] rfl nd <| ie_range1 T.range <| ev_var 1 rfl ⟨_, rfl, by omega, by omega, ?_, rfl, by rw [List.length_range]; omega, fun c _ B => gb_name 4 (fun B => ev_int ⟨rfl, rfl⟩) nd, rfl, rfl⟩
    rw [Int.toNat_natCast]
    rfl
  have e2 : List.replicate (rangeD 0 ((m : Nat) : Int).toNat).length ((List.range m).map fun _ => PyData.int 0) = mat m fun _ _ => 0 := by
    rw [rangeD_len, Int.toNat_natCast]
    show List.replicate m (List.map (fun _ => PyData.int 0) (List.range m)) = List.map (fun _ => List.map (fun _ => PyData.int 0) (List.range m)) (List.range m)
    rw [List.map_const', List.map_const', List.length_range]
  rw [e2]
  have lp := prs_len (evs := evs) (k := evs.length)
  refine ss_cons <| ss_for (ix := [5] ++ ([6] ++ [])) PassesOwn.never rfl <| ie_valsC <| ec_callC D1 hr <| ea_cons <| ev_var 0 rfl <| ea_nil ⟨evs, rfl, v, hl, _, rfl, fun j ρ => ∃ x3 x4 x5 x6, ρ = [some (.p (.d (ttD evs))), some (.p (.d (.int (m : Nat)))), some (.cust (rowsC (mat m (cnt ((prs evs evs.length).take j))))), x3, x4, x5, x6],
    ⟨none, none, none, none, rfl⟩, ?_, ?_⟩
  · rintro j x ρ hx ⟨x3, x4, x5, x6, rfl⟩
    rw [pk_vals] at hx
    obtain ⟨⟨bx, c, lv⟩, hq, rfl⟩ := map_at hx
    have bd := prs_bd (List.mem_of_getElem? hq)
    have b1 : 1 ≤ c := bd.1
    have b2 : c ≤ evs.length + 1 := bd.2.1
    have b3 : lv ≤ evs.length := bd.2.2
    have tk : (prs evs evs.length).take (j + 1) = (prs evs evs.length).take j ++ [(bx, c, lv)] := by rw [List.take_add_one, hq]; rfl
    have cs : ∀ x y, cnt ((prs evs evs.length).take (j + 1)) x y = cnt ((prs evs evs.length).take j) x y + if c ≤ x ∧ x ≤ y ∧ y ≤ lv then 1 else 0 := fun x y => by rw [tk]; exact cnt_snoc
    generalize hL : (prs evs evs.length).take j = L at cs ⊢
    refine gb_tup rfl <| gbs_cons <| gb_name 5 (gbs_cons <| gb_name 6 (gbs_nil ?_) nd) nd
    refine ss_one <| ss_for (ix := [3]) PassesOwn.never rfl <| ie_range2 T.range <| ev_var 5 rfl <| ev_add <| ev_var 6 rfl <| ev_int ⟨_, _, rfl, rfl, _, _, rfl, rfl, by omega, ?_⟩
    refine ⟨fun a ρ => ∃ x3 x4, ρ = [some (.p (.d (ttD evs))), some (.p (.d (.int (m : Nat)))), some (.cust (rowsC (mat m (fun x y => cnt L x y + if c ≤ x ∧ x < c + a ∧ x ≤ y ∧ y ≤ lv then 1 else 0)))), x3, x4, some (.p (.d (.int (c : Nat)))), some (.p (.d (.int (lv : Nat))))], ⟨x3, x4, ?_⟩, ?_, ?_⟩
    · have : mat m (fun x y => cnt L x y + if c ≤ x ∧ x < c + 0 ∧ x ≤ y ∧ y ≤ lv then 1 else 0) = mat m (cnt L) := mat_congr fun x y _ _ => by
        rw [if_neg (by omega)]
        exact Int.add_zero _
      rw [this]
      rfl
    · rintro a x ρ hx ⟨x3, x4, rfl⟩
      have ha := (List.getElem?_eq_some_iff.mp hx).1
      rw [rangeD_len] at ha
      rw [rangeD_get ha] at hx
      cases hx
      have ea : ((c : Nat) : Int) + (a : Nat) = ((c + a : Nat) : Int) := by omega
      rw [ea]
      refine gb_name 3 ?_ nd
      refine ss_one <| ss_for (ix := [4]) PassesOwn.never rfl <| ie_range2 T.range <| ev_var 3 rfl <| ev_add <| ev_var 6 rfl <| ev_int ⟨_, _, rfl, rfl, _, _, rfl, rfl, by omega, ?_⟩
      refine ⟨fun b ρ => ∃ x4, ρ = [some (.p (.d (ttD evs))), some (.p (.d (.int (m : Nat)))), some (.cust (rowsC (mat m (fun x y => cnt L x y + if (c ≤ x ∧ x < c + a ∧ x ≤ y ∧ y ≤ lv) ∨ (x = c + a ∧ x ≤ y ∧ y < c + a + b) then 1 else 0)))), some (.p (.d (.int (c + a : Nat)))), x4, some (.p (.d (.int (c : Nat)))), some (.p (.d (.int (lv : Nat))))], ⟨x4, ?_⟩, ?_, ?_⟩
      · have : mat m (fun x y => cnt L x y + if (c ≤ x ∧ x < c + a ∧ x ≤ y ∧ y ≤ lv) ∨ (x = c + a ∧ x ≤ y ∧ y < c + a + 0) then 1 else 0) = mat m (fun x y => cnt L x y + if c ≤ x ∧ x < c + a ∧ x ≤ y ∧ y ≤ lv then 1 else 0) := mat_congr fun x y _ _ => by
          congr 1
          by_cases z : c ≤ x ∧ x < c + a ∧ x ≤ y ∧ y ≤ lv
          · rw [if_pos (.inl z), if_pos z]
          · rw [if_neg (by rintro (w | w); exact z w; omega), if_neg z]
        rw [this]
        rfl
      · rintro b x ρ hx ⟨x4, rfl⟩
        have hb := (List.getElem?_eq_some_iff.mp hx).1
        rw [rangeD_len] at hb
        rw [rangeD_get hb] at hx
        cases hx
        have eb : ((c + a : Nat) : Int) + (b : Nat) = ((c + a + b : Nat) : Int) := by omega
        rw [eb]
        have hb1 : c + a + b ≤ lv := by omega
        refine gb_name 4 ?_ nd
        refine ss_one <| ss_rowInc 2 3 4 rfl rfl rfl (mat_at (by omega)) (row_at (by omega)) ?_
        refine ⟨some (.p (.d (.int (c + a + b : Nat)))), ?_⟩
        rw [mat_inc (h' := fun x y => cnt L x y + if (c ≤ x ∧ x < c + a ∧ x ≤ y ∧ y ≤ lv) ∨ (x = c + a ∧ x ≤ y ∧ y < c + a + (b + 1)) then 1 else 0) (by omega) (by omega) fun x y _ _ => ?_]
        · rfl
        · by_cases z : x = c + a ∧ y = c + a + b
          · rw [if_pos z, if_pos (.inr (by omega)), if_neg (by rintro (w | w) <;> omega), z.1, z.2]
            omega
          · rw [if_neg z]
            congr 1
            by_cases z1 : (c ≤ x ∧ x < c + a ∧ x ≤ y ∧ y ≤ lv) ∨ (x = c + a ∧ x ≤ y ∧ y < c + a + b)
            · rw [if_pos z1, if_pos (by rcases z1 with w | w; exact .inl w; exact .inr (by omega))]
            · rw [if_neg z1, if_neg (by rintro (w | w); exact z1 (.inl w); exact z1 (.inr (by omega)))]
      · rintro ρ ⟨x4, rfl⟩
        refine ⟨some (.p (.d (.int (c + a : Nat)))), x4, ?_⟩
        rw [rangeD_len]
        have : mat m (fun x y => cnt L x y + if (c ≤ x ∧ x < c + a ∧ x ≤ y ∧ y ≤ lv) ∨ (x = c + a ∧ x ≤ y ∧ y < c + a + (((lv : Nat) : Int) + 1 - ((c + a : Nat) : Int)).toNat) then 1 else 0) = mat m (fun x y => cnt L x y + if c ≤ x ∧ x < c + (a + 1) ∧ x ≤ y ∧ y ≤ lv then 1 else 0) := mat_congr fun x y _ _ => by
          congr 1
          by_cases z : c ≤ x ∧ x < c + (a + 1) ∧ x ≤ y ∧ y ≤ lv
          · rw [if_pos z, if_pos (by
              by_cases w : x < c + a
              · exact .inl ⟨z.1, w, z.2.2⟩
              · exact .inr (by omega))]
          · rw [if_neg z, if_neg (by rintro (w | w) <;> omega)]
        rw [this]
    · rintro ρ ⟨x3, x4, rfl⟩
      refine ⟨x3, x4, some (.p (.d (.int (c : Nat)))), some (.p (.d (.int (lv : Nat)))), ?_⟩
      rw [rangeD_len]
      have : mat m (fun x y => cnt L x y + if c ≤ x ∧ x < c + (((lv : Nat) : Int) + 1 - ((c : Nat) : Int)).toNat ∧ x ≤ y ∧ y ≤ lv then 1 else 0) = mat m (cnt ((prs evs evs.length).take (j + 1))) := mat_congr fun x y _ _ => by
        rw [cs]
        congr 1
        by_cases z : c ≤ x ∧ x ≤ y ∧ y ≤ lv
        · rw [if_pos z, if_pos (by omega)]
        · rw [if_neg z, if_neg (by omega)]
      rw [this]
  · rintro ρ ⟨x3, x4, x5, x6, rfl⟩
    rw [pk_vals, List.length_map, List.take_length]
    refine ss_one <| ss_ret <| ev_rows 2 ?_
    unfold keptD at q
    rw [← em] at q
    exact q
end
end W63
end PartF11
section PartM3
set_option maxRecDepth 100000
set_option maxHeartbeats 2000000
/-! M3: ways through two timetables, plain. -/
namespace W63
open PySem PySem.Spec PyProof.Rows L2 DL
/-- what short_way is asked: who is there in each timetable, who stays, the start, how many are needed -/
structure Ask where
  hv : List Int
  tv : List Int
  k0 : Nat → Int
  k1 : Nat → Int
  f : Nat
  s : Nat
  n : Int
def Ask.at (q : Ask) (a b : Nat) : Int := q.hv.getD a 0 + q.tv.getD b 0
def Ask.least (q : Ask) : Int := q.at q.f q.s
/-- a way from the start, no step of which stands lower -/
inductive Pth (q : Ask) : List Pt → Nat → Nat → Prop
  | base : Pth q [(q.f, q.s)] q.f q.s
  | l {w : List Pt} {a b : Nat} : Pth q w a b → a + 1 < q.hv.length → q.least ≤ q.at (a + 1) b → Pth q (w ++ [(a + 1, b)]) (a + 1) b
  | r {w : List Pt} {a b : Nat} : Pth q w a b → b + 1 < q.tv.length → q.least ≤ q.at a (b + 1) → Pth q (w ++ [(a, b + 1)]) a (b + 1)
def Ask.low (q : Ask) (a b : Nat) : Prop := q.k0 a + q.k1 b < q.n
instance (q : Ask) (a b : Nat) : Decidable (q.low a b) := inferInstanceAs (Decidable (q.k0 a + q.k1 b < q.n))
structure AskOk (q : Ask) : Prop where
  f : q.f < q.hv.length
  s : q.s < q.tv.length
  hl : q.hv.length ≤ 31
  tl : q.tv.length ≤ 31
theorem Pth.bd {q : Ask} (o : AskOk q) {w : List Pt} {a b : Nat} (p : Pth q w a b) : q.f ≤ a ∧ q.s ≤ b ∧ a < q.hv.length ∧ b < q.tv.length ∧ q.least ≤ q.at a b := by
  induction p with
  | base => exact ⟨Nat.le_refl _, Nat.le_refl _, o.f, o.s, Int.le_refl _⟩
  | l _ h1 h2 ih => obtain ⟨i1, i2, i3, i4, i5⟩ := ih; exact ⟨by omega, i2, h1, i4, h2⟩
  | r _ h1 h2 ih => obtain ⟨i1, i2, i3, i4, i5⟩ := ih; exact ⟨i1, by omega, i3, h1, h2⟩
theorem Pth.inTt {q : Ask} (o : AskOk q) {w : List Pt} {a b : Nat} (p : Pth q w a b) : (∀ z ∈ w, z.1 < q.hv.length ∧ z.2 < q.tv.length) ∧ w.length ≤ 1 + (a - q.f) + (b - q.s) := by
  induction p with
  | base => exact ⟨fun z hz => by
      have : z = (q.f, q.s) := by simpa using hz
      rw [this]
      exact ⟨o.f, o.s⟩, by simp⟩
  | l p h1 h2 ih =>
    have bd := p.bd o
    refine ⟨fun z hz => ?_, by rw [List.length_append, List.length_singleton]; omega⟩
    rcases List.mem_append.mp hz with hz | hz
    · exact ih.1 z hz
    · rw [List.mem_singleton.mp hz]
      exact ⟨h1, bd.2.2.2.1⟩
  | r p h1 h2 ih =>
    have bd := p.bd o
    refine ⟨fun z hz => ?_, by rw [List.length_append, List.length_singleton]; omega⟩
    rcases List.mem_append.mp hz with hz | hz
    · exact ih.1 z hz
    · rw [List.mem_singleton.mp hz]
      exact ⟨bd.2.2.1, h1⟩
/-- what short_way gives -/
def WayIs (q : Ask) : Option (List Pt) → Prop
  | some w => ∃ a b, Pth q w a b ∧ q.low a b
  | none => ∀ w a b, Pth q w a b → ¬ q.low a b
abbrev KP := Int × Int
abbrev Ws := List (KP × List Pt)
def done (l r a b : Nat) : Prop := a < l ∨ (a = l ∧ b < r)
/-- what the ways hold when all points ahead of (l, r) were seen -/
structure WsOk (q : Ask) (l r : Nat) (ws : Ws) : Prop where
  snd : ∀ k w, vl ws k = some w → ∃ a b : Nat, k = ((a : Int), (b : Int)) ∧ Pth q w a b ∧ (done l r a b ∨ (a = q.f ∧ b = q.s))
  cmp : ∀ w a b, Pth q w a b → done l r a b → (vl ws ((a : Int), (b : Int))).isSome = true
  low : ∀ w a b, Pth q w a b → done l r a b → ¬ q.low a b
  st : (vl ws ((q.f : Int), (q.s : Int))).isSome = true
theorem vl_pt {κ β : Type} [DecidableEq κ] {kvs : List (κ × β)} {k k2 : κ} {v : β} : vl (pt kvs k v) k2 = if k2 = k then some v else vl kvs k2 := by
  unfold pt
  by_cases c : (kvs.any fun q => decide (q.1 = k)) = true
  · rw [if_pos c]
    induction kvs with
    | nil => simp at c
    | cons p kvs ih =>
      by_cases e : p.1 = k
      · rw [List.map_cons, if_pos e]
        by_cases e2 : k2 = k
        · rw [if_pos e2]
          simp [vl, List.find?_cons, e, e2]
        · rw [if_neg e2]
          have ne : ¬ p.1 = k2 := fun z => e2 (z.symm.trans e)
          by_cases c2 : (kvs.any fun q => decide (q.1 = k)) = true
          · have := ih c2
            rw [if_neg e2] at this
            simp only [vl, List.find?_cons, ne, decide_false]
            simpa [vl] using this
          · have hm : (kvs.map fun q => if q.1 = k then (q.1, v) else q) = kvs := by
              have : ∀ q ∈ kvs, (if q.1 = k then (q.1, v) else q) = q := fun q hq => if_neg fun z => c2 (List.any_eq_true.mpr ⟨q, hq, decide_eq_true z⟩)
              exact (List.map_congr_left this).trans (List.map_id' _)
            rw [hm]
            simp only [vl, List.find?_cons, ne, decide_false]
      · have c2 : (kvs.any fun q => decide (q.1 = k)) = true := by
          rw [List.any_cons] at c
          simpa [e] using c
        have := ih c2
        rw [List.map_cons, if_neg e]
        by_cases e3 : p.1 = k2
        · have e2 : ¬ k2 = k := fun z => e (e3.trans z)
          rw [if_neg e2]
          simp [vl, List.find?_cons, e3]
        · simp only [vl, List.find?_cons, e3, decide_false]
          simpa [vl] using this
  · rw [if_neg c]
    by_cases e2 : k2 = k
    · rw [if_pos e2]
      have nn : vl kvs k2 = none := by
        unfold vl
        rw [Option.map_eq_none_iff, List.find?_eq_none]
        intro q hq z
        exact c (List.any_eq_true.mpr ⟨q, hq, by rw [← e2]; exact z⟩)
      unfold vl at nn ⊢
      rw [List.find?_append]
      rw [Option.map_eq_none_iff] at nn
      rw [nn]
      simp [e2]
    · rw [if_neg e2]
      unfold vl
      rw [List.find?_append]
      cases List.find? (fun q => decide (q.1 = k2)) kvs with
      | some z => rfl
      | none =>
        have : ¬ k = k2 := fun z => e2 z.symm
        simp [this]
def tryW (ws : Ws) (l r : Nat) (k : KP) : Ws := if (vl ws k).isSome = true ∧ (vl ws ((l : Int), (r : Int))).isSome = false then pt ws ((l : Int), (r : Int)) ((vl ws k).getD [] ++ [(l, r)]) else ws
theorem tryW_len {ws : Ws} {l r : Nat} {k : KP} : (tryW ws l r k).length ≤ ws.length + 1 := by
  unfold tryW
  split
  · exact pt_len _ _ _
  · omega
theorem tryW_vl {ws : Ws} {l r : Nat} {k k2 : KP} (h : k2 ≠ ((l : Int), (r : Int))) : vl (tryW ws l r k) k2 = vl ws k2 := by
  unfold tryW
  split
  · rw [vl_pt, if_neg h]
  · rfl
theorem tryW_keep {ws : Ws} {l r : Nat} {k : KP} (h : (vl ws ((l : Int), (r : Int))).isSome = true) : tryW ws l r k = ws := by
  unfold tryW
  rw [if_neg (by rw [h]; simp)]
theorem tryW_some {ws : Ws} {l r : Nat} {k : KP} (h : (vl ws k).isSome = true) : (vl (tryW ws l r k) ((l : Int), (r : Int))).isSome = true := by
  by_cases c : (vl ws ((l : Int), (r : Int))).isSome = true
  · rw [tryW_keep c]; exact c
  · unfold tryW
    rw [if_pos ⟨h, by simpa using c⟩, vl_pt, if_pos rfl]
    rfl
/-- what the ways hold while (l, r) is looked at -/
def WsS (q : Ask) (l r : Nat) (ws : Ws) : Prop := ∀ k w, vl ws k = some w → ∃ a b : Nat, k = ((a : Int), (b : Int)) ∧ Pth q w a b ∧ (done l r a b ∨ (a = q.f ∧ b = q.s) ∨ (a = l ∧ b = r))
theorem tryW_s {q : Ask} {l r : Nat} {ws : Ws} {k : KP} (h : WsS q l r ws) (hk : ∀ w, vl ws k = some w → Pth q (w ++ [(l, r)]) l r) : WsS q l r (tryW ws l r k) := by
  intro k2 w hw
  unfold tryW at hw
  split at hw
  · rename_i c
    rw [vl_pt] at hw
    split at hw
    · rename_i e
      obtain ⟨w0, hw0⟩ := Option.isSome_iff_exists.mp c.1
      rw [hw0] at hw
      cases hw
      exact ⟨l, r, e, hk w0 hw0, .inr (.inr ⟨rfl, rfl⟩)⟩
    · exact h k2 w hw
  · exact h k2 w hw
def lookW (ws : Ws) (l r : Nat) : Ws := tryW (tryW ws l r ((l : Int) - 1, (r : Int))) l r ((l : Int), (r : Int) - 1)
theorem WsOk.s {q : Ask} {l r : Nat} {ws : Ws} (o : WsOk q l r ws) : WsS q l r ws := fun k w h => by
  obtain ⟨a, b, h1, h2, h3⟩ := o.snd k w h
  exact ⟨a, b, h1, h2, h3.imp id .inl⟩
theorem look_s {q : Ask} {l r : Nat} {ws : Ws} (o : WsOk q l r ws) (hl : l < q.hv.length) (hr : r < q.tv.length) (hm : q.least ≤ q.at l r) : WsS q l r (lookW ws l r) := by
  refine tryW_s (tryW_s o.s fun w hw => ?_) fun w hw => ?_
  · obtain ⟨a, b, h1, h2, _⟩ := o.snd _ w hw
    have e1 : (l : Int) - 1 = a := congrArg Prod.fst h1
    have e2 : (r : Int) = b := congrArg Prod.snd h1
    have e3 : l = a + 1 := by omega
    have e4 : r = b := by omega
    subst e3 e4
    exact .l h2 hl hm
  · rw [tryW_vl (by intro z; have := congrArg Prod.snd z; simp at this; omega)] at hw
    obtain ⟨a, b, h1, h2, _⟩ := o.snd _ w hw
    have e1 : (l : Int) = a := congrArg Prod.fst h1
    have e2 : (r : Int) - 1 = b := congrArg Prod.snd h1
    have e3 : l = a := by omega
    have e4 : r = b + 1 := by omega
    subst e3 e4
    exact .r h2 hr hm
theorem look_at {q : Ask} (ok : AskOk q) {l r : Nat} {ws : Ws} (o : WsOk q l r ws) (hl : l < q.hv.length) (hr : r < q.tv.length) (hm : q.least ≤ q.at l r) {w : List Pt} (h : vl (lookW ws l r) ((l : Int), (r : Int)) = some w) : Pth q w l r := by
  obtain ⟨a, b, h1, h2, _⟩ := look_s o hl hr hm _ w h
  have e1 : (l : Int) = a := congrArg Prod.fst h1
  have e2 : (r : Int) = b := congrArg Prod.snd h1
  have e3 : l = a := by omega
  have e4 : r = b := by omega
  rw [e3, e4]
  exact h2
theorem look_all {q : Ask} (ok : AskOk q) {l r : Nat} {ws : Ws} (o : WsOk q l r ws) {w : List Pt} (p : Pth q w l r) : (vl (lookW ws l r) ((l : Int), (r : Int))).isSome = true := by
  unfold lookW
  cases p with
  | base => rw [tryW_keep (ws := ws) o.st, tryW_keep o.st]; exact o.st
  | @l w a b p' h1 h2 =>
    have d : (vl ws ((a : Int), (r : Int))).isSome = true := o.cmp _ _ _ p' (.inl (by omega))
    have e : ((a + 1 : Nat) : Int) - 1 = a := by omega
    have s1 := tryW_some (ws := ws) (l := a + 1) (r := r) (k := (((a + 1 : Nat) : Int) - 1, (r : Int))) (by rw [e]; exact d)
    rw [tryW_keep s1]
    exact s1
  | @r w a b p' h1 h2 =>
    have d : (vl ws ((l : Int), (b : Int))).isSome = true := o.cmp _ _ _ p' (.inr ⟨rfl, by omega⟩)
    have e : ((b + 1 : Nat) : Int) - 1 = b := by omega
    refine tryW_some ?_
    rw [tryW_vl (by intro z; have := congrArg Prod.snd z; simp at this; omega), e]
    exact d
theorem done_next {l r a b : Nat} : done l (r + 1) a b ↔ done l r a b ∨ (a = l ∧ b = r) := by
  unfold done
  omega
theorem ws_skip {q : Ask} (ok : AskOk q) {l r : Nat} {ws : Ws} (o : WsOk q l r ws) (h : q.at l r < q.least) : WsOk q l (r + 1) ws where
  snd := fun k w hw => by
    obtain ⟨a, b, h1, h2, h3⟩ := o.snd k w hw
    exact ⟨a, b, h1, h2, h3.imp (fun z => done_next.mpr (.inl z)) id⟩
  cmp := fun w a b p d => by
    rcases done_next.mp d with d | ⟨rfl, rfl⟩
    · exact o.cmp w a b p d
    · have := (p.bd ok).2.2.2.2
      omega
  low := fun w a b p d => by
    rcases done_next.mp d with d | ⟨rfl, rfl⟩
    · exact o.low w a b p d
    · have := (p.bd ok).2.2.2.2
      omega
  st := o.st
theorem ws_next {q : Ask} (ok : AskOk q) {l r : Nat} {ws : Ws} (o : WsOk q l r ws) (hl : l < q.hv.length) (hr : r < q.tv.length) (hm : q.least ≤ q.at l r) (h : ¬ ((vl (lookW ws l r) ((l : Int), (r : Int))).isSome = true ∧ q.low l r)) : WsOk q l (r + 1) (lookW ws l r) where
  snd := fun k w hw => by
    obtain ⟨a, b, h1, h2, h3⟩ := look_s o hl hr hm k w hw
    refine ⟨a, b, h1, h2, ?_⟩
    rcases h3 with z | z | z
    · exact .inl (done_next.mpr (.inl z))
    · exact .inr z
    · exact .inl (done_next.mpr (.inr z))
  cmp := fun w a b p d => by
    rcases done_next.mp d with d | ⟨rfl, rfl⟩
    · have h1 := o.cmp w a b p d
      have ne : ((a : Int), (b : Int)) ≠ ((l : Int), (r : Int)) := fun z => by
        have e1 : (a : Int) = l := congrArg Prod.fst z
        have e2 : (b : Int) = r := congrArg Prod.snd z
        unfold done at d
        omega
      unfold lookW
      rw [tryW_vl ne, tryW_vl ne]
      exact h1
    · exact look_all ok o p
  low := fun w a b p d => by
    rcases done_next.mp d with d | ⟨rfl, rfl⟩
    · exact o.low w a b p d
    · exact fun z => h ⟨look_all ok o p, z⟩
  st := by
    by_cases c : (((q.f : Int), (q.s : Int)) : KP) = ((l : Int), (r : Int))
    · have e1 : (q.f : Int) = l := congrArg Prod.fst c
      have e2 : (q.s : Int) = r := congrArg Prod.snd c
      have e3 : q.f = l := by omega
      have e4 : q.s = r := by omega
      have b : Pth q [(q.f, q.s)] l r := by
        have := Pth.base (q := q)
        rw [e3, e4] at this ⊢
        exact this
      rw [c]
      exact look_all ok o b
    · unfold lookW
      rw [tryW_vl c, tryW_vl c]
      exact o.st
theorem ws_row {q : Ask} (ok : AskOk q) {l r : Nat} {ws : Ws} (o : WsOk q l r ws) (hr : q.tv.length ≤ r) : WsOk q (l + 1) q.s ws where
  snd := fun k w hw => by
    obtain ⟨a, b, h1, h2, h3⟩ := o.snd k w hw
    exact ⟨a, b, h1, h2, h3.imp (fun z => by unfold done at *; omega) id⟩
  cmp := fun w a b p d => o.cmp w a b p (by have := p.bd ok; unfold done at *; omega)
  low := fun w a b p d => o.low w a b p (by have := p.bd ok; unfold done at *; omega)
  st := o.st
theorem ws_end {q : Ask} (ok : AskOk q) {l r : Nat} {ws : Ws} (o : WsOk q l r ws) (hl : q.hv.length ≤ l) : WayIs q none := fun w a b p => o.low w a b p (by have := p.bd ok; unfold done; omega)
theorem ws_start {q : Ask} (ok : AskOk q) : WsOk q q.f q.s [(((q.f : Int), (q.s : Int)), [(q.f, q.s)])] where
  snd := fun k w hw => by
    unfold vl at hw
    rw [List.find?_cons] at hw
    by_cases c : (((q.f : Int), (q.s : Int)) : KP) = k
    · simp only [c, decide_true] at hw
      cases hw
      exact ⟨q.f, q.s, c.symm, .base, .inr ⟨rfl, rfl⟩⟩
    · simp only [c, decide_false] at hw
      cases hw
  cmp := fun w a b p d => by have := p.bd ok; unfold done at d; omega
  low := fun w a b p d => by have := p.bd ok; unfold done at d; omega
  st := by simp [vl]
end W63
end PartM3
section PartF12
set_option maxRecDepth 100000
set_option maxHeartbeats 4000000
namespace W63
open PySem PySem.Spec PyProof.Rows L2 DL
open PySem.XSup (XsTxt)
def wD (w : List Pt) : D := .list (w.map ptD)
def keyP (k : KP) : NK := .tup [.num k.1, .num k.2]
def kpD (k : KP) : D := .tuple [.int k.1, .int k.2]
theorem keyP_inj (a b : KP) (h : keyP a = keyP b) : a = b := by
  obtain ⟨a1, a2⟩ := a
  obtain ⟨b1, b2⟩ := b
  unfold keyP at h
  injection h with h
  injection h with h1 h
  injection h with h2 h
  injection h1 with h1
  injection h2 with h2
  exact Prod.ext h1 h2
theorem keyP_data (k : KP) : (NestedKey.tup [.num k.1, .num k.2]).data = kpD k := rfl
theorem keyP_depth (k : KP) : (NestedKey.tup [.num k.1, .num k.2]).depth ≤ 8 := by simp [NestedKey.depth, NestedKey.depthAll]
def encW (q : KP × List Pt) : NK × D := (keyP q.1, wD q.2)
theorem encW_val (ws : Ws) (k : KP) : valD (ws.map encW) (.tup [.num k.1, .num k.2]) = (vl ws k).map wD := valD_enc (e := keyP) (g := wD) keyP_inj k ws
theorem encW_put (ws : Ws) (k : KP) (w : List Pt) : putD (ws.map encW) (.tup [.num k.1, .num k.2]) (wD w) = (pt ws k w).map encW := putD_enc (e := keyP) (g := wD) keyP_inj k w ws
theorem at_int {xs : List Int} {i : Nat} (h : i < xs.length) : atI (xs.map PyData.int) (i : Nat) = some (.int (xs.getD i 0)) := by
  refine atI_of ?_
  rw [List.getElem?_map, List.getElem?_eq_getElem h]
  simp [List.getD, List.getElem?_eq_getElem h]
theorem at_kept {one : List Evt} {f a : Nat} (hf : f < one.length + 1) (ha : a < one.length + 1) : ∃ row, atI ((mat (one.length + 1) (cnt (prs one one.length))).map PyData.list) (f : Nat) = some (.list row) ∧ atI row (a : Nat) = some (.int (cnt (prs one one.length) f a)) := by
  refine ⟨_, atI_of (by rw [List.getElem?_map, mat_at hf]; rfl), atI_of (row_at ha)⟩
section
variable {P : Program} {w : World} {K : PySem.W.Frag} {mg : Str → Option Value} {base : Heap} {f : Addr} {fd : FuncData}
abbrev s_short_way : Stmt := top 37
theorem sc_short_way : FnScope ["here", "there", "kept", "start", "first", "second", "needed", "least", "ways", "left", "right", "ahead"] ["here", "there", "kept", "start"] (defScope s_short_way) := ⟨rfl, rfl, rfl, by decide +kernel, rfl, by decide +kernel, by decide +kernel⟩
def wayD : Option (List Pt) → D
  | some w => wD w
  | none => .none
def w_short : Wp := fun as Ψ => ∃ (q : Ask) (one other : List Evt), as = [.d (.list (q.hv.map .int)), .d (.list (q.tv.map .int)), .d (.tuple [keptD one, keptD other]), .d (.tuple [.int (q.f : Nat), .int (q.s : Nat), .int q.n])] ∧ AskOk q ∧
  q.hv.length = one.length + 1 ∧ q.tv.length = other.length + 1 ∧ (∀ a, q.k0 a = cnt (prs one one.length) q.f a) ∧ (∀ b, q.k1 b = cnt (prs other other.length) q.s b) ∧ ∀ res, WayIs q res → Ψ (.d (wayD res))
theorem ok_short (F : Fun K "short_way" "short_way" s_short_way f fd) (T : Bl mg) : FnOk P w K mg base CX0 1 f fd ["here", "there", "kept", "start"] (spD K w_short) := by
  have nd := sc_short_way.nd
  refine fnD F sc_short_way (fun as Ψ ⟨_, _, _, e, _⟩ => by rw [e]; rfl) (fun cdv A outer s H E as Ψ hr ⟨q, one, other, e, ok, eh, et, k0, k1, fin⟩ => ?_)
  subst e
  obtain ⟨o1, o2, o3, o4⟩ := id ok
  refine ss_cons <| ss_asg <| ev_var 3 rfl ⟨_, rfl, gb_tup rfl <| gbs_cons <| gb_name 4 (gbs_cons <| gb_name 5 (gbs_cons <| gb_name 6 (gbs_nil ?_) nd) nd) nd⟩
  refine ss_cons <| ss_set 7 (EV.ec <| ev_add <| ev_ix <| ev_var 0 rfl <| ev_var 4 rfl ⟨_, _, _, rfl, rfl, .inl ⟨_, rfl, at_int o1⟩, ev_ix <| ev_var 1 rfl <| ev_var 5 rfl ⟨_, _, _, rfl, rfl, .inl ⟨_, rfl, at_int o2⟩, _, _, rfl, rfl, ?_⟩⟩) nd
  refine ss_cons ?_
  refine ss_ndisp (k := 0) 8 ?_ ?_ ?_
  · exact nd
  · exact hr
  refine (ev_tup <| ea_cons <| ev_var 4 rfl <| ea_cons <| ev_var 5 rfl <| ea_nil ⟨[.int (q.f : Nat), .int (q.s : Nat)], rfl, by simp, EN.ev <| en_lst <| ea_cons <| ev_tup <| ea_cons <| ev_var 4 rfl <| ea_cons <| ev_var 5 rfl ?_⟩)
  refine ea_nil ⟨[.int (q.f : Nat), .int (q.s : Nat)], rfl, by simp, ea_nil ⟨[ptD (q.f, q.s)], rfl, by simp, [.num (q.f : Nat), .num (q.s : Nat)], wD [(q.f, q.s)], rfl, keyP_depth ((q.f : Nat), (q.s : Nat)), rfl, ?_⟩⟩
  refine ss_cons <| ss_for (ix := [9]) PassesOwn.never rfl <| ie_range2 T.range <| ev_var 4 rfl <| ev_len T.len <| ev_var 0 rfl ⟨_, (q.hv.map PyData.int).length, rfl, rfl, _, _, rfl, rfl, by rw [List.length_map]; omega, ?_⟩
  rw [List.length_map]
  refine ⟨fun i ρ => ∃ ws x9 x10 x11, WsOk q (q.f + i) q.s ws ∧ ws.length ≤ 1 + i * 80 ∧ ρ = [some (.p (.d (.list (q.hv.map .int)))), some (.p (.d (.list (q.tv.map .int)))), some (.p (.d (.tuple [keptD one, keptD other]))), some (.p (.d (.tuple [.int (q.f : Nat), .int (q.s : Nat), .int q.n]))), some (.p (.d (.int (q.f : Nat)))), some (.p (.d (.int (q.s : Nat)))), some (.p (.d (.int q.n))), some (.p (.d (.int q.least))), some (.cust (dnC P w (ws.map encW))), x9, x10, x11],
    ⟨_, none, none, none, ws_start ok, by simp, rfl⟩, ?_, ?_⟩
  · rintro i x ρ hx ⟨ws, x9, x10, x11, wo, wl, rfl⟩
    have hi := (List.getElem?_eq_some_iff.mp hx).1
    rw [rangeD_len] at hi
    rw [rangeD_get hi] at hx
    cases hx
    have ei : ((q.f : Nat) : Int) + (i : Nat) = ((q.f + i : Nat) : Int) := by omega
    rw [ei]
    obtain ⟨l, el⟩ : ∃ l, l = q.f + i := ⟨_, rfl⟩
    rw [← el] at wo ⊢
    have hl : l < q.hv.length := by omega
    refine gb_name 9 ?_ nd
    refine ss_one <| ss_for (ix := [10]) PassesOwn.never rfl <| ie_range2 T.range <| ev_var 5 rfl <| ev_len T.len <| ev_var 1 rfl ⟨_, (q.tv.map PyData.int).length, rfl, rfl, _, _, rfl, rfl, by rw [List.length_map]; omega, ?_⟩
    rw [List.length_map]
    refine ⟨fun j ρ => ∃ ws x10 x11, WsOk q l (q.s + j) ws ∧ ws.length ≤ 1 + i * 80 + 2 * j ∧ ρ = [some (.p (.d (.list (q.hv.map .int)))), some (.p (.d (.list (q.tv.map .int)))), some (.p (.d (.tuple [keptD one, keptD other]))), some (.p (.d (.tuple [.int (q.f : Nat), .int (q.s : Nat), .int q.n]))), some (.p (.d (.int (q.f : Nat)))), some (.p (.d (.int (q.s : Nat)))), some (.p (.d (.int q.n))), some (.p (.d (.int q.least))), some (.cust (dnC P w (ws.map encW))), some (.p (.d (.int (l : Nat)))), x10, x11],
      ⟨ws, x10, x11, wo, by omega, rfl⟩, ?_, ?_⟩
    · clear wo wl
      rintro j x ρ hx ⟨ws, x10, x11, wo, wl, rfl⟩
      have hj := (List.getElem?_eq_some_iff.mp hx).1
      rw [rangeD_len] at hj
      rw [rangeD_get hj] at hx
      cases hx
      have ej : ((q.s : Nat) : Int) + (j : Nat) = ((q.s + j : Nat) : Int) := by omega
      rw [ej]
      obtain ⟨r, er⟩ : ∃ r, r = q.s + j := ⟨_, rfl⟩
      rw [← er] at wo ⊢
      have hr2 : r < q.tv.length := by omega
      have esj : q.s + (j + 1) = r + 1 := by omega
      refine gb_name 10 ?_ nd
      refine ss_cons <| ss_if <| et_lt <| ev_add <| ev_ix <| ev_var 0 rfl <| ev_var 9 rfl ⟨_, _, _, rfl, rfl, .inl ⟨_, rfl, at_int hl⟩, ev_ix <| ev_var 1 rfl <| ev_var 10 rfl ⟨_, _, _, rfl, rfl, .inl ⟨_, rfl, at_int hr2⟩, _, _, rfl, rfl, ev_var 7 rfl ⟨_, _, rfl, rfl, ?_⟩⟩⟩
      refine ite2 (fun c => ?_) fun c => ?_
      · have c' : q.at l r < q.least := of_decide_eq_true c
        exact ss_one <| ss_continue ⟨ws, _, _, by rw [esj]; exact ws_skip ok wo c', by omega, rfl⟩
      have hm : q.least ≤ q.at l r := by
        have : ¬ q.at l r < q.least := fun z => c (decide_eq_true z)
        omega
      have lwl : (lookW ws l r).length ≤ ws.length + 2 := by
        have h1 := tryW_len (ws := ws) (l := l) (r := r) (k := ((l : Int) - 1, (r : Int)))
        have h2 := tryW_len (ws := tryW ws l r ((l : Int) - 1, (r : Int))) (l := l) (r := r) (k := ((l : Int), (r : Int) - 1))
        unfold lookW
        omega
      refine ss_nil <| ss_cons <| ss_for (ix := [11]) PassesOwn.never rfl <| ie_tup <| ev_tup <| ea_cons <| ev_tup <| ea_cons <| ev_sub <| ev_var 9 rfl <| ev_int ⟨_, _, rfl, rfl, ea_cons <| ev_var 10 rfl <| ea_nil ⟨[.int ((l : Nat) - 1), .int (r : Nat)], rfl, by simp, ea_cons <| ev_tup <| ea_cons <| ev_var 9 rfl <| ea_cons <| ev_sub <| ev_var 10 rfl <| ev_int ⟨_, _, rfl, rfl, ?_⟩⟩⟩
      refine ea_nil ⟨[.int (l : Nat), .int ((r : Nat) - 1)], rfl, by simp, ea_nil ⟨[kpD ((l : Int) - 1, (r : Int)), kpD ((l : Int), (r : Int) - 1)], rfl, by simp, _, rfl, ?_⟩⟩
      refine ⟨fun m ρ => ∃ x11, ρ = [some (.p (.d (.list (q.hv.map .int)))), some (.p (.d (.list (q.tv.map .int)))), some (.p (.d (.tuple [keptD one, keptD other]))), some (.p (.d (.tuple [.int (q.f : Nat), .int (q.s : Nat), .int q.n]))), some (.p (.d (.int (q.f : Nat)))), some (.p (.d (.int (q.s : Nat)))), some (.p (.d (.int q.n))), some (.p (.d (.int q.least))), some (.cust (dnC P w ((([((l : Int) - 1, (r : Int)), ((l : Int), (r : Int) - 1)].take m).foldl (fun v k => tryW v l r k) ws).map encW))), some (.p (.d (.int (l : Nat)))), some (.p (.d (.int (r : Nat)))), x11],
        ⟨x11, rfl⟩, ?_, ?_⟩
      · rintro m x ρ hx ⟨x11, rfl⟩
        have few : ∀ (k : KP) (wk : List Pt), vl ws k = some wk → wk.length ≤ 100 := fun k wk hw => by
          obtain ⟨a, b, _, h2, _⟩ := wo.snd k wk hw
          have h3 := (h2.inTt ok).2
          have h4 := h2.bd ok
          omega
        obtain ⟨kk, hk, ex, vfew, step, vl0⟩ : ∃ kk : KP, [((l : Int) - 1, (r : Int)), ((l : Int), (r : Int) - 1)][m]? = some kk ∧ x = kpD kk ∧ (∀ wk, vl (([((l : Int) - 1, (r : Int)), ((l : Int), (r : Int) - 1)].take m).foldl (fun v k => tryW v l r k) ws) kk = some wk → wk.length ≤ 100) ∧ ([((l : Int) - 1, (r : Int)), ((l : Int), (r : Int) - 1)].take (m + 1)).foldl (fun v k => tryW v l r k) ws = tryW (([((l : Int) - 1, (r : Int)), ((l : Int), (r : Int) - 1)].take m).foldl (fun v k => tryW v l r k) ws) l r kk ∧ (([((l : Int) - 1, (r : Int)), ((l : Int), (r : Int) - 1)].take m).foldl (fun v k => tryW v l r k) ws).length ≤ ws.length + 1 := by
          have h1 := tryW_len (ws := ws) (l := l) (r := r) (k := ((l : Int) - 1, (r : Int)))
          match m, hx with
          | 0, hx => cases hx; exact ⟨_, rfl, rfl, fun wk hw => few _ wk hw, rfl, by show ws.length ≤ _; omega⟩
          | 1, hx =>
            cases hx
            refine ⟨_, rfl, rfl, fun wk hw => few ((l : Int), (r : Int) - 1) wk ?_, rfl, h1⟩
            have hw' : vl (tryW ws l r ((l : Int) - 1, (r : Int))) ((l : Int), (r : Int) - 1) = some wk := hw
            rw [tryW_vl (by intro z; have := congrArg Prod.snd z; simp at this; omega)] at hw'
            exact hw'
          | m + 2, hx => simp at hx
        subst ex
        clear hk
        generalize ([((l : Int) - 1, (r : Int)), ((l : Int), (r : Int) - 1)].take m).foldl (fun v k => tryW v l r k) ws = v at step vl0 vfew ⊢
        refine gb_name 11 ?_ nd
        refine ss_one <| ss_if <| ET.mono (Q := fun b ρ1 => b = decide ((vl v kk).isSome = true ∧ (vl v ((l : Int), (r : Int))).isSome = false) ∧ ρ1 = [some (.p (.d (.list (q.hv.map .int)))), some (.p (.d (.list (q.tv.map .int)))), some (.p (.d (.tuple [keptD one, keptD other]))), some (.p (.d (.tuple [.int (q.f : Nat), .int (q.s : Nat), .int q.n]))), some (.p (.d (.int (q.f : Nat)))), some (.p (.d (.int (q.s : Nat)))), some (.p (.d (.int q.n))), some (.p (.d (.int q.least))), some (.cust (dnC P w (v.map encW))), some (.p (.d (.int (l : Nat)))), some (.p (.d (.int (r : Nat)))), some (.p (.d (kpD kk)))]) ?_ ?_
        · refine EW.et <| ew_and <| et_nin 8 hr <| ev_var 11 rfl ⟨v.map encW, [.num kk.1, .num kk.2], rfl, rfl, keyP_depth kk, ?_⟩
          rw [encW_val, Option.isSome_map]
          by_cases c1 : (vl v kk).isSome = true
          · rw [if_pos c1]
            refine ew_and1 <| et_nnin 8 hr <| ev_tup <| ea_cons <| ev_var 9 rfl <| ea_cons <| ev_var 10 rfl <| ea_nil ⟨[.int (l : Nat), .int (r : Nat)], rfl, by simp, v.map encW, [.num (l : Int), .num (r : Int)], rfl, rfl, keyP_depth ((l : Int), (r : Int)), ?_, rfl⟩
            rw [encW_val v ((l : Int), (r : Int)), Option.isSome_map]
            cases c2 : (vl v ((l : Int), (r : Int))).isSome with
            | true => rw [decide_eq_false fun z => by simp at z]; rfl
            | false => rw [decide_eq_true ⟨c1, rfl⟩]; rfl
          · rw [if_neg c1]
            exact ⟨(decide_eq_false fun z => c1 z.1).symm, rfl⟩
        rintro b ρ1 ⟨rfl, rfl⟩
        by_cases c2 : (vl v kk).isSome = true ∧ (vl v ((l : Int), (r : Int))).isSome = false
        · rw [if_pos (decide_eq_true c2)]
          have e9 : tryW v l r kk = pt v ((l : Int), (r : Int)) ((vl v kk).getD [] ++ [(l, r)]) := if_pos c2
          obtain ⟨wk, hwk⟩ := Option.isSome_iff_exists.mp c2.1
          rw [hwk] at e9
          have e10 : putD (v.map encW) (.tup [.num (l : Int), .num (r : Int)]) (wD (wk ++ [(l, r)])) = (([((l : Int) - 1, (r : Int)), ((l : Int), (r : Int) - 1)].take (m + 1)).foldl (fun v k => tryW v l r k) ws).map encW := by
            rw [step, e9]
            exact encW_put v ((l : Int), (r : Int)) _
          have e11 : valD (v.map encW) (.tup [.num kk.1, .num kk.2]) = some (wD wk) := by rw [encW_val, hwk]; rfl
          have wkl := vfew wk hwk
          refine ss_one <| ss_nput (kvs0 := v.map encW) 8 hr <| EN.ev <| en_cat <| ev_nget 8 hr <| ev_var 11 rfl ⟨v.map encW, [.num kk.1, .num kk.2], wD wk, rfl, rfl, keyP_depth kk, e11, EN.ev <| en_lst <| ea_cons <| ev_tup <| ea_cons <| ev_var 9 rfl <| ea_cons <| ev_var 10 rfl <| ea_nil ⟨[.int (l : Nat), .int (r : Nat)], rfl, by simp, ?_⟩⟩
          refine ea_nil ⟨[ptD (l, r)], rfl, by simp, wk.map ptD, [ptD (l, r)], rfl, rfl, by rw [List.length_map]; simp; omega, rfl, ev_tup <| ea_cons <| ev_var 9 rfl <| ea_cons <| ev_var 10 rfl <| ea_nil ⟨[.int (l : Nat), .int (r : Nat)], rfl, by simp, v.map encW, [.num (l : Int), .num (r : Int)], wD (wk ++ [(l, r)]), ?_, rfl, rfl, keyP_depth ((l : Int), (r : Int)), by rw [List.length_map]; omega, ?_⟩⟩
          · unfold wD
            rw [List.map_append]
            rfl
          · rw [e10]
            exact ⟨_, rfl⟩
        · rw [if_neg (by simpa using c2)]
          have e9 : tryW v l r kk = v := if_neg c2
          rw [e9] at step
          subst step
          exact ss_nil ⟨_, rfl⟩
      · rintro ρ ⟨x11, rfl⟩
        show SSs _ _ [some (.p (.d (.list (q.hv.map .int)))), some (.p (.d (.list (q.tv.map .int)))), some (.p (.d (.tuple [keptD one, keptD other]))), some (.p (.d (.tuple [.int (q.f : Nat), .int (q.s : Nat), .int q.n]))), some (.p (.d (.int (q.f : Nat)))), some (.p (.d (.int (q.s : Nat)))), some (.p (.d (.int q.n))), some (.p (.d (.int q.least))), some (.cust (dnC P w ((lookW ws l r).map encW))), some (.p (.d (.int (l : Nat)))), some (.p (.d (.int (r : Nat)))), x11] _
        refine ss_one <| ss_if <| ET.mono (Q := fun b ρ1 => b = decide ((vl (lookW ws l r) ((l : Int), (r : Int))).isSome = true ∧ q.low l r) ∧ ρ1 = [some (.p (.d (.list (q.hv.map .int)))), some (.p (.d (.list (q.tv.map .int)))), some (.p (.d (.tuple [keptD one, keptD other]))), some (.p (.d (.tuple [.int (q.f : Nat), .int (q.s : Nat), .int q.n]))), some (.p (.d (.int (q.f : Nat)))), some (.p (.d (.int (q.s : Nat)))), some (.p (.d (.int q.n))), some (.p (.d (.int q.least))), some (.cust (dnC P w ((lookW ws l r).map encW))), some (.p (.d (.int (l : Nat)))), some (.p (.d (.int (r : Nat)))), x11]) ?_ ?_
        · refine EW.et <| ew_and <| et_nin 8 hr <| ev_tup <| ea_cons <| ev_var 9 rfl <| ea_cons <| ev_var 10 rfl <| ea_nil ⟨[.int (l : Nat), .int (r : Nat)], rfl, by simp, (lookW ws l r).map encW, [.num (l : Int), .num (r : Int)], rfl, rfl, keyP_depth ((l : Int), (r : Int)), ?_⟩
          rw [encW_val (lookW ws l r) ((l : Int), (r : Int)), Option.isSome_map]
          by_cases c1 : (vl (lookW ws l r) ((l : Int), (r : Int))).isSome = true
          · rw [if_pos c1]
            obtain ⟨row0, g1, g2⟩ := at_kept (one := one) (f := q.f) (a := l) (by omega) (by omega)
            obtain ⟨row1, g3, g4⟩ := at_kept (one := other) (f := q.s) (a := r) (by omega) (by omega)
            refine ew_and1 <| et_lt <| ev_add <| ev_ix <| ev_ix <| ev_ix <| ev_var 2 rfl <| ev_int ⟨_, _, keptD one, rfl, rfl, .inr (.inl ⟨_, rfl, rfl⟩), ev_var 4 rfl ⟨_, _, .list row0, rfl, rfl, .inl ⟨_, rfl, g1⟩, ev_var 9 rfl ⟨_, _, _, rfl, rfl, .inl ⟨_, rfl, g2⟩, ?_⟩⟩⟩
            refine ev_ix <| ev_ix <| ev_ix <| ev_var 2 rfl <| ev_int ⟨_, _, keptD other, rfl, rfl, .inr (.inl ⟨_, rfl, rfl⟩), ev_var 5 rfl ⟨_, _, .list row1, rfl, rfl, .inl ⟨_, rfl, g3⟩, ev_var 10 rfl ⟨_, _, _, rfl, rfl, .inl ⟨_, rfl, g4⟩, _, _, rfl, rfl, ev_var 6 rfl ⟨_, _, rfl, rfl, ?_, rfl⟩⟩⟩⟩
            rw [decide_eq_decide]
            unfold Ask.low
            rw [k0, k1]
            exact ⟨fun z => ⟨c1, z⟩, fun z => z.2⟩
          · rw [if_neg c1]
            exact ⟨(decide_eq_false fun z => c1 z.1).symm, rfl⟩
        rintro b ρ1 ⟨rfl, rfl⟩
        by_cases c2 : (vl (lookW ws l r) ((l : Int), (r : Int))).isSome = true ∧ q.low l r
        · rw [if_pos (decide_eq_true c2)]
          obtain ⟨wk, hwk⟩ := Option.isSome_iff_exists.mp c2.1
          refine ss_one <| ss_ret <| ev_nget 8 hr <| ev_tup <| ea_cons <| ev_var 9 rfl <| ea_cons <| ev_var 10 rfl <| ea_nil ⟨[.int (l : Nat), .int (r : Nat)], rfl, by simp, (lookW ws l r).map encW, [.num (l : Int), .num (r : Int)], wD wk, rfl, rfl, keyP_depth ((l : Int), (r : Int)), ?_, fin (some wk) ⟨l, r, look_at ok wo hl hr2 hm hwk, c2.2⟩⟩
          rw [encW_val (lookW ws l r) ((l : Int), (r : Int)), hwk]
          rfl
        · rw [if_neg (by simpa using c2)]
          exact ss_nil ⟨lookW ws l r, _, _, by rw [esj]; exact ws_next ok wo hl hr2 hm c2, by omega, rfl⟩
    · rintro ρ ⟨ws, x10, x11, wo, wl, rfl⟩
      rw [rangeD_len] at wo wl
      have e2 : q.f + (i + 1) = l + 1 := by omega
      refine ⟨ws, _, _, _, ?_, by omega, rfl⟩
      rw [e2]
      exact ws_row ok wo (by omega)
  · rintro ρ ⟨ws, x9, x10, x11, wo, wl, rfl⟩
    rw [rangeD_len] at wo
    exact ss_one <| ss_ret <| ev_none (fin none (ws_end ok wo (by omega)))
end
end W63
end PartF12
section PartF13
set_option maxRecDepth 100000
set_option maxHeartbeats 4000000
namespace DL
open PySem PySem.Spec PyProof.Rows L2
section
variable {X : Cx} {ρ : Ev} {pos : Pos} {R : Rt}
/-- x = [g(y) for y in ys] -/
theorem ss_setMp (i : Nat) {x : Str} {p1 cpos : Pos} {elt tg iter : Expr} {scope : Scope} {ix : List Nat} {α : Type} (enc : α → D) (own : List (Str × Nat)) (hc : X.calm = true) (hN : X.N.Nodup)
    (h : IE X tg iter ρ fun items ρ1 => ∃ (xs : List α) (g : α → D), items = xs.map enc ∧ forget ρ1 (own.map (·.2)) = ρ1 ∧ xs.length ≤ 100000 ∧ (∀ x ∈ xs, ∀ B, GB (Bx X scope B) tg ix (enc x) ρ1 fun ρ2 => ∀ B, EV (Bx X scope B) elt ρ2 fun y ρ4 => ρ4 = ρ2 ∧ y = .d (g x)) ∧ R.nx (ρ1.set i (some (.own (xs.map g)))))
    (hi : X.N[i]? = some x := by rfl) (hyl : X.env.scope.names.lookup x = some .local := by rfl) (ok : BlkOk X.N X.env.scope scope own := by exact blkOk_by (by kernel_rfl)) (hix : ∀ i ∈ ix, i ∈ own.map (·.2) := by decide) (hs : ∀ x, foldedSetIterable iter X.env x = pure x := by intro _; rfl)
    (hsw : swapsWith (.ListComp elt [⟨tg, iter, [], 0⟩] scope cpos) (some (.Name x p1)) pos.line X.env = pure true := by exact sw_true rfl rfl rfl (by kernel_rfl)) : SS X (.Assign [.Name x p1] (.ListComp elt [⟨tg, iter, [], 0⟩] scope cpos) pos) ρ R := by
  refine ss_setLc (ix := ix) i own hc hN (fun Γ fp F σ H R' t k => h Γ fp F σ H R' t fun J items G Y F' H' ρ' fp' t' f w hG hY ⟨xs, g, e1, e2, e3, turn, q⟩ => k J items G Y F' H' ρ' fp' t' f w hG hY ?_) hi hyl ok hix hs hsw
  subst e1
  refine ⟨e2, by rw [List.length_map]; exact e3, fun i acc => acc = (xs.take i).map g, by simp, fun i x acc hx ha => ?_, fun acc ha => ?_⟩
  · rw [List.getElem?_map] at hx
    cases q1 : xs[i]? with
    | none => rw [q1] at hx; cases hx
    | some z =>
      rw [q1] at hx
      cases hx
      intro B
      have hz : z ∈ xs := List.mem_of_getElem? q1
      intro Γ fp F σ H v Φ t r k
      refine turn z hz B Γ fp F σ H v Φ t r fun σ' ρ2 fp' t' u1 u2 hq => k σ' ρ2 fp' t' u1 u2 fun B => ets_nil ⟨rfl, iteT fun B => (hq B).mono fun y ρ4 ⟨e4, ey⟩ => ⟨e4, g z, ey, ?_⟩⟩
      show acc ++ [g z] = (xs.take (i + 1)).map g
      rw [ha, List.take_add_one, q1, List.map_append]
      rfl
  · rw [List.length_map, List.take_length] at ha
    rw [ha]
    exact q
end
end DL
namespace W63
open PySem PySem.Spec PyProof.Rows L2 DL
open PySem.XSup (XsTxt)
/-- how many are there behind k events -/
def hrs (evs : List Evt) : List Int := (List.range (evs.length + 1)).map fun i => ((thr (evs.take i)).length : Int)
theorem hrs_len {evs : List Evt} : (hrs evs).length = evs.length + 1 := by unfold hrs; rw [List.length_map, List.length_range]
theorem hrs_frees {n : Int} {evs : List Evt} : (frees n evs).map (fun x => n - x) = hrs evs := by
  unfold frees hrs
  rw [List.map_map]
  refine List.map_congr_left fun i _ => ?_
  show n - (n - _) = _
  omega
def askOf (hs : List Int) (one other : List Evt) (f s : Nat) : Ask :=
  ⟨hrs one, hrs other, cnt (prs one one.length) f, cnt (prs other other.length) s, f, s, owed hs (hs.sum - (hrs one).getD f 0 - (hrs other).getD s 0)⟩
/-- what every_weave gives -/
def EveryIs (hs : List Int) (one other : List Evt) : Option (List Evt) → Prop
  | some w => (∃ (i j : Nat) (a b : Int), (hrs one)[i]? = some a ∧ (hrs other)[j]? = some b ∧ hs.sum < a + b ∧ w = wvL one other [(i, j)]) ∨
      (∀ a ∈ hrs one, ∀ b ∈ hrs other, a + b ≤ hs.sum) ∧ ∃ f s way, f ≤ one.length ∧ s ≤ other.length ∧ 0 < (askOf hs one other f s).n ∧ WayIs (askOf hs one other f s) (some way) ∧ w = wvL one other way
  | none => (∀ a ∈ hrs one, ∀ b ∈ hrs other, a + b ≤ hs.sum) ∧ ∀ f s, f ≤ one.length → s ≤ other.length → 0 < (askOf hs one other f s).n → WayIs (askOf hs one other f s) none
def evyD : Option (List Evt) → D
  | some w => ttD w
  | none => .none
section
variable {P : Program} {w : World} {K : PySem.W.Frag} {mg : Str → Option Value} {base : Heap} {f : Addr} {fd : FuncData}
abbrev s_every_weave : Stmt := top 36
theorem sc_every_weave : FnScope ["yard", "one", "other", "here", "there", "kept", "first", "second", "needed", "way", "free"] ["yard", "one", "other"] (defScope s_every_weave) := ⟨rfl, rfl, rfl, by decide +kernel, rfl, by decide +kernel, by decide +kernel⟩
def w_every : Wp := fun as Ψ => ∃ (hs : List Int) (one other : List Evt), as = [.yd hs, .d (ttD one), .d (ttD other)] ∧ YardOk hs ∧ Two hs.sum one other ∧ ∀ res, EveryIs hs one other res → Ψ (.d (evyD res))
theorem ok_every (F : Fun K "every_weave" "every_weave" s_every_weave f fd) (T : Bl mg) (D1 : DefOk P w K mg base (L2.CX P w) "need_apart" 6 ["yard", "one", "other"] (spX mg K w_apart wx_apart)) (D2 : DefOk P w K mg base CX0 "places" 1 ["yard"] (spD K w_places))
    (D3 : DefOk P w K mg base CX0 "free_counts" 6 ["yard", "timetable"] (spD K w_free_counts)) (D4 : DefOk P w K mg base CX0 "woven" 1 ["one", "other", "way"] (spD K w_woven)) (D5 : DefOk P w K mg base CX0 "staying_counts" 2 ["timetable"] (spD K w_stay))
    (D6 : DefOk P w K mg base CX0 "owed" 1 ["yard", "cover"] (spD K w_owed)) (D7 : DefOk P w K mg base CX0 "short_way" 1 ["here", "there", "kept", "start"] (spD K w_short)) :
    FnOk P w K mg base (L2.CX P w) 7 f fd ["yard", "one", "other"] (spX mg K w_every wx_apart) := by
  have nd := sc_every_weave.nd
  refine fnX F sc_every_weave (fun as Ψ ⟨_, _, _, e, _⟩ => by rw [e]; rfl) (fun as Θ ⟨_, h⟩ => by rcases h with ⟨_, _, e, _⟩ | ⟨_, _, e, _⟩ | ⟨_, _, _, e, _⟩ <;> rw [e] <;> rfl) (fun cdv A outer s H E as Ψ hr ⟨hs, one, other, e, y, tw, q⟩ => ?_) (fun cdv A outer s H E as Θ hr h => ?_)
  · subst e
    have f1 := tw.o.few
    have f2 := tw.t.few
    have ylo := y.lo
    have yhi := y.hi
    have hr1 : Room 1 _ := hr.mono (by decide)
    refine ss_cons <| ss_expr <| ev_callX D1 hr <| ea_cons <| ev_var 0 rfl <| ea_cons <| ev_var 1 rfl <| ea_cons <| ev_var 2 rfl <| ea_nil ⟨hs, one, other, rfl, tw, ?_⟩
    have fl : ∀ evs : List Evt, (frees hs.sum evs).length = evs.length + 1 := fun evs => by unfold frees; rw [List.length_map, List.length_range]
    have eh : ∀ evs : List Evt, ((frees hs.sum evs).map fun x => PyData.int (hs.sum - x)) = (hrs evs).map .int := fun evs => by rw [← hrs_frees (n := hs.sum), List.map_map]; rfl
    refine ss_cons <| ss_setMp (ix := [10]) 3 PyData.int [("free", 10)] rfl nd <| ie_tup <| ev_call D3 hr <| ea_cons <| ev_var 0 rfl <| ea_cons <| ev_var 1 rfl <| ea_nil ⟨hs, one, rfl, tw.o, _, rfl, frees hs.sum one, fun x => .int (hs.sum - x), rfl, rfl, by rw [fl]; omega, fun x _ B => gb_name 10 (fun B => ev_sub <| ev_call D2 hr1 <| ea_cons <| ev_var 0 rfl <| ea_nil ⟨hs, rfl, ev_var 10 rfl ⟨_, _, rfl, rfl, rfl, rfl⟩⟩) nd, ?_⟩
    rw [eh]
    refine ss_cons <| ss_setMp (ix := [10]) 4 PyData.int [("free", 10)] rfl nd <| ie_tup <| ev_call D3 hr <| ea_cons <| ev_var 0 rfl <| ea_cons <| ev_var 2 rfl <| ea_nil ⟨hs, other, rfl, tw.t, _, rfl, frees hs.sum other, fun x => .int (hs.sum - x), rfl, rfl, by rw [fl]; omega, fun x _ B => gb_name 10 (fun B => ev_sub <| ev_call D2 hr1 <| ea_cons <| ev_var 0 rfl <| ea_nil ⟨hs, rfl, ev_var 10 rfl ⟨_, _, rfl, rfl, rfl, rfl⟩⟩) nd, ?_⟩
    rw [eh]
    refine ss_cons <| ss_if <| et_gt <| ev_add <| ev_max rfl hr T.max <| ev_take 3 rfl ⟨hrs one, .inl rfl, by rw [hrs_len]; omega, fun m1 a1 a2 => ev_max rfl hr T.max <| ev_take 4 rfl ⟨hrs other, .inl rfl, by rw [hrs_len]; omega, fun m2 b1 b2 => ⟨_, _, rfl, rfl, ev_call D2 hr1 <| ea_cons <| ev_var 0 rfl <| ea_nil ⟨hs, rfl, _, _, rfl, rfl, ?_⟩⟩⟩⟩
    refine ite2 (fun c => ?_) fun c => ?_
    · have c' : hs.sum < m1 + m2 := of_decide_eq_true c
      refine ss_one <| ss_ret <| ev_call D4 hr1 <| ea_cons <| ev_var 1 rfl <| ea_cons <| ev_var 2 rfl <| ea_cons <| EN.ev <| en_lst <| ea_cons <| ev_tup <| ea_cons <| ev_index <| ev_var 3 rfl ⟨hrs one, rfl, ev_max rfl hr T.max <| ev_var 3 rfl ⟨hrs one, .inl rfl, by rw [hrs_len]; omega, fun n1 d1 d2 => ⟨n1, rfl, d1, fun i hi => ?_⟩⟩⟩
      refine ea_cons <| ev_index <| ev_var 4 rfl ⟨hrs other, rfl, ev_max rfl hr T.max <| ev_var 4 rfl ⟨hrs other, .inl rfl, by rw [hrs_len]; omega, fun n2 e1 e2 => ⟨n2, rfl, e1, fun j hj => ?_⟩⟩⟩
      have q1 := d2 _ a1
      have q2 := e2 _ b1
      have hi1 := (List.getElem?_eq_some_iff.mp hi).1
      have hj1 := (List.getElem?_eq_some_iff.mp hj).1
      rw [hrs_len] at hi1 hj1
      refine ea_nil ⟨[.int (i : Nat), .int (j : Nat)], rfl, by simp, ea_nil ⟨[ptD (i, j)], rfl, by simp, ea_nil ⟨one, other, [(i, j)], rfl, fun z hz => ?_, by simp, f1, f2, q (some (wvL one other [(i, j)])) (.inl ⟨i, j, n1, n2, hi, hj, by omega, rfl⟩)⟩⟩⟩
      have : z = (i, j) := by simpa using hz
      rw [this]
      exact ⟨by show i ≤ _; omega, by show j ≤ _; omega⟩
    have c' : m1 + m2 ≤ hs.sum := by
      have : ¬ hs.sum < m1 + m2 := fun z => c (decide_eq_true z)
      omega
    have low : ∀ a ∈ hrs one, ∀ b ∈ hrs other, a + b ≤ hs.sum := fun a ha b hb => by
      have := a2 a ha
      have := b2 b hb
      omega
    refine ss_nil <| ss_cons <| ss_set 5 (EV.ec <| ev_tup <| ea_cons <| ev_call D5 (hr.mono (by decide)) <| ea_cons <| ev_var 1 rfl <| ea_nil ⟨one, rfl, tw.o.val, f1, ea_cons <| ev_call D5 (hr.mono (by decide)) <| ea_cons <| ev_var 2 rfl <| ea_nil ⟨other, rfl, tw.t.val, f2, ea_nil ⟨[keptD one, keptD other], rfl, by simp, ?_⟩⟩⟩) nd
    refine ss_cons <| ss_for (ix := [6]) PassesOwn.leaving rfl <| ie_range1 T.range <| ev_len T.len <| ev_var 3 rfl ⟨_, ((hrs one).map PyData.int).length, rfl, rfl, _, rfl, by rw [List.length_map, hrs_len]; omega, by rw [List.length_map, hrs_len]; omega, ?_⟩
    rw [List.length_map, hrs_len]
    refine ⟨fun i ρ => (∀ f s, f < i → s ≤ other.length → 0 < (askOf hs one other f s).n → WayIs (askOf hs one other f s) none) ∧ ∃ x6 x7 x8 x9 x10, ρ = [some (.p (.yd hs)), some (.p (.d (ttD one))), some (.p (.d (ttD other))), some (.p (.d (.list ((hrs one).map .int)))), some (.p (.d (.list ((hrs other).map .int)))), some (.p (.d (.tuple [keptD one, keptD other]))), x6, x7, x8, x9, x10],
      ⟨fun f s h => absurd h (Nat.not_lt_zero _), none, none, none, none, none, rfl⟩, ?_, ?_⟩
    · rintro i x ρ hx ⟨wi, x6, x7, x8, x9, x10, rfl⟩
      have hi := (List.getElem?_eq_some_iff.mp hx).1
      rw [rangeD_len] at hi
      rw [rangeD_get hi] at hx
      cases hx
      rw [Int.zero_add]
      refine gb_name 6 ?_ nd
      refine ss_one <| ss_for (ix := [7]) PassesOwn.leaving rfl <| ie_range1 T.range <| ev_len T.len <| ev_var 4 rfl ⟨_, ((hrs other).map PyData.int).length, rfl, rfl, _, rfl, by rw [List.length_map, hrs_len]; omega, by rw [List.length_map, hrs_len]; omega, ?_⟩
      rw [List.length_map, hrs_len]
      refine ⟨fun j ρ => (∀ s, s < j → 0 < (askOf hs one other i s).n → WayIs (askOf hs one other i s) none) ∧ ∃ x7 x8 x9 x10, ρ = [some (.p (.yd hs)), some (.p (.d (ttD one))), some (.p (.d (ttD other))), some (.p (.d (.list ((hrs one).map .int)))), some (.p (.d (.list ((hrs other).map .int)))), some (.p (.d (.tuple [keptD one, keptD other]))), some (.p (.d (.int (i : Nat)))), x7, x8, x9, x10],
        ⟨fun s h => absurd h (Nat.not_lt_zero _), x7, x8, x9, x10, rfl⟩, ?_, ?_⟩
      · rintro j x ρ hx ⟨wj, x7, x8, x9, x10, rfl⟩
        have hj := (List.getElem?_eq_some_iff.mp hx).1
        rw [rangeD_len] at hj
        rw [rangeD_get hj] at hx
        cases hx
        rw [Int.zero_add]
        have hi' : i < (hrs one).length := by rw [hrs_len]; omega
        have hj' : j < (hrs other).length := by rw [hrs_len]; omega
        have ok : AskOk (askOf hs one other i j) := ⟨hi', hj', by show (hrs one).length ≤ 31; rw [hrs_len]; omega, by show (hrs other).length ≤ 31; rw [hrs_len]; omega⟩
        refine gb_name 7 ?_ nd
        refine ss_cons <| ss_set 8 (EV.ec <| ev_call D6 hr1 <| ea_cons <| ev_var 0 rfl <| ea_cons <| ev_sub <| ev_sub <| ev_call D2 hr1 <| ea_cons <| ev_var 0 rfl <| ea_nil ⟨hs, rfl, ev_ix <| ev_var 3 rfl <| ev_var 6 rfl ⟨_, _, _, rfl, rfl, .inl ⟨_, rfl, at_int hi'⟩, _, _, rfl, rfl, ev_ix <| ev_var 4 rfl <| ev_var 7 rfl ⟨_, _, _, rfl, rfl, .inl ⟨_, rfl, at_int hj'⟩, _, _, rfl, rfl, ea_nil ⟨hs, _, rfl, by omega, ?_⟩⟩⟩⟩) nd
        have step : WayIs (askOf hs one other i j) none ∨ ¬ 0 < (askOf hs one other i j).n → ∀ s, s < j + 1 → 0 < (askOf hs one other i s).n → WayIs (askOf hs one other i s) none := fun h s hs1 hp => by
          by_cases e : s = j
          · subst e
            exact h.resolve_right fun z => z hp
          · exact wj s (by omega) hp
        refine ss_one <| ss_if <| et_gt <| ev_var 8 rfl <| ev_int ⟨_, _, rfl, rfl, ite2 (fun d => ?_) fun d => ?_⟩
        · have d' : 0 < (askOf hs one other i j).n := of_decide_eq_true d
          refine ss_cons <| ss_set 9 (EV.ec <| ev_call D7 hr1 <| ea_cons <| ev_var 3 rfl <| ea_cons <| ev_var 4 rfl <| ea_cons <| ev_var 5 rfl <| ea_cons <| ev_tup <| ea_cons <| ev_var 6 rfl <| ea_cons <| ev_var 7 rfl <| ea_cons <| ev_var 8 rfl <| ea_nil ⟨[.int (i : Nat), .int (j : Nat), .int (askOf hs one other i j).n], rfl, by simp, ea_nil ⟨askOf hs one other i j, one, other, rfl, ok, hrs_len, hrs_len, fun _ => rfl, fun _ => rfl, fun res hres => ?_⟩⟩) nd
          refine ss_one <| ss_if <| et_notN <| ev_var 9 rfl ?_
          cases res with
          | none => exact iteF (ss_nil ⟨step (.inl hres), _, _, _, _, rfl⟩)
          | some way =>
            refine iteT <| ss_one <| ss_ret <| ev_call D4 hr1 <| ea_cons <| ev_var 1 rfl <| ea_cons <| ev_var 2 rfl <| ea_cons <| ev_var 9 rfl <| ea_nil ⟨one, other, way, rfl, ?_, ?_, f1, f2, q (some (wvL one other way)) (.inr ⟨low, i, j, way, by omega, by omega, d', hres, rfl⟩)⟩
            · obtain ⟨a, b, p, _⟩ := hres
              intro z hz
              have h1 := (p.inTt ok).1 z hz
              have h2 : (askOf hs one other i j).hv.length = one.length + 1 := hrs_len
              have h3 : (askOf hs one other i j).tv.length = other.length + 1 := hrs_len
              exact ⟨by omega, by omega⟩
            · obtain ⟨a, b, p, _⟩ := hres
              have h1 := (p.inTt ok).2
              have h4 := p.bd ok
              have h2 : (askOf hs one other i j).hv.length = one.length + 1 := hrs_len
              have h3 : (askOf hs one other i j).tv.length = other.length + 1 := hrs_len
              omega
        · have d' : ¬ 0 < (askOf hs one other i j).n := fun z => d (decide_eq_true z)
          exact ss_nil ⟨step (.inr d'), _, _, _, _, rfl⟩
      · rintro ρ ⟨wj, x7, x8, x9, x10, rfl⟩
        rw [rangeD_len] at wj
        refine ⟨fun f s h1 h2 h3 => ?_, _, _, _, _, _, rfl⟩
        by_cases e : f = i
        · subst e
          exact wj s (by omega) h3
        · exact wi f s (by omega) h2 h3
    · rintro ρ ⟨wi, x6, x7, x8, x9, x10, rfl⟩
      rw [rangeD_len] at wi
      exact ss_one <| ss_ret <| ev_none (q none ⟨low, fun f s h1 h2 h3 => wi f s (by omega) h2 h3⟩)
  · obtain ⟨hs, h'⟩ := id h
    rcases h' with ⟨v1, v2, e, _⟩ | ⟨one, v2, e, _⟩ | ⟨one, other, b, e, _⟩
    all_goals
      subst e
      exact ss_cons <| ss_exprR <| er_call D1 hr <| ea_cons <| ev_var 0 rfl <| ea_cons <| ev_var 1 rfl <| ea_cons <| ev_var 2 rfl <| ea_nil h
end
end W63
end PartF13
section PartF14
set_option maxRecDepth 100000
set_option maxHeartbeats 4000000
namespace W63
open PySem PySem.Spec PyProof.Rows L2 DL
/-- a class's statements -/
def clsB : Stmt → List Stmt
  | .ClassDef _ _ _ b _ _ _ _ _ _ _ => b
  | _ => []
section
variable {P : Program} {w : World} {K : PySem.W.Frag} {mg : Str → Option Value} {base : Heap} {f C : Addr} {fd : FuncData}
abbrev s_yinit : Stmt := (clsB (top 18)).getD 0 (.Pass ⟨0, 0, 0, 0⟩)
theorem sc_yinit : FnScope ["self", "heights", "at", "height"] ["self", "heights"] (defScope s_yinit) := ⟨rfl, rfl, rfl, by decide +kernel, rfl, by decide +kernel, by decide +kernel⟩
def w_yinit : WpY := fun as Ψ => ∃ hs : List Int, as = [.d (.list (hs.map .int))] ∧ YardOk hs ∧ Ψ hs
theorem ok_yinit (F : Fun K "__init__" "Yard.__init__" s_yinit f fd) (T : Bl mg) (N : Cn mg) (hc : Cls K C) (hna : NoAttr K C "heights") (D1 : DefOk P w K mg base CX0 "is_sequence" 1 ["value"] (spD K w_is_sequence)) (D2 : DefOk P w K mg base CX0 "is_below" 2 ["value", "bound"] (spD K w_is_below)) :
    FnOk P w K mg base CX0 3 f fd ["self", "heights"] (spY K C w_yinit) := by
  have nd := sc_yinit.nd
  obtain ⟨tf, nf⟩ := N.fewest
  obtain ⟨tm, nm⟩ := N.most
  refine fnY F sc_yinit (fun as Ψ ⟨_, e, _⟩ => by rw [e]; rfl) (fun cdv A outer s H E as Ψ y dy hr ⟨hs, e, yo, q⟩ => ?_)
  subst e
  have ylo := yo.lo
  have yhi := yo.hi
  refine ss_cons <| ss_if <| EW.et <| ew_or <| et_not <| et_val <| ev_call D1 (hr.mono (by decide)) <| ea_cons <| ev_var 1 rfl <| ea_nil ⟨_, rfl, true, rfl, iteF ?_⟩
  refine ew_or1 <| et_not <| et_chainI op_le op_le <| ev_globI nf <| ev_len T.len <| ev_var 1 rfl ⟨_, (hs.map PyData.int).length, rfl, rfl, _, _, rfl, rfl, ?_⟩
  rw [List.length_map]
  have c1 : decide ((3 : Int) ≤ (hs.length : Nat)) = true := decide_eq_true (by omega)
  rw [if_pos c1]
  refine ev_globI nm ⟨_, rfl, ?_⟩
  have c2 : decide (((hs.length : Nat) : Int) ≤ 12) = true := decide_eq_true (by omega)
  rw [c2]
  refine iteF <| ss_nil <| ss_cons <| ss_for (ix := [2] ++ ([3] ++ [])) PassesOwn.never rfl <| ie_enum T.enumerate <| ev_var 1 rfl ⟨_, rfl, fun i ρ => ∃ x2 x3, ρ = [some (.cust (selfA C y dy)), some (.p (.d (.list (hs.map .int)))), x2, x3], ⟨none, none, rfl⟩, ?_, ?_⟩
  · rintro i x ρ hx ⟨x2, x3, rfl⟩
    have hi : i < hs.length := by
      have := (List.getElem?_eq_some_iff.mp hx).1
      rw [enumD_len, List.length_map] at this
      exact this
    rw [enumD_get (ds := hs.map PyData.int) (i := i) (d := .int hs[i]) (by rw [List.getElem?_map, List.getElem?_eq_getElem hi]; rfl)] at hx
    cases hx
    have hp := yo.pos hs[i] (List.getElem_mem hi)
    generalize hs[i] = n at hp
    refine gb_tup rfl <| gbs_cons <| gb_name 2 (gbs_cons <| gb_name 3 (gbs_nil ?_) nd) nd
    refine ss_one <| ss_if <| EW.et <| ew_or <| et_not <| et_val <| ev_call D2 (hr.mono (by decide)) <| ea_cons <| ev_var 3 rfl <| ea_cons <| ev_add <| ev_globI nm <| ev_int ⟨_, _, rfl, rfl, ea_nil ⟨n, _, rfl, _, rfl, ?_⟩⟩
    have c3 : (decide (0 ≤ n) && decide (n < 12 + 1)) = true := by
      rw [Bool.and_eq_true, decide_eq_true_iff, decide_eq_true_iff]
      omega
    rw [c3]
    refine iteF <| ew_or1 <| et_eqI <| ev_var 3 rfl <| ev_int ⟨_, _, rfl, rfl, ?_⟩
    have c4 : decide (n = 0) = false := decide_eq_false (by omega)
    rw [c4]
    exact iteF <| ss_nil ⟨_, _, rfl⟩
  · rintro ρ ⟨x2, x3, rfl⟩
    exact ss_one <| ss_heights 0 hc hna <| ev_tuple T.tuple <| ev_var 1 rfl ⟨_, .inl rfl, hs, rfl, rfl, hs, rfl, q⟩
end
end W63
end PartF14
section PartLF1
set_option maxRecDepth 100000
set_option maxHeartbeats 4000000
namespace W63
open PySem PySem.Spec PyProof.Rows L2 DL
section
variable {P : Program} {w : World} {K : PySem.W.Frag} {mg : Str → Option Value} {base : Heap} {f : Addr} {fd : FuncData}
def liD (hs : List Int) : D := .list (hs.map .int)
/-! ### _law_owed -/
abbrev s_lowed : Stmt := top 48
theorem sc_lowed : FnScope ["_law_heights", "_law_cover", "_law_height"] ["_law_heights", "_law_cover"] (defScope s_lowed) := ⟨rfl, rfl, rfl, by decide +kernel, rfl, by decide +kernel, by decide +kernel⟩
def w_lowed : Wp := fun as Ψ => ∃ (hs : List Int) (c : Int), as = [.d (liD hs), .d (.int c)] ∧ hs.length ≤ 100000 ∧ Ψ (.d (.int (owed hs c)))
theorem ok_lowed (F : Fun K "_law_owed" "_law_owed" s_lowed f fd) (T : Bl mg) : FnOk P w K mg base CX0 1 f fd ["_law_heights", "_law_cover"] (spD K w_lowed) := by
  refine fnD F sc_lowed (fun as Ψ ⟨hs, c, e, _⟩ => by rw [e]; rfl) (fun cdv A outer s H E as Ψ hr ⟨hs, c, e, hl, q⟩ => ?_)
  subst e
  have nd := sc_lowed.nd
  refine ss_one <| ss_ret <| ev_sum rfl T.sum <| EN.ev <| en_mp (ix := [2]) hs .int (fun h => .int (max 0 (h - c))) [("_law_height", 2)] rfl nd <| ie_list <| ev_var 0 rfl ⟨_, rfl, rfl, rfl, hl, fun h _ B => gb_name 2 (fun B => ev_max2 rfl T.max <| ev_int <| ev_sub <| ev_var 2 rfl <| ev_var 1 rfl ⟨_, _, rfl, rfl, _, _, rfl, rfl, rfl, rfl⟩) nd, ?_⟩
  exact ⟨hs.map fun h => max 0 (h - c), .inl (by rw [List.map_map]; rfl), q⟩
/-! ### _law_states -/
def stD (n : Int) (t : List Str) : D := .tuple [.int (n - (t.length : Nat)), .tuple (t.map .str)]
def stsL (n : Int) (evs : List Evt) (m : Nat) : List D := (List.range (m + 1)).map fun k => stD n (thr (evs.take k))
abbrev s_lstates : Stmt := top 49
theorem sc_lstates : FnScope ["_law_heights", "_law_events", "_law_there", "_law_found", "_law_word", "_law_box", "_law_one"] ["_law_heights", "_law_events"] (defScope s_lstates) := ⟨rfl, rfl, rfl, by decide +kernel, rfl, by decide +kernel, by decide +kernel⟩
def w_lstates : Wp := fun as Ψ => ∃ (hs : List Int) (evs : List Evt), as = [.d (liD hs), .d (ttD evs)] ∧ hs.length ≤ 100 ∧ evs.length ≤ 1000 ∧ Ψ (.d (.list (stsL hs.sum evs evs.length)))
theorem thr_lenG : ∀ (evs : List Evt) (t : List Str), (evs.foldl stp t).length ≤ t.length + evs.length
  | [], t => Nat.le_refl _
  | e :: evs, t => by
    rw [List.foldl_cons, List.length_cons]
    have h := thr_lenG evs (stp t e)
    have h2 : (stp t e).length ≤ t.length + 1 := by
      unfold stp
      split
      · rw [List.length_append, List.length_singleton]; omega
      · have := List.length_filter_le (fun b => decide (b ≠ e.2)) t
        omega
    omega
theorem thr_len (evs : List Evt) : (thr evs).length ≤ evs.length := by
  have := thr_lenG evs []
  rw [List.length_nil, Nat.zero_add] at this
  exact this
theorem stsL_snoc {n : Int} {evs : List Evt} {m : Nat} : stsL n evs (m + 1) = stsL n evs m ++ [stD n (thr (evs.take (m + 1)))] := by
  unfold stsL
  rw [List.range_succ (n := m + 1), List.map_append]
  rfl
theorem str_fm (b : Str) : ∀ t : List Str, (t.filterMap fun x => if x ≠ b then some (PyData.str x) else none) = (t.filter fun x => decide (x ≠ b)).map .str
  | [] => rfl
  | x :: t => by
    have ih := str_fm b t
    rw [List.filterMap_cons, List.filter_cons]
    by_cases c : x = b
    · rw [if_neg (fun z => z c), if_neg (by simp [c])]
      exact ih
    · rw [if_pos c, if_pos (by simpa using c), List.map_cons, ih]
theorem ok_lstates (F : Fun K "_law_states" "_law_states" s_lstates f fd) (T : Bl mg) : FnOk P w K mg base CX0 1 f fd ["_law_heights", "_law_events"] (spD K w_lstates) := by
  refine fnD F sc_lstates (fun as Ψ ⟨_, _, e, _⟩ => by rw [e]; rfl) (fun cdv A outer s H E as Ψ hr ⟨hs, evs, e, hl, el, q⟩ => ?_)
  subst e
  have nd := sc_lstates.nd
  refine ss_cons <| ss_par 2 3 (by decide) rfl nd (EV.ec <| ev_tup <| ea_nil ⟨[], rfl, by simp, EN.ec <| en_lst <| ea_cons <| ev_tup <| ea_cons <| ev_sum rfl T.sum <| ev_var 0 rfl ⟨hs, .inl rfl, ea_cons <| ev_tup <| ea_nil ⟨[], rfl, by simp, ?_⟩⟩⟩)
  refine ea_nil ⟨[.int hs.sum, .tuple []], rfl, by simp, ea_nil ⟨[stD hs.sum []], by show [DL.P.d (PyData.tuple [.int hs.sum, .tuple []])] = [DL.P.d (PyData.tuple [.int (hs.sum - 0), .tuple []])]; rw [Int.sub_zero], by simp, ?_⟩⟩
  refine ss_cons <| ss_for (ix := [4] ++ ([5] ++ [])) PassesOwn.never rfl <| ie_tup <| ev_var 1 rfl ⟨_, rfl, fun i ρ => ∃ x4 x5, ρ = [some (.p (.d (liD hs))), some (.p (.d (ttD evs))), some (.p (.d (.tuple ((thr (evs.take i)).map .str)))), some (.own (stsL hs.sum evs i)), x4, x5, none], ⟨none, none, rfl⟩, ?_, ?_⟩
  · rintro i x ρ hx ⟨x4, x5, rfl⟩
    obtain ⟨ev, hev, rfl⟩ := map_at hx
    have hi := (List.getElem?_eq_some_iff.mp hev).1
    have tk : evs.take (i + 1) = evs.take i ++ [ev] := by rw [List.take_add_one, hev]; rfl
    have ts : thr (evs.take (i + 1)) = stp (thr (evs.take i)) ev := by rw [tk, thr_snoc]
    have tl := thr_len (evs.take i)
    rw [List.length_take] at tl
    refine gb_tup rfl <| gbs_cons <| gb_name 4 (gbs_cons <| gb_name 5 (gbs_nil ?_) nd) nd
    refine ss_cons <| ss_set 2 (EV.ec <| EV.mono (Q := fun y ρ1 => y = .d (.tuple ((thr (evs.take (i + 1))).map .str)) ∧ ρ1 = [some (.p (.d (liD hs))), some (.p (.d (ttD evs))), some (.p (.d (.tuple ((thr (evs.take i)).map .str)))), some (.own (stsL hs.sum evs i)), some (.p (.d (.str ev.1))), some (.p (.d (.str ev.2))), none]) ?_ ?_) nd
    · refine ev_ifExp <| et_eqS <| ev_var 4 rfl <| ev_str ⟨_, _, rfl, rfl, ite2 (fun c => ?_) fun c => ?_⟩
      · have c' := of_decide_eq_true c
        refine ev_cat_tup <| ev_var 2 rfl <| ev_tup <| ea_cons <| ev_var 5 rfl <| ea_nil ⟨[.str ev.2], rfl, by simp, (thr (evs.take i)).map .str, _, rfl, rfl, by rw [List.length_map]; simp; omega, ?_, rfl⟩
        rw [ts]
        unfold stp
        rw [if_pos c', List.map_append]
        rfl
      · have c' : ¬ ev.1 = ("in" : Str) := fun z => c (decide_eq_true z)
        refine ev_tuple T.tuple <| EN.ev <| en_fm (ix := [6]) (thr (evs.take i)) .str (fun b => if b ≠ ev.2 then some (.str b) else none) [("_law_one", 6)] rfl nd <| ie_tup <| ev_var 2 rfl ⟨_, rfl, rfl, rfl, by omega, fun b _ B => gb_name 6 (fun B => ?_) nd, _, .inl rfl, ?_, rfl⟩
        · refine et_neS <| ev_var 6 rfl <| ev_var 5 rfl ⟨_, _, rfl, rfl, rfl, ?_⟩
          exact ite2 (fun c1 B => ev_var 6 rfl ⟨rfl, _, rfl, if_pos (of_decide_eq_true c1)⟩) fun c1 => if_neg fun z => c1 (decide_eq_true z)
        · rw [str_fm, ts]
          unfold stp
          rw [if_neg c']
    · rintro y ρ1 ⟨rfl, rfl⟩
      have tl1 := thr_len (evs.take (i + 1))
      rw [List.length_take] at tl1
      refine ss_one <| ss_app 3 <| ev_tup <| ea_cons <| ev_sub <| ev_sum rfl T.sum <| ev_var 0 rfl ⟨hs, .inl rfl, ev_len T.len <| ev_var 2 rfl ⟨_, ((thr (evs.take (i + 1))).map PyData.str).length, rfl, rfl, _, _, rfl, rfl, ea_cons <| ev_var 2 rfl ?_⟩⟩
      rw [List.length_map]
      refine ea_nil ⟨[.int (hs.sum - ((thr (evs.take (i + 1))).length : Nat)), .tuple ((thr (evs.take (i + 1))).map .str)], rfl, by simp, _, stsL hs.sum evs i, rfl, rfl, by unfold stsL; rw [List.length_map, List.length_range]; omega, ?_⟩
      rw [show stsL hs.sum evs i ++ [PyData.tuple [.int (hs.sum - ((thr (evs.take (i + 1))).length : Nat)), .tuple ((thr (evs.take (i + 1))).map .str)]] = stsL hs.sum evs (i + 1) from stsL_snoc.symm]
      exact ⟨_, _, rfl⟩
  · rintro ρ ⟨x4, x5, rfl⟩
    refine ss_one <| ss_ret <| ev_take 3 rfl ?_
    rw [List.length_map]
    exact q
end
end W63
end PartLF1
section PartLF2
set_option maxRecDepth 100000
set_option maxHeartbeats 4000000
namespace W63
open PySem PySem.Spec PyProof.Rows L2 DL
/-- the place where the stretch with c starts -/
def dsc (fr : Nat → Int) (c : Int) : Nat → Nat
  | 0 => 0
  | a + 1 => if fr a ≤ c then dsc fr c a else a + 1
theorem dsc_le {fr : Nat → Int} {c : Int} : ∀ a, dsc fr c a ≤ a
  | 0 => Nat.le_refl _
  | a + 1 => by
    unfold dsc
    split
    · have := dsc_le (fr := fr) (c := c) a
      omega
    · exact Nat.le_refl _
theorem dsc_dsc {fr : Nat → Int} {c d : Int} (h : c ≤ d) : ∀ a, dsc fr d (dsc fr c a) = dsc fr d a
  | 0 => rfl
  | a + 1 => by
    have ih := dsc_dsc (fr := fr) h a
    show dsc fr d (if fr a ≤ c then dsc fr c a else a + 1) = if fr a ≤ d then dsc fr d a else a + 1
    by_cases c1 : fr a ≤ c
    · rw [if_pos c1, if_pos (by omega)]
      exact ih
    · rw [if_neg c1]
      rfl
theorem dsc_stop {fr : Nat → Int} {c : Int} {a : Nat} (h : ¬ (0 < a ∧ fr (a - 1) ≤ c)) : dsc fr c a = a := by
  cases a with
  | zero => rfl
  | succ a =>
    have h2 : ¬ fr a ≤ c := fun z => h ⟨by omega, z⟩
    exact if_neg h2
theorem dsc_go {fr : Nat → Int} {c : Int} {a : Nat} (h : 0 < a ∧ fr (a - 1) ≤ c) : dsc fr c a = dsc fr c (a - 1) := by
  cases a with
  | zero => omega
  | succ a =>
    show (if fr a ≤ c then dsc fr c a else a + 1) = _
    have h2 : fr a ≤ c := h.2
    rw [if_pos h2]
    rfl
def frK (n : Int) (evs : List Evt) (k : Nat) : Int := n - ((thr (evs.take k)).length : Nat)
/-- who stays: those who were there at a and are there at m -/
def stk (evs : List Evt) (a m : Nat) : Int := (((thr (evs.take m)).filter fun b => decide (b ∈ thr (evs.take a))).length : Nat)
/-- the law's own test: a stretch that ends at m has too few who stay -/
def lbad (hs : List Int) (evs : List Evt) (m : Nat) : Prop := frK hs.sum evs m < 0 ∨ ∃ c, frK hs.sum evs m ≤ c ∧ c < mxl hs ∧ stk evs (dsc (frK hs.sum evs) c m) m < owed hs c
section
variable {P : Program} {w : World} {K : PySem.W.Frag} {mg : Str → Option Value} {base : Heap} {f : Addr} {fd : FuncData}
abbrev s_lbad : Stmt := top 50
theorem sc_lbad : FnScope ["_law_heights", "_law_states_here", "_law_free", "_law_there", "_law_at", "_law_cover", "_law_box"] ["_law_heights", "_law_states_here"] (defScope s_lbad) := ⟨rfl, rfl, rfl, by decide +kernel, rfl, by decide +kernel, by decide +kernel⟩
def w_lbad : Wp := fun as Ψ => ∃ (hs : List Int) (evs : List Evt) (m : Nat), as = [.d (liD hs), .d (.list (stsL hs.sum evs m))] ∧ YardOk hs ∧ m ≤ 1000 ∧ ∀ b : Bool, (b = true ↔ lbad hs evs m) → Ψ (.d (.bool b))
theorem sts_len {n : Int} {evs : List Evt} {m : Nat} : (stsL n evs m).length = m + 1 := by unfold stsL; rw [List.length_map, List.length_range]
theorem sts_at {n : Int} {evs : List Evt} {m k : Nat} (h : k ≤ m) : atI (stsL n evs m) (k : Nat) = some (stD n (thr (evs.take k))) := by
  refine atI_of ?_
  unfold stsL
  rw [List.getElem?_map, List.getElem?_range (by omega)]
  rfl
theorem sts_last {n : Int} {evs : List Evt} {m : Nat} : atI (stsL n evs m) (-1) = some (stD n (thr (evs.take m))) := by
  unfold atI ixN
  rw [sts_len, if_neg (by omega), if_pos (by omega)]
  have e : ((-1 : Int) + ((m + 1 : Nat) : Int)).toNat = m := by omega
  show (stsL n evs m)[((-1 : Int) + ((m + 1 : Nat) : Int)).toNat]? = _
  rw [e]
  unfold stsL
  rw [List.getElem?_map, List.getElem?_range (by omega)]
  rfl
theorem ok_lbad (F : Fun K "_law_bad" "_law_bad" s_lbad f fd) (T : Bl mg) (D1 : DefOk P w K mg base CX0 "_law_owed" 1 ["_law_heights", "_law_cover"] (spD K w_lowed)) : FnOk P w K mg base CX0 2 f fd ["_law_heights", "_law_states_here"] (spD K w_lbad) := by
  refine fnD F sc_lbad (fun as Ψ ⟨_, _, _, e, _⟩ => by rw [e]; rfl) (fun cdv A outer s H E as Ψ hr ⟨hs, evs, m, e, yo, ml, q⟩ => ?_)
  subst e
  have nd := sc_lbad.nd
  have ylo := yo.lo
  have yhi := yo.hi
  have ysm := yo.sum
  have ymx := yo.mx
  have tlm := thr_len (evs.take m)
  rw [List.length_take] at tlm
  refine ss_cons <| ss_asg <| ev_ix <| ev_var 1 rfl <| ev_neg <| ev_int ⟨1, rfl, _, _, _, rfl, rfl, .inl ⟨_, rfl, sts_last⟩, _, rfl, gb_tup rfl <| gbs_cons <| gb_name 2 (gbs_cons <| gb_name 3 (gbs_nil ?_) nd) nd⟩
  refine ss_cons <| ss_if <| et_lt <| ev_var 2 rfl <| ev_int ⟨_, _, rfl, rfl, ite2 (fun c => ?_) fun c => ?_⟩
  · exact ss_one <| ss_ret <| ev_bool (q true ⟨fun _ => .inl (of_decide_eq_true c), fun _ => rfl⟩)
  have c0 : ¬ frK hs.sum evs m < 0 := fun z => c (decide_eq_true z)
  refine ss_nil <| ss_cons <| ss_set 4 (EV.ec <| ev_sub <| ev_len T.len <| ev_var 1 rfl ⟨_, (stsL hs.sum evs m).length, rfl, rfl, ev_int ⟨_, _, rfl, rfl, ?_⟩⟩) nd
  rw [sts_len]
  have em : ((m + 1 : Nat) : Int) - 1 = (m : Nat) := by omega
  rw [em]
  refine ss_cons <| ss_for (ix := [5]) PassesOwn.never rfl <| ie_range2 T.range <| ev_var 2 rfl <| ev_max rfl hr T.max <| ev_var 0 rfl ⟨hs, .inl rfl, by omega, fun mx h1 h2 => ?_⟩
  have emx := mxl_is yo.nn h1 h2
  subst emx
  have fb : frK hs.sum evs m ≤ hs.sum := by unfold frK; omega
  refine ⟨frK hs.sum evs m, mxl hs, rfl, rfl, by omega, fun i ρ => ∃ a x5, a ≤ m ∧ (∀ c, frK hs.sum evs m + (i : Nat) ≤ c → dsc (frK hs.sum evs) c a = dsc (frK hs.sum evs) c m) ∧ (∀ c, frK hs.sum evs m ≤ c → c < frK hs.sum evs m + (i : Nat) → ¬ stk evs (dsc (frK hs.sum evs) c m) m < owed hs c) ∧
    ρ = [some (.p (.d (liD hs))), some (.p (.d (.list (stsL hs.sum evs m)))), some (.p (.d (.int (frK hs.sum evs m)))), some (.p (.d (.tuple ((thr (evs.take m)).map .str)))), some (.p (.d (.int (a : Nat)))), x5, none], ⟨m, none, Nat.le_refl _, fun _ _ => rfl, fun c h1 h2 => by have h3 : c < frK hs.sum evs m + 0 := h2; omega, rfl⟩, ?_, ?_⟩
  · rintro i x ρ hx ⟨a, x5, am, hd, hok, rfl⟩
    have hi := (List.getElem?_eq_some_iff.mp hx).1
    rw [rangeD_len] at hi
    rw [rangeD_get hi] at hx
    cases hx
    have hi2 : frK hs.sum evs m + (i : Nat) < mxl hs := by omega
    generalize hcv : frK hs.sum evs m + (i : Nat) = cv at hd hok hi2 ⊢
    refine gb_name 5 ?_ nd
    refine ss_cons <| ss_while PassesOwn.never (fun k ρ => k ≤ m ∧ dsc (frK hs.sum evs) cv k = dsc (frK hs.sum evs) cv m ∧ ρ = [some (.p (.d (liD hs))), some (.p (.d (.list (stsL hs.sum evs m)))), some (.p (.d (.int (frK hs.sum evs m)))), some (.p (.d (.tuple ((thr (evs.take m)).map .str)))), some (.p (.d (.int (k : Nat)))), some (.p (.d (.int cv))), none]) a ⟨am, hd cv (Int.le_refl _), rfl⟩ ?_
    rintro k ρ ⟨km, hk, rfl⟩
    refine ET.mono (Q := fun b ρ1 => b = decide (0 < k ∧ frK hs.sum evs (k - 1) ≤ cv) ∧ ρ1 = [some (.p (.d (liD hs))), some (.p (.d (.list (stsL hs.sum evs m)))), some (.p (.d (.int (frK hs.sum evs m)))), some (.p (.d (.tuple ((thr (evs.take m)).map .str)))), some (.p (.d (.int (k : Nat)))), some (.p (.d (.int cv))), none]) ?_ ?_
    · refine EW.et <| ew_and <| et_gt <| ev_var 4 rfl <| ev_int ⟨_, _, rfl, rfl, ?_⟩
      by_cases c1 : 0 < k
      · have c1' : decide ((0 : Int) < (k : Nat)) = true := decide_eq_true (by omega)
        rw [if_pos c1']
        have ek : ((k : Nat) : Int) - 1 = ((k - 1 : Nat) : Int) := by omega
        refine ew_and1 <| et_le <| ev_ix <| ev_ix <| ev_var 1 rfl <| ev_sub <| ev_var 4 rfl <| ev_int ⟨_, _, rfl, rfl, _, _, stD hs.sum (thr (evs.take (k - 1))), rfl, rfl, .inl ⟨_, rfl, by rw [ek]; exact sts_at (by omega)⟩, ev_int ⟨_, _, .int (frK hs.sum evs (k - 1)), rfl, rfl, .inr (.inl ⟨_, rfl, rfl⟩), ev_var 5 rfl ⟨_, _, rfl, rfl, ?_, rfl⟩⟩⟩
        rw [decide_eq_decide]
        exact ⟨fun z => ⟨c1, z⟩, fun z => z.2⟩
      · have c1' : decide ((0 : Int) < (k : Nat)) = false := decide_eq_false (by omega)
        rw [c1']
        exact ⟨(decide_eq_false fun z => c1 z.1).symm, rfl⟩
    rintro b ρ1 ⟨rfl, rfl⟩
    by_cases c2 : 0 < k ∧ frK hs.sum evs (k - 1) ≤ cv
    · rw [if_pos (decide_eq_true c2)]
      have ek : ((k : Nat) : Int) - 1 = ((k - 1 : Nat) : Int) := by omega
      refine ss_one <| ss_set 4 (EV.ec <| ev_sub <| ev_var 4 rfl <| ev_int ⟨_, _, rfl, rfl, k - 1, by omega, by omega, ?_, by rw [ek]; rfl⟩) nd
      rw [← dsc_go c2]
      exact hk
    · rw [if_neg (by simpa using c2)]
      have e1 := dsc_stop c2
      rw [hk] at e1
      have km2 : k ≤ m := by rw [← e1]; exact dsc_le m
      refine ss_one <| ss_if <| et_lt <| ev_len T.len <| EN.ev <| en_fm (ix := [6]) (thr (evs.take m)) .str (fun b => if b ∈ thr (evs.take k) then some (.str b) else none) [("_law_box", 6)] rfl nd <| ie_tup <| ev_var 3 rfl ⟨_, rfl, rfl, rfl, by omega, fun b _ B => gb_name 6 (fun B => ?_) nd, ?_⟩
      · refine et_cmp op_in_seq <| ev_var 6 rfl <| ev_ix <| ev_ix <| ev_var 1 rfl <| ev_var 4 rfl ⟨_, _, stD hs.sum (thr (evs.take k)), rfl, rfl, .inl ⟨_, rfl, sts_at km2⟩, ev_int ⟨_, _, .tuple ((thr (evs.take k)).map .str), rfl, rfl, .inr (.inl ⟨_, rfl, rfl⟩), do_inS (neg := false) (.inr rfl) ⟨_, rfl, rfl, ?_⟩⟩⟩
        exact ite2 (fun c1 B => ev_var 6 rfl ⟨rfl, _, rfl, if_pos (of_decide_eq_true c1)⟩) fun c1 => if_neg fun z => c1 (decide_eq_true z)
      · refine ⟨_, _, rfl, rfl, ?_⟩
        rw [filterMap_len (p := fun b => decide (b ∈ thr (evs.take k))) (fun x => by by_cases z : x ∈ thr (evs.take k) <;> simp [z])]
        refine ev_call D1 (hr.mono (by decide)) <| ea_cons <| ev_var 0 rfl <| ea_cons <| ev_var 5 rfl <| ea_nil ⟨hs, cv, rfl, by omega, _, _, rfl, rfl, ite2 (fun d => ?_) fun d => ?_⟩
        · have d' : stk evs k m < owed hs cv := of_decide_eq_true d
          refine ss_one <| ss_ret <| ev_bool (q true ⟨fun _ => .inr ⟨cv, by omega, hi2, ?_⟩, fun _ => rfl⟩)
          rw [e1]
          exact d'
        · have d' : ¬ stk evs k m < owed hs cv := fun z => d (decide_eq_true z)
          refine ss_nil ⟨k, some (.p (.d (.int cv))), km2, fun c hc => ?_, fun c h1 h2 => ?_, rfl⟩
          · have h3 : frK hs.sum evs m + ((i + 1 : Nat) : Int) ≤ c := hc
            rw [← e1]
            exact dsc_dsc (by omega) m
          · have h3 : c < frK hs.sum evs m + ((i + 1 : Nat) : Int) := h2
            by_cases e9 : c = cv
            · subst e9
              rw [e1]
              exact d'
            · exact hok c h1 (by omega)
  · rintro ρ ⟨a, x5, am, hd, hok, rfl⟩
    rw [rangeD_len] at hok
    refine ss_one <| ss_ret <| ev_bool (q false ⟨fun z => (nomatch z), fun z => ?_⟩)
    rcases z with z | ⟨c, h1, h2, h3⟩
    · exact absurd z c0
    · exact absurd h3 (hok c h1 (by omega))
end
end W63
end PartLF2
section PartLF3
set_option maxRecDepth 100000
set_option maxHeartbeats 4000000
namespace W63
open PySem PySem.Spec PyProof.Rows L2 DL
def StuckIs (hs : List Int) (evs : List Evt) : Option Nat → Prop
  | some i => i < evs.length ∧ lbad hs evs (i + 1)
  | none => ∀ j, j < evs.length → ¬ lbad hs evs (j + 1)
def onD : Option Nat → D
  | some i => .int (i : Nat)
  | none => .none
theorem sts_take {n : Int} {evs : List Evt} {m k : Nat} (h : k ≤ m) : (stsL n evs m).take (k + 1) = stsL n evs k := by
  unfold stsL
  rw [← List.map_take, List.take_range, Nat.min_eq_left (by omega)]
theorem sts_cut {n : Int} {evs : List Evt} {i : Nat} (h : i < evs.length) : DL.cutD (stsL n evs evs.length) none (some ((i : Int) + 2)) = stsL n evs (i + 1) := by
  have e : ((i : Int) + 2) = ((i + 2 : Nat) : Int) := by omega
  unfold DL.cutD
  rw [e, HT.sIx_nat, sts_len]
  show ((stsL n evs evs.length).drop 0).take (min (i + 2) (evs.length + 1) - 0) = _
  rw [List.drop_zero, Nat.sub_zero, Nat.min_eq_left (by omega)]
  exact sts_take (by omega)
section
variable {P : Program} {w : World} {K : PySem.W.Frag} {mg : Str → Option Value} {base : Heap} {f : Addr} {fd : FuncData}
abbrev s_lstuck : Stmt := top 51
theorem sc_lstuck : FnScope ["_law_heights", "_law_events", "_law_states_here", "_law_at"] ["_law_heights", "_law_events"] (defScope s_lstuck) := ⟨rfl, rfl, rfl, by decide +kernel, rfl, by decide +kernel, by decide +kernel⟩
def w_lstuck : Wp := fun as Ψ => ∃ (hs : List Int) (evs : List Evt), as = [.d (liD hs), .d (ttD evs)] ∧ YardOk hs ∧ evs.length ≤ 100 ∧ ∀ res, StuckIs hs evs res → Ψ (.d (onD res))
theorem ok_lstuck (F : Fun K "_law_stuck" "_law_stuck" s_lstuck f fd) (T : Bl mg) (D1 : DefOk P w K mg base CX0 "_law_states" 1 ["_law_heights", "_law_events"] (spD K w_lstates)) (D2 : DefOk P w K mg base CX0 "_law_bad" 2 ["_law_heights", "_law_states_here"] (spD K w_lbad)) :
    FnOk P w K mg base CX0 3 f fd ["_law_heights", "_law_events"] (spD K w_lstuck) := by
  refine fnD F sc_lstuck (fun as Ψ ⟨_, _, e, _⟩ => by rw [e]; rfl) (fun cdv A outer s H E as Ψ hr ⟨hs, evs, e, yo, el, q⟩ => ?_)
  subst e
  have nd := sc_lstuck.nd
  have yhi := yo.hi
  refine ss_cons <| ss_set 2 (EV.ec <| ev_call D1 (hr.mono (by decide)) <| ea_cons <| ev_var 0 rfl <| ea_cons <| ev_var 1 rfl <| ea_nil ⟨hs, evs, rfl, by omega, by omega, ?_⟩) nd
  refine ss_cons <| ss_for (ix := [3]) PassesOwn.never rfl <| ie_range1 T.range <| ev_len T.len <| ev_var 1 rfl ⟨_, (evs.map evD).length, rfl, rfl, _, rfl, by rw [List.length_map]; omega, by rw [List.length_map]; omega, ?_⟩
  rw [List.length_map]
  refine ⟨fun i ρ => ∃ x3, (∀ j, j < i → ¬ lbad hs evs (j + 1)) ∧ ρ = [some (.p (.d (liD hs))), some (.p (.d (ttD evs))), some (.p (.d (.list (stsL hs.sum evs evs.length)))), x3], ⟨none, fun j h => absurd h (Nat.not_lt_zero _), rfl⟩, ?_, ?_⟩
  · rintro i x ρ hx ⟨x3, hb, rfl⟩
    have hi := (List.getElem?_eq_some_iff.mp hx).1
    rw [rangeD_len] at hi
    rw [rangeD_get hi] at hx
    cases hx
    rw [Int.zero_add]
    refine gb_name 3 ?_ nd
    refine ss_one <| ss_if <| et_val <| ev_call D2 hr <| ea_cons <| ev_var 0 rfl <| ea_cons <| EN.ev <| en_slL <| ev_var 2 rfl <| eo_none <| eo_some <| ev_add <| ev_var 3 rfl <| ev_int ⟨_, _, rfl, rfl, _, rfl, _, rfl, ?_⟩
    rw [sts_cut (by omega)]
    refine ea_nil ⟨hs, evs, i + 1, rfl, yo, by omega, fun b hb2 => ⟨b, rfl, ?_⟩⟩
    cases b with
    | true => exact iteT <| ss_one <| ss_ret <| ev_var 3 rfl (q (some i) ⟨by omega, hb2.mp rfl⟩)
    | false =>
      refine iteF <| ss_nil ⟨_, fun j hj => ?_, rfl⟩
      by_cases e : j = i
      · subst e
        exact fun z => Bool.false_ne_true (hb2.mpr z)
      · exact hb j (by omega)
  · rintro ρ ⟨x3, hb, rfl⟩
    rw [rangeD_len] at hb
    exact ss_one <| ss_ret <| ev_none (q none fun j hj => hb j (by omega))
end
end W63
end PartLF3
section PartLF4
set_option maxRecDepth 100000
set_option maxHeartbeats 4000000
namespace W63
open PySem PySem.Spec PyProof.Rows L2 DL
/-- a beginning of a weave: the events, how many of each -/
abbrev Bg := List Evt × Nat × Nat
def bgD (x : Bg) : D := .tuple [ttD x.1, .int (x.2.1 : Nat), .int (x.2.2 : Nat)]
def bgN (one other : List Evt) (x : Bg) : List Bg := (match one[x.2.1]? with | some e => [(x.1 ++ [e], x.2.1 + 1, x.2.2)] | none => []) ++ (match other[x.2.2]? with | some e => [(x.1 ++ [e], x.2.1, x.2.2 + 1)] | none => [])
def bgs (one other : List Evt) : Nat → List Bg
  | 0 => [([], 0, 0)]
  | n + 1 => (bgs one other n).flatMap (bgN one other)
def allW (one other : List Evt) : List (List Evt) := (bgs one other (one.length + other.length)).map (·.1)
theorem bgN_len (one other : List Evt) (x : Bg) : (bgN one other x).length ≤ 2 := by
  unfold bgN
  rw [List.length_append]
  cases one[x.2.1]? <;> cases other[x.2.2]? <;> simp
theorem flat_len (one other : List Evt) : ∀ xs : List Bg, (xs.flatMap (bgN one other)).length ≤ 2 * xs.length
  | [] => Nat.le_refl _
  | x :: xs => by
    rw [List.flatMap_cons, List.length_append, List.length_cons]
    have h1 := bgN_len one other x
    have h2 := flat_len one other xs
    omega
theorem bgs_len (one other : List Evt) : ∀ n, (bgs one other n).length ≤ 2 ^ n
  | 0 => Nat.le_refl _
  | n + 1 => by
    have h1 := flat_len one other (bgs one other n)
    have h2 := bgs_len one other n
    show ((bgs one other n).flatMap (bgN one other)).length ≤ _
    rw [Nat.pow_succ]
    omega
theorem bgs_ev (one other : List Evt) : ∀ n, ∀ x ∈ bgs one other n, x.1.length = n
  | 0 => fun x hx => by
    have : x = ([], 0, 0) := by simpa [bgs] using hx
    rw [this]
    rfl
  | n + 1 => fun x hx => by
    obtain ⟨y, hy, hx⟩ := List.mem_flatMap.mp hx
    have ih := bgs_ev one other n y hy
    unfold bgN at hx
    rcases List.mem_append.mp hx with hx | hx
    · cases h : one[y.2.1]? with
      | none => rw [h] at hx; cases hx
      | some e =>
        rw [h] at hx
        rw [List.mem_singleton.mp hx]
        show (y.1 ++ [e]).length = n + 1
        rw [List.length_append, ih]
        rfl
    · cases h : other[y.2.2]? with
      | none => rw [h] at hx; cases hx
      | some e =>
        rw [h] at hx
        rw [List.mem_singleton.mp hx]
        show (y.1 ++ [e]).length = n + 1
        rw [List.length_append, ih]
        rfl
end W63
end PartLF4
section PartLF5
set_option maxRecDepth 100000
set_option maxHeartbeats 4000000
namespace DL
open PySem PySem.Spec PyProof.Rows L2
/-- slots forgotten on purpose -/
theorem sss_forget {X : Cx} {sts : List Stmt} {ρ : Ev} {R : Rt} (vs : List Nat) (h : SSs X sts (forget ρ vs) R) : SSs X sts ρ R := fun Γ fp F σ H D t k =>
  h Γ fp F σ H D (t.weak (by rw [forget_length, t.len]) fun i c e => ⟨(forget_some (σ := σ) e).1, rfl⟩) k
end DL
namespace W63
open PySem PySem.Spec PyProof.Rows L2 DL
theorem cut_one {xs : List Evt} {a : Nat} (h : a < xs.length) : cut xs a (a + 1) = [xs[a]] := by
  unfold cut
  rw [Nat.add_sub_cancel_left, List.drop_eq_getElem_cons h]
  rfl
theorem cut_ev {xs : List Evt} {a : Nat} (h : a < xs.length) : DL.cutD (xs.map evD) (some (a : Int)) (some ((a : Int) + 1)) = [evD xs[a]] := by
  have e : ((a : Int) + 1) = ((a + 1 : Nat) : Int) := by omega
  rw [e, cutD_cut (by omega) (by omega), cut_one h]
  rfl
theorem bgN_l {one other : List Evt} {x : Bg} : bgN one other x = (if h : x.2.1 < one.length then [(x.1 ++ [one[x.2.1]], x.2.1 + 1, x.2.2)] else []) ++ (if h : x.2.2 < other.length then [(x.1 ++ [other[x.2.2]], x.2.1, x.2.2 + 1)] else []) := by
  unfold bgN
  congr 1
  · by_cases h : x.2.1 < one.length
    · rw [dif_pos h, List.getElem?_eq_getElem h]
    · rw [dif_neg h, List.getElem?_eq_none (by omega)]
  · by_cases h : x.2.2 < other.length
    · rw [dif_pos h, List.getElem?_eq_getElem h]
    · rw [dif_neg h, List.getElem?_eq_none (by omega)]
section
variable {P : Program} {w : World} {K : PySem.W.Frag} {mg : Str → Option Value} {base : Heap} {f : Addr} {fd : FuncData}
abbrev s_lweaves : Stmt := top 53
theorem sc_lweaves : FnScope ["_law_one", "_law_other", "_law_found", "_law_turn", "_law_more", "_law_row", "_law_first", "_law_second"] ["_law_one", "_law_other"] (defScope s_lweaves) := ⟨rfl, rfl, rfl, by decide +kernel, rfl, by decide +kernel, by decide +kernel⟩
def w_lweaves : Wp := fun as Ψ => ∃ one other : List Evt, as = [.d (ttD one), .d (ttD other)] ∧ one.length + other.length ≤ 12 ∧ Ψ (.d (.list ((allW one other).map ttD)))
theorem ok_lweaves (F : Fun K "_law_weaves" "_law_weaves" s_lweaves f fd) (T : Bl mg) : FnOk P w K mg base CX0 1 f fd ["_law_one", "_law_other"] (spD K w_lweaves) := by
  refine fnD F sc_lweaves (fun as Ψ ⟨_, _, e, _⟩ => by rw [e]; rfl) (fun cdv A outer s H E as Ψ hr ⟨one, other, e, hl, q⟩ => ?_)
  subst e
  have nd := sc_lweaves.nd
  refine ss_cons <| ss_set 2 (EN.ec <| en_lst <| ea_cons <| ev_tup <| ea_cons <| ev_tup <| ea_nil ⟨[], rfl, by simp, ea_cons <| ev_int <| ea_cons <| ev_int <| ea_nil ⟨[.tuple [], .int 0, .int 0], rfl, by simp, ?_⟩⟩) nd
  refine ea_nil ⟨[bgD ([], 0, 0)], rfl, by simp, ?_⟩
  refine ss_cons <| ss_for (ix := [3]) PassesOwn.never rfl <| ie_range1 T.range <| ev_add <| ev_len T.len <| ev_var 0 rfl ⟨_, (one.map evD).length, rfl, rfl, ev_len T.len <| ev_var 1 rfl ⟨_, (other.map evD).length, rfl, rfl, _, _, rfl, rfl, ?_⟩⟩
  rw [List.length_map, List.length_map]
  refine ⟨_, rfl, by omega, by omega, fun i ρ => ∃ x3 x4 x5 x6 x7, ρ = [some (.p (.d (ttD one))), some (.p (.d (ttD other))), some (.own ((bgs one other i).map bgD)), x3, x4, x5, x6, x7], ⟨none, none, none, none, none, rfl⟩, ?_, ?_⟩
  · rintro i x ρ hx ⟨x3, x4, x5, x6, x7, rfl⟩
    have hi := (List.getElem?_eq_some_iff.mp hx).1
    rw [rangeD_len] at hi
    have wl := bgs_len one other i
    have pw : 2 ^ i ≤ 2 ^ 12 := Nat.pow_le_pow_right (by decide) (by omega)
    refine gb_name 3 ?_ nd
    refine ss_cons <| ss_set 4 (EN.ec <| en_lst <| ea_nil ⟨[], rfl, by simp, ?_⟩) nd
    refine ss_cons <| ss_for (ix := [5] ++ ([6] ++ ([7] ++ []))) PassesOwn.never rfl <| ie_list <| ev_take 2 rfl ⟨_, rfl, fun j ρ => ∃ x5 x6 x7, ρ = [some (.p (.d (ttD one))), some (.p (.d (ttD other))), some (.p (.d (.list ((bgs one other i).map bgD)))), some (.p (.d x)), some (.own ((((bgs one other i).take j).flatMap (bgN one other)).map bgD)), x5, x6, x7], ⟨x5, x6, x7, rfl⟩, ?_, ?_⟩
    · rintro j xj ρ hj ⟨y5, y6, y7, rfl⟩
      obtain ⟨⟨row, l, r⟩, hst, rfl⟩ := map_at hj
      have hrow : row.length = i := bgs_ev one other i _ (List.mem_of_getElem? hst)
      have fl := flat_len one other ((bgs one other i).take j)
      rw [List.length_take] at fl
      have tk : ((bgs one other i).take (j + 1)).flatMap (bgN one other) = ((bgs one other i).take j).flatMap (bgN one other) ++ bgN one other (row, l, r) := by
        rw [List.take_add_one, hst]
        show ((bgs one other i).take j ++ [(row, l, r)]).flatMap _ = _
        rw [List.flatMap_append, List.flatMap_cons, List.flatMap_nil, List.append_nil]
      generalize ((bgs one other i).take j).flatMap (bgN one other) = acc at fl tk ⊢
      refine gb_tup rfl <| gbs_cons <| gb_name 5 (gbs_cons <| gb_name 6 (gbs_cons <| gb_name 7 (gbs_nil ?_) nd) nd) nd
      refine ss_cons <| ss_ifJ <| et_lt <| ev_var 6 rfl <| ev_len T.len <| ev_var 0 rfl ⟨_, (one.map evD).length, rfl, rfl, _, _, rfl, rfl, ?_⟩
      rw [List.length_map]
      refine ⟨(l : Int) < (one.length : Nat), inferInstance, [some (.p (.d (ttD one))), some (.p (.d (ttD other))), some (.p (.d (.list ((bgs one other i).map bgD)))), some (.p (.d x)), some (.own ((acc ++ (if h : l < one.length then [(row ++ [one[l]], l + 1, r)] else [])).map bgD)), some (.p (.d (ttD row))), some (.p (.d (.int (l : Nat)))), some (.p (.d (.int (r : Nat))))], rfl, fun c => ?_, fun c => ?_, ?_⟩
      · have c' : l < one.length := by omega
        refine ss_one <| ss_app 4 <| ev_tup <| ea_cons <| ev_cat_tup <| ev_var 5 rfl <| ev_slT <| ev_var 0 rfl <| eo_some <| ev_var 6 rfl ⟨_, rfl, eo_some <| ev_add <| ev_var 6 rfl <| ev_int ⟨_, _, rfl, rfl, _, rfl, _, rfl, ?_⟩⟩
        rw [cut_ev c']
        refine ⟨row.map evD, [evD one[l]], rfl, rfl, by rw [List.length_map]; simp; omega, ea_cons <| ev_add <| ev_var 6 rfl <| ev_int ⟨_, _, rfl, rfl, ea_cons <| ev_var 7 rfl <| ea_nil ⟨[.tuple (row.map evD ++ [evD one[l]]), .int (l + 1), .int (r : Nat)], rfl, by simp, _, acc.map bgD, rfl, rfl, by rw [List.length_map]; omega, ?_⟩⟩⟩
        rw [dif_pos c', List.map_append]
        show _ = [_, _, _, _, some (Cell.own (acc.map bgD ++ [.tuple [.tuple ((row ++ [one[l]]).map evD), _, _]])), _, _, _]
        rw [List.map_append]
        rfl
      · have c' : ¬ l < one.length := by omega
        refine ss_nil ?_
        rw [dif_neg c', List.append_nil]
        rfl
      refine ss_one <| ss_ifJ <| et_lt <| ev_var 7 rfl <| ev_len T.len <| ev_var 1 rfl ⟨_, (other.map evD).length, rfl, rfl, _, _, rfl, rfl, ?_⟩
      rw [List.length_map]
      refine ⟨(r : Int) < (other.length : Nat), inferInstance, [some (.p (.d (ttD one))), some (.p (.d (ttD other))), some (.p (.d (.list ((bgs one other i).map bgD)))), some (.p (.d x)), some (.own ((acc ++ bgN one other (row, l, r)).map bgD)), some (.p (.d (ttD row))), some (.p (.d (.int (l : Nat)))), some (.p (.d (.int (r : Nat))))], rfl, fun c => ?_, fun c => ?_, ?_⟩
      · have c' : r < other.length := by omega
        refine ss_one <| ss_app 4 <| ev_tup <| ea_cons <| ev_cat_tup <| ev_var 5 rfl <| ev_slT <| ev_var 1 rfl <| eo_some <| ev_var 7 rfl ⟨_, rfl, eo_some <| ev_add <| ev_var 7 rfl <| ev_int ⟨_, _, rfl, rfl, _, rfl, _, rfl, ?_⟩⟩
        rw [cut_ev c']
        refine ⟨row.map evD, [evD other[r]], rfl, rfl, by rw [List.length_map]; simp; omega, ea_cons <| ev_var 6 rfl <| ea_cons <| ev_add <| ev_var 7 rfl <| ev_int ⟨_, _, rfl, rfl, ea_nil ⟨[.tuple (row.map evD ++ [evD other[r]]), .int (l : Nat), .int (r + 1)], rfl, by simp, _, (acc ++ (if h : l < one.length then [(row ++ [one[l]], l + 1, r)] else [])).map bgD, rfl, rfl, by rw [List.length_map, List.length_append]; split <;> simp <;> omega, ?_⟩⟩⟩
        rw [bgN_l, dif_pos c', ← List.append_assoc, List.map_append (l₂ := [(row ++ [other[r]], l, r + 1)])]
        show _ = [_, _, _, _, some (Cell.own (_ ++ [.tuple [.tuple ((row ++ [other[r]]).map evD), _, _]])), _, _, _]
        rw [List.map_append (l₁ := row)]
        rfl
      · have c' : ¬ r < other.length := by omega
        refine ss_nil ?_
        rw [bgN_l, dif_neg c', List.append_nil]
      rw [← tk]
      exact ⟨_, _, _, rfl⟩
    · rintro ρ ⟨y5, y6, y7, rfl⟩
      rw [List.length_map, List.take_length]
      exact ss_one <| ss_mv 2 4 nd ⟨_, _, _, _, _, rfl⟩
  · rintro ρ ⟨x3, x4, x5, x6, x7, rfl⟩
    have en : (((one.length : Nat) : Int) + ((other.length : Nat) : Int)).toNat = one.length + other.length := by omega
    rw [rangeD_len, en]
    have wl := bgs_len one other (one.length + other.length)
    have pw : 2 ^ (one.length + other.length) ≤ 2 ^ 12 := Nat.pow_le_pow_right (by decide) hl
    refine sss_forget [5, 6, 7] ?_
    refine ss_one <| ss_ret <| EN.ev <| en_mp (ix := [5] ++ ([6] ++ ([7] ++ []))) (bgs one other (one.length + other.length)) bgD (fun x => ttD x.1) [("_law_row", 5), ("_law_first", 6), ("_law_second", 7)] rfl nd <| ie_list <| ev_take 2 rfl ⟨_, rfl, rfl, rfl, by omega, fun x _ B => gb_tup rfl <| gbs_cons <| gb_name 5 (gbs_cons <| gb_name 6 (gbs_cons <| gb_name 7 (gbs_nil fun B => ev_var 5 rfl ⟨rfl, rfl⟩) nd) nd) nd, ?_⟩
    unfold allW at q
    rw [List.map_map] at q
    exact q
end
end W63
end PartLF5
section PartM4
set_option maxRecDepth 100000
set_option maxHeartbeats 2000000
/-! M4: equality of events and timetables as data. -/
namespace W63
open PySem PySem.Spec PyProof.Rows L2 DL
/-- an event whose word and name are plain -/
def EvOk (e : Evt) : Prop := (e.1 = "in" ∨ e.1 = "out" ∨ e.1 = "on") ∧ NameOk e.2
theorem strOk_name {b : Str} (h : NameOk b) : PyData.strOk b = true := by
  unfold PyData.strOk
  rw [Array.all_eq_true']
  intro c hc
  have := h.2.2 c (by simpa using hc)
  exact decide_eq_true (by omega)
theorem strOk_word {e : Evt} (h : EvOk e) : PyData.strOk e.1 = true := by
  rcases h.1 with z | z | z <;> rw [z] <;> decide +kernel
theorem ev_lay {e : Evt} (h : EvOk e) : (evD e).canLay0 = true := by
  show (PyData.strOk e.1 && (PyData.strOk e.2 && true)) = true
  rw [strOk_word h, strOk_name h.2]
  rfl
theorem evs_lay : ∀ {evs : List Evt}, (∀ e ∈ evs, EvOk e) → PyData.canLayAll0 (evs.map evD) = true
  | [], _ => rfl
  | e :: evs, h => by
    show ((evD e).canLay0 && PyData.canLayAll0 (evs.map evD)) = true
    rw [ev_lay (h e List.mem_cons_self), evs_lay fun x hx => h x (List.mem_cons_of_mem _ hx)]
    rfl
theorem ev_depth (e : Evt) : (evD e).depth ≤ 3 := by simp [evD, PyData.depth, PyData.depthAll]
theorem evs_depth : ∀ evs : List Evt, PyData.depthAll (evs.map evD) ≤ 3
  | [] => Nat.zero_le _
  | e :: evs => by
    have h1 := ev_depth e
    have h2 := evs_depth evs
    simp only [List.map_cons, PyData.depthAll]
    omega
theorem ev_shaped {e : Evt} (h : EvOk e) : SeqAt.shaped (evD e) = true := by
  unfold SeqAt.shaped
  rw [Bool.and_eq_true]
  have := ev_depth e
  exact ⟨ev_lay h, decide_eq_true (by omega)⟩
theorem tt_depth (evs : List Evt) : (ttD evs).depth ≤ 4 := by
  have := evs_depth evs
  unfold ttD
  simp only [PyData.depth]
  omega
theorem tt_shaped {evs : List Evt} (h : ∀ e ∈ evs, EvOk e) : SeqAt.shaped (ttD evs) = true := by
  unfold SeqAt.shaped
  rw [Bool.and_eq_true]
  have := tt_depth evs
  exact ⟨evs_lay h, decide_eq_true (by omega)⟩
theorem ev_eqv (a b : Evt) : PyData.eqv (evD a) (evD b) = decide (a = b) := by
  show ((a.1 == b.1) && ((a.2 == b.2) && true)) = _
  obtain ⟨a1, a2⟩ := a
  obtain ⟨b1, b2⟩ := b
  rw [Bool.eq_iff_iff, decide_eq_true_iff]
  simp
theorem tt_eqv : ∀ a b : List Evt, PyData.eqvAll (a.map evD) (b.map evD) = decide (a = b)
  | [], [] => rfl
  | [], _ :: _ => rfl
  | _ :: _, [] => rfl
  | x :: a, y :: b => by
    show (PyData.eqv (evD x) (evD y) && PyData.eqvAll (a.map evD) (b.map evD)) = _
    rw [ev_eqv, tt_eqv a b, Bool.eq_iff_iff, decide_eq_true_iff]
    simp
end W63
end PartM4
section PartLF6
set_option maxRecDepth 100000
set_option maxHeartbeats 4000000
namespace W63
open PySem PySem.Spec PyProof.Rows L2 DL
/-- the events of w that xs has -/
def ofW (w xs : List Evt) : List Evt := w.filter fun e => decide (e ∈ xs)
def isWv (w one other : List Evt) : Bool := decide (w.length = one.length + other.length) && (decide (ofW w one = one) && decide (ofW w other = other))
theorem any_eqv (xs : List Evt) (e : Evt) : ((xs.map evD).any fun z => PyData.eqv z (evD e)) = decide (e ∈ xs) := by
  rw [List.any_map, Bool.eq_iff_iff, List.any_eq_true, decide_eq_true_iff]
  constructor
  · rintro ⟨x, h1, h2⟩
    have h3 : PyData.eqv (evD x) (evD e) = true := h2
    rw [ev_eqv, decide_eq_true_iff] at h3
    exact h3 ▸ h1
  · intro h
    refine ⟨e, h, ?_⟩
    show PyData.eqv (evD e) (evD e) = true
    rw [ev_eqv]
    simp
theorem of_fm (xs : List Evt) : ∀ w : List Evt, (w.filterMap fun e => if e ∈ xs then some (evD e) else none) = (ofW w xs).map evD
  | [] => rfl
  | e :: w => by
    have ih := of_fm xs w
    unfold ofW at ih ⊢
    rw [List.filterMap_cons, List.filter_cons]
    by_cases c : e ∈ xs
    · rw [if_pos c, if_pos (by simpa using c), List.map_cons, ih]
    · rw [if_neg c, if_neg (by simpa using c)]
      exact ih
section
variable {P : Program} {w : World} {K : PySem.W.Frag} {mg : Str → Option Value} {base : Heap} {f : Addr} {fd : FuncData}
abbrev s_lis : Stmt := top 55
theorem sc_lis : FnScope ["_law_value", "_law_one", "_law_other", "_law_event"] ["_law_value", "_law_one", "_law_other"] (defScope s_lis) := ⟨rfl, rfl, rfl, by decide +kernel, rfl, by decide +kernel, by decide +kernel⟩
def w_lis : Wp := fun as Ψ => ∃ v one other : List Evt, as = [.d (ttD v), .d (ttD one), .d (ttD other)] ∧ (∀ e ∈ v, EvOk e) ∧ (∀ e ∈ one, EvOk e) ∧ (∀ e ∈ other, EvOk e) ∧ v.length ≤ 1000 ∧ Ψ (.d (.bool (isWv v one other)))
theorem ok_lis (F : Fun K "_law_is_weave" "_law_is_weave" s_lis f fd) (T : Bl mg) : FnOk P w K mg base CX0 1 f fd ["_law_value", "_law_one", "_law_other"] (spD K w_lis) := by
  refine fnD F sc_lis (fun as Ψ ⟨_, _, _, e, _⟩ => by rw [e]; rfl) (fun cdv A outer s H E as Ψ hr ⟨v, one, other, e, h1, h2, h3, vl, q⟩ => ?_)
  subst e
  have nd := sc_lis.nd
  refine ss_cons <| ss_if <| EW.et <| ew_or <| et_not <| et_val <| ev_isi (n := "tuple") T.isinstance T.tuple <| ev_var 0 rfl ⟨_, true, rfl, by kernel_rfl, true, rfl, iteF ?_⟩
  refine ew_or1 <| et_neI <| ev_len T.len <| ev_var 0 rfl ⟨_, (v.map evD).length, rfl, rfl, ev_add <| ev_len T.len <| ev_var 1 rfl ⟨_, (one.map evD).length, rfl, rfl, ev_len T.len <| ev_var 2 rfl ⟨_, (other.map evD).length, rfl, rfl, _, _, rfl, rfl, _, _, rfl, rfl, ?_⟩⟩⟩
  rw [List.length_map, List.length_map, List.length_map]
  by_cases c : v.length = one.length + other.length
  · have c' : decide (((v.length : Nat) : Int) ≠ (one.length : Nat) + (other.length : Nat)) = false := decide_eq_false fun z => z (by omega)
    rw [c']
    refine iteF <| ss_nil <| ss_one <| ss_ret <| ev_and <| ev_eq hr <| ev_tuple T.tuple <| EN.ev <| en_fm (ix := [3]) v evD (fun e => if e ∈ one then some (evD e) else none) [("_law_event", 3)] rfl nd <| ie_tup <| ev_var 0 rfl ⟨_, rfl, rfl, rfl, by omega, fun x hx B => gb_name 3 (fun B => ?_) nd, ?_⟩
    · refine et_inT (k := 0) hr <| ev_var 3 rfl <| ev_var 1 rfl ⟨evD x, one.map evD, rfl, rfl, ev_shaped (h1 x hx), tt_shaped h2, rfl, ?_⟩
      rw [any_eqv]
      exact ite2 (fun c1 B => ev_var 3 rfl ⟨rfl, _, rfl, if_pos (of_decide_eq_true c1)⟩) fun c1 => if_neg fun z => c1 (decide_eq_true z)
    · rw [of_fm]
      refine ⟨_, .inl rfl, ev_var 1 rfl ⟨ttD (ofW v one), ttD one, rfl, rfl, tt_shaped fun e he => h1 e (List.mem_filter.mp he).1, tt_shaped h2, _, rfl, ?_⟩⟩
      have e1 : PyData.eqv (ttD (ofW v one)) (ttD one) = decide (ofW v one = one) := tt_eqv _ _
      rw [e1]
      refine ite2 (fun d => ?_) fun d => ?_
      · refine ev_one <| ev_eq hr <| ev_tuple T.tuple <| EN.ev <| en_fm (ix := [3]) v evD (fun e => if e ∈ other then some (evD e) else none) [("_law_event", 3)] rfl nd <| ie_tup <| ev_var 0 rfl ⟨_, rfl, rfl, rfl, by omega, fun x hx B => gb_name 3 (fun B => ?_) nd, ?_⟩
        · refine et_inT (k := 0) hr <| ev_var 3 rfl <| ev_var 2 rfl ⟨evD x, other.map evD, rfl, rfl, ev_shaped (h1 x hx), tt_shaped h3, rfl, ?_⟩
          rw [any_eqv]
          exact ite2 (fun c1 B => ev_var 3 rfl ⟨rfl, _, rfl, if_pos (of_decide_eq_true c1)⟩) fun c1 => if_neg fun z => c1 (decide_eq_true z)
        · rw [of_fm]
          refine ⟨_, .inl rfl, ev_var 2 rfl ⟨ttD (ofW v other), ttD other, rfl, rfl, tt_shaped fun e he => h1 e (List.mem_filter.mp he).1, tt_shaped h3, ?_⟩⟩
          have e2 : PyData.eqv (ttD (ofW v other)) (ttD other) = decide (ofW v other = other) := tt_eqv _ _
          rw [e2]
          unfold isWv at q
          rw [decide_eq_true c, d] at q
          exact q
      · unfold isWv at q
        have d' : decide (ofW v one = one) = false := by simpa using d
        rw [d', Bool.false_and, Bool.and_false] at q
        exact q
  · have c' : decide (((v.length : Nat) : Int) ≠ (one.length : Nat) + (other.length : Nat)) = true := decide_eq_true fun z => c (by omega)
    rw [c']
    unfold isWv at q
    rw [decide_eq_false c, Bool.false_and] at q
    exact iteT <| ss_one <| ss_ret <| ev_bool q
end
end W63
end PartLF6
section PartLR1
set_option maxRecDepth 100000
set_option maxHeartbeats 4000000
namespace W63
open PySem PySem.Spec PyProof.Rows L2 DL
section
variable {P : Program} {w : World} {K : PySem.W.Frag} {mg : Str → Option Value} {base : Heap} {f : Addr} {fd : FuncData}
def w_draw : Wp := fun as Ψ => ∃ n : Int, as = [.d (.int n)] ∧ 0 < n ∧ n ≤ 1000000 ∧ ∀ r : Nat, (r : Int) < n → Ψ (.d (.int (r : Nat)))
abbrev s_lpick : Stmt := top 44
theorem sc_lpick : FnScope ["_law_heap_here", "_law_some"] ["_law_heap_here", "_law_some"] (defScope s_lpick) := ⟨rfl, rfl, rfl, by decide +kernel, rfl, by decide +kernel, by decide +kernel⟩
def w_pick : Wp := fun as Ψ => (∃ ds : List D, as = [.d (.list ds)] ∧ 0 < ds.length ∧ ds.length ≤ 100000 ∧ ∀ d ∈ ds, Ψ (.d d)) ∨ ∃ z : Str, as = [.d (.str z)] ∧ 0 < z.length ∧ z.length ≤ 100000 ∧ ∀ c ∈ z.cps.toList, Ψ (.d (.str ⟨#[c]⟩))
theorem ok_pick (F : Fun K "_law_pick" "_law_pick" s_lpick f fd) (T : Bl mg) (D1 : DefOk P w K mg base CX0 "_law_draw" 1 ["_law_heap_here", "_law_many"] (spR K w_draw)) : FnOk P w K mg base CX0 2 f fd ["_law_heap_here", "_law_some"] (spR K w_pick) := by
  refine fnR F sc_lpick (fun as Ψ h => by rcases h with ⟨_, e, _⟩ | ⟨_, e, _⟩ <;> rw [e] <;> rfl) (fun cdv A outer s H E as Ψ hh cc hr h => ?_)
  rcases h with ⟨ds, e, h0, hl, q⟩ | ⟨z, e, h0, hl, q⟩
  · subst e
    refine ss_one <| ss_ret <| ev_ix <| ev_var 1 rfl <| ev_callR 0 D1 hr <| ea_cons <| ev_len T.len <| ev_var 1 rfl ⟨_, ds.length, rfl, rfl, ea_nil ⟨rfl, _, rfl, by omega, by omega, fun r hr2 => ?_⟩⟩
    have hr3 : r < ds.length := by omega
    exact ⟨_, _, ds[r], rfl, rfl, .inl ⟨_, rfl, atI_of (List.getElem?_eq_getElem hr3)⟩, rfl, q _ (List.getElem_mem hr3)⟩
  · subst e
    refine ss_one <| ss_ret <| ev_ix <| ev_var 1 rfl <| ev_callR 0 D1 hr <| ea_cons <| ev_len T.len <| ev_var 1 rfl ⟨_, z.length, rfl, if_pos (by omega), ea_nil ⟨rfl, _, rfl, by omega, by omega, fun r hr2 => ?_⟩⟩
    have el : z.cps.toList.length = z.length := by rw [Array.length_toList]; rfl
    have hr3 : r < z.cps.toList.length := by omega
    exact ⟨_, _, .str ⟨#[z.cps.toList[r]]⟩, rfl, rfl, .inr (.inr ⟨z, z.cps.toList[r], rfl, hl, atI_of (List.getElem?_eq_getElem hr3), rfl⟩), rfl, q _ (List.getElem_mem hr3)⟩
end
end W63
end PartLR1
section PartLR2
set_option maxRecDepth 100000
set_option maxHeartbeats 4000000
namespace W63
open PySem PySem.Spec PyProof.Rows L2 DL
theorem erase_perm {α : Type} : ∀ {l : List α} {i : Nat} (h : i < l.length), (l[i] :: l.eraseIdx i).Perm l
  | x :: l, 0, _ => List.Perm.refl _
  | x :: l, i + 1, h => by
    have h2 : i < l.length := by simpa using h
    have ih := erase_perm (l := l) (i := i) h2
    show (l[i] :: x :: l.eraseIdx i).Perm (x :: l)
    exact (List.Perm.swap ..).trans (ih.cons x)
section
variable {P : Program} {w : World} {K : PySem.W.Frag} {mg : Str → Option Value} {base : Heap} {f : Addr} {fd : FuncData}
abbrev s_lmixed : Stmt := top 45
theorem sc_lmixed : FnScope ["_law_heap_here", "_law_some", "_law_left", "_law_found", "_law_turn"] ["_law_heap_here", "_law_some"] (defScope s_lmixed) := ⟨rfl, rfl, rfl, by decide +kernel, rfl, by decide +kernel, by decide +kernel⟩
def w_mixed : Wp := fun as Ψ => ∃ ds : List D, as = [.d (.list ds)] ∧ ds.length ≤ 1000 ∧ ∀ es, es.Perm ds → Ψ (.d (.list es))
theorem ok_mixed (F : Fun K "_law_mixed" "_law_mixed" s_lmixed f fd) (T : Bl mg) (D1 : DefOk P w K mg base CX0 "_law_draw" 1 ["_law_heap_here", "_law_many"] (spR K w_draw)) : FnOk P w K mg base CX0 2 f fd ["_law_heap_here", "_law_some"] (spR K w_mixed) := by
  refine fnR F sc_lmixed (fun as Ψ ⟨_, e, _⟩ => by rw [e]; rfl) (fun cdv A outer s H E as Ψ hh cc hr ⟨ds, e, hl, q⟩ => ?_)
  subst e
  have nd := sc_lmixed.nd
  refine ss_cons <| ss_par 2 3 (by decide) rfl nd (EN.ec <| en_list T.list <| ev_var 1 rfl ⟨ds, .inl rfl, EN.ec <| en_lst <| ea_nil ⟨[], rfl, by simp, ?_⟩⟩)
  refine ss_cons <| ss_for (ix := [4]) PassesOwn.never rfl <| ie_range1 T.range <| ev_lenO (ds := ds) 2 T.len ⟨_, rfl, by omega, by omega, fun i ρ => ∃ ls fs x4, ls.length + i = ds.length ∧ fs.length = i ∧ (fs ++ ls).Perm ds ∧ ρ = [some (.rnd hh cc), some (.p (.d (.list ds))), some (.own ls), some (.own fs), x4], ⟨ds, [], none, rfl, rfl, List.Perm.refl _, rfl⟩, ?_, ?_⟩
  · rintro i x ρ hx ⟨ls, fs, x4, hll, hfl, hp, rfl⟩
    have hi := (List.getElem?_eq_some_iff.mp hx).1
    rw [rangeD_len] at hi
    refine gb_name 4 ?_ nd
    refine ss_one <| ss_app 3 <| ev_popAt 2 <| ev_callR 0 D1 hr <| ea_cons <| ev_lenO (ds := ls) 2 T.len <| ea_nil ⟨rfl, _, rfl, by omega, by omega, fun r hr2 => ?_⟩
    have hr3 : r < ls.length := by omega
    refine ⟨r, ls[r], ls, rfl, rfl, by omega, List.getElem?_eq_getElem hr3, _, fs, rfl, rfl, by omega, ls.eraseIdx r, fs ++ [ls[r]], _, ?_, ?_, ?_, rfl⟩
    · rw [List.length_eraseIdx_of_lt hr3]; omega
    · rw [List.length_append, List.length_singleton]; omega
    · have h1 : (ls[r] :: ls.eraseIdx r).Perm ls := erase_perm hr3
      rw [List.append_assoc]
      exact ((List.Perm.append_left fs h1)).trans hp
  · rintro ρ ⟨ls, fs, x4, hll, hfl, hp, rfl⟩
    rw [rangeD_len] at hll
    have e0 : ls = [] := List.length_eq_zero_iff.mp (by omega)
    subst e0
    rw [List.append_nil] at hp
    exact ss_one <| ss_ret <| ev_take 3 rfl ⟨rfl, q fs hp⟩
end
end W63
end PartLR2
section PartDN9
set_option maxRecDepth 100000
set_option maxHeartbeats 2000000
/-! DN9: comprehensions whose items are known by a relation alone. -/
namespace DL
open PySem PySem.Spec PyProof.Rows L2
theorem paired_snoc {α β : Type} {G : α → β → Prop} {a : α} {b : β} (r : G a b) : ∀ {xs : List α} {ys : List β}, Paired G xs ys → Paired G (xs ++ [a]) (ys ++ [b])
  | _, _, .nil => .cons r .nil
  | _, _, .cons h t => .cons h (paired_snoc r t)
section
variable {X : Cx} {ρ : Ev} {pos : Pos} {R : Rt}
theorem en_mpR {Qn : List D → Ev → Prop} {elt tg iter : Expr} {scope : Scope} {ix : List Nat} {α : Type} (G : α → D → Prop) (enc : α → D) (own : List (Str × Nat)) (hc : X.calm = true) (hN : X.N.Nodup)
    (h : IE X tg iter ρ fun items ρ1 => ∃ xs : List α, items = xs.map enc ∧ forget ρ1 (own.map (·.2)) = ρ1 ∧ xs.length ≤ 100000 ∧ (∀ x ∈ xs, ∀ B, GB (Bx X scope B) tg ix (enc x) ρ1 fun ρ2 => ∀ B, EV (Bx X scope B) elt ρ2 fun y ρ4 => ρ4 = ρ2 ∧ ∃ d, y = .d d ∧ G x d) ∧ ∀ ds, Paired G xs ds → Qn ds ρ1)
    (ok : BlkOk X.N X.env.scope scope own := by exact blkOk_by (by kernel_rfl)) (hix : ∀ i ∈ ix, i ∈ own.map (·.2) := by decide) (hs : ∀ x, foldedSetIterable iter X.env x = pure x := by intro _; rfl) : EN X (.ListComp elt [⟨tg, iter, [], 0⟩] scope pos) ρ Qn := by
  refine en_lc (ix := ix) own hc hN (fun Γ fp F σ H R t k => h Γ fp F σ H R t fun J items G' Y F' H' ρ' fp' t' f w hG hY ⟨xs, e1, e2, e3, turn, q⟩ => k J items G' Y F' H' ρ' fp' t' f w hG hY ?_) ok hix hs
  subst e1
  refine ⟨e2, by rw [List.length_map]; exact e3, fun i acc => Paired G (xs.take i) acc, .nil, fun i x acc hx ha => ?_, fun acc ha => ?_⟩
  · rw [List.getElem?_map] at hx
    cases q1 : xs[i]? with
    | none => rw [q1] at hx; cases hx
    | some z =>
      rw [q1] at hx
      cases hx
      intro B
      have hz : z ∈ xs := List.mem_of_getElem? q1
      intro Γ fp F σ H v Φ t r k
      refine turn z hz B Γ fp F σ H v Φ t r fun σ' ρ2 fp' t' u1 u2 hq => k σ' ρ2 fp' t' u1 u2 fun B => ets_nil ⟨rfl, iteT fun B => (hq B).mono fun y ρ4 ⟨e4, d, ey, gd⟩ => ⟨e4, d, ey, ?_⟩⟩
      show Paired G (xs.take (i + 1)) (acc ++ [d])
      rw [List.take_add_one, q1]
      exact paired_snoc gd ha
  · rw [List.length_map, List.take_length] at ha
    exact q acc ha
end
end DL
end PartDN9
section PartDN10
set_option maxRecDepth 100000
set_option maxHeartbeats 2000000
/-! DN10: the random heap, its content told. -/
namespace DL
open PySem PySem.Spec PyProof.Rows L2
/-- the random heap: a list of numbers at c, and a number, in the list at h -/
def rndC (h c : Addr) (ns : List Int) (st : Int) : CRel where
  ok := fun F H v as => as = [h, c] ∧ v = .ref h ∧ h ≠ c ∧ H h = some (.lst [.ref c, .int st]) ∧ H c = some (.lst (ns.map V.int))
  st := fun e k h => by
    obtain ⟨rfl, h2, h3, h4, h5⟩ := h
    exact ⟨rfl, h2, h3, (k _ (by simp)).trans h4, (k _ (by simp)).trans h5⟩
abbrev cR (h c : Addr) (ns : List Int) (st : Int) : Option Cell := some (.cust (rndC h c ns st))
section
variable {K : PySem.W.Frag} {Γ : Anc} {ρ : Ev} {fp : Nat → List Addr} {F H : Hp} {σ : L2.St}
/-- another cell that holds at the same place -/
theorem Stt.recell (t : Stt K Γ ρ fp F σ H) {i : Nat} {v : V} {c : Cell} (hi : i < ρ.length) (hv : σ[i]? = some (some v)) (hc : CellOk K F H v c (fp i)) : Stt K Γ (ρ.set i (some c)) fp F σ H :=
  ⟨t.ex, t.exF, t.exH, t.thr, t.fre, by rw [List.length_set]; exact t.len, fun j c' e => by
    by_cases h : i = j
    · subst h
      rw [List.getElem?_set_self hi] at e
      cases e
      exact ⟨v, hv, hc⟩
    · rw [List.getElem?_set_ne h] at e
      exact t.cells j c' e, t.own, t.sep⟩
theorem rnd_at (t : Stt K Γ ρ fp F σ H) {i : Nat} {hh cc : Addr} {ns : List Int} {st : Int} (h : ρ[i]? = some (cR hh cc ns st)) : fp i = [hh, cc] ∧ σ[i]? = some (some (.ref hh)) ∧ hh ≠ cc ∧ H hh = some (.lst [.ref cc, .int st]) ∧ H cc = some (.lst (ns.map V.int)) ∧ i < ρ.length := by
  obtain ⟨v, hv, has, rfl, h1, h2, h3⟩ := t.cells i _ h
  exact ⟨has, hv, h1, h2, h3, (List.getElem?_eq_some_iff.mp h).1⟩
end
theorem lay_ints : ∀ ns : List Int, PyData.canLayAll0 (ns.map PyData.int) = true
  | [] => rfl
  | n :: ns => by
    show ((PyData.int n).canLay0 && PyData.canLayAll0 (ns.map PyData.int)) = true
    rw [lay_ints ns]
    rfl
theorem depth_ints : ∀ ns : List Int, PyData.depthAll (ns.map PyData.int) ≤ 1
  | [] => Nat.zero_le _
  | n :: ns => by
    have h := depth_ints ns
    simp only [List.map_cons, PyData.depthAll, PyData.depth]
    omega
theorem shaped_ints (ns : List Int) : SeqAt.shaped (.list (ns.map PyData.int)) = true := by
  unfold SeqAt.shaped
  rw [Bool.and_eq_true]
  have := depth_ints ns
  refine ⟨lay_ints ns, decide_eq_true ?_⟩
  simp only [PyData.depth]
  omega
section
variable {X : Cx} {ρ : Ev} {pos p p1 : Pos} {a b e : Expr} {x : Str} {R : Rt} {Q : P → Ev → Prop} {sts : List Stmt} {hh cc : Addr} {ns : List Int} {st : Int}
theorem sss_rnd (i : Nat) (h : ∀ ns st, RndOk ns st → SSs X sts (ρ.set i (cR hh cc ns st)) R) (h0 : ρ[i]? = some (some (.rnd hh cc)) := by rfl) : SSs X sts ρ R := fun Γ fp F σ H D t k => by
  obtain ⟨v, hv, ns, st, has, rfl, g1, g2, g3, ok⟩ := t.cells i _ h0
  exact h ns st ok Γ fp F σ H D (t.recell (c := .cust (rndC hh cc ns st)) (List.getElem?_eq_some_iff.mp h0).1 hv ⟨has, rfl, g3, g1, g2⟩) k
theorem ev_rndBack (i : Nat) (h : EV X e ρ fun y ρ1 => ∃ ns st, ρ1[i]? = some (cR hh cc ns st) ∧ RndOk ns st ∧ Q y (ρ1.set i (some (.rnd hh cc)))) : EV X e ρ Q := fun Γ fp F σ H Φ t k =>
  h Γ fp F σ H Φ t fun v F1 H1 y ρ1 fp1 t1 f1 r1 ⟨ns, st, h1, ok, q⟩ => by
    obtain ⟨has, hv, g1, g2, g3, hl⟩ := rnd_at t1 h1
    exact k v F1 H1 y _ fp1 (t1.recell (c := .rnd hh cc) hl hv ⟨ns, st, has, rfl, g2, g3, g1, ok⟩) f1 r1 q
/-- x[0] -/
theorem ev_rnd0 (i : Nat) {j : Nat} (q : Q (.raw (.ref cc)) ρ) (h0 : ρ[i]? = some (cR hh cc ns st) := by rfl) (hN : X.N[i]? = some x := by rfl) (hv : Vis X.env.scope x := by first | exact Or.inl rfl | exact Or.inr (Or.inl rfl) | exact Or.inr (Or.inr rfl))
    (hd : (x == ("__debug__" : Str)) = false := by decide) (hcd : (x == ("__classdict__" : Str)) = false := by decide) : EV X (.Subscript (.Name x p1) (.Constant (.int 0) j p) pos) ρ Q := fun Γ fp F σ H Φ t k pins s I => by
  obtain ⟨has, hw, g1, g2, g3, hl⟩ := rnd_at t h0
  refine (pe_ix ix_seq (pe_var hN hv hd hcd) pe_int (fun _ _ => rfl)).run pins s σ H Φ I ⟨.ref hh, hw, .inl ⟨hh, [.ref cc, .int st], 0, .ref cc, rfl, rfl, SqL.of g2, rfl, ?_⟩⟩
  exact k (.ref cc) F H (.raw (.ref cc)) ρ fp t (Same.refl _) rpR q
/-- x[1] -/
theorem ev_rnd1 (i : Nat) {j : Nat} (q : Q (.d (.int st)) ρ) (h0 : ρ[i]? = some (cR hh cc ns st) := by rfl) (hN : X.N[i]? = some x := by rfl) (hv : Vis X.env.scope x := by first | exact Or.inl rfl | exact Or.inr (Or.inl rfl) | exact Or.inr (Or.inr rfl))
    (hd : (x == ("__debug__" : Str)) = false := by decide) (hcd : (x == ("__classdict__" : Str)) = false := by decide) : EV X (.Subscript (.Name x p1) (.Constant (.int 1) j p) pos) ρ Q := fun Γ fp F σ H Φ t k pins s I => by
  obtain ⟨has, hw, g1, g2, g3, hl⟩ := rnd_at t h0
  refine (pe_ix ix_seq (pe_var hN hv hd hcd) pe_int (fun _ _ => rfl)).run pins s σ H Φ I ⟨.ref hh, hw, .inl ⟨hh, [.ref cc, .int st], 1, .int st, rfl, rfl, SqL.of g2, rfl, ?_⟩⟩
  exact k (.int st) F H (.d (.int st)) ρ fp t (Same.refl _) rpI q
/-- y[b], y the list of numbers -/
theorem ev_ixRaw (i : Nat) (h : EV X a ρ fun y ρ1 => y = .raw (.ref cc) ∧ EV X b ρ1 fun z ρ2 => ∃ j m ns st, z = .d (.int j) ∧ ρ2[i]? = some (cR hh cc ns st) ∧ atI ns j = some m ∧ Q (.d (.int m)) ρ2)
    (hs : PlainIx b := by exact fun _ _ => rfl) : EV X (.Subscript a b pos) ρ Q := fun Γ fp F σ H Φ t k pins s I =>
  (pe_ix ix_seq pe_w pe_w hs).run pins s σ H Φ I (h Γ fp F σ H _ t fun v F1 H1 y ρ1 fp1 t1 f1 r1 ⟨ey, h1⟩ => h1 Γ fp1 F1 σ H1 _ t1 fun w F2 H2 z ρ2 fp2 t2 f2 r2 ⟨j, m, ns, st, ez, h2, hm, q⟩ => by
    subst ey ez
    have ev : v = .ref cc := r1
    obtain ⟨has, hw, g1, g2, g3, hl⟩ := rnd_at t2 h2
    have hm' : atI (ns.map V.int) j = some (.int m) := by
      obtain ⟨l, e1, e2, e3, e4, e5⟩ := atI_get hm
      have := atI_of (xs := ns.map V.int) (i := l) (z := .int m) (by rw [List.getElem?_map, e2]; rfl)
      unfold atI at hm ⊢
      rw [List.length_map]
      cases q : ixN ns.length j with
      | none => rw [q] at hm; cases hm
      | some j' =>
        rw [q] at hm
        have hm2 : ns[j']? = some m := hm
        show (ns.map V.int)[j']? = _
        rw [List.getElem?_map, hm2]
        rfl
    exact .inl ⟨cc, ns.map V.int, j, .int m, ev, rep_int r2, SqL.of g3, hm', k _ F2 H2 _ ρ2 fp2 t2 (f1.trans f2) rpI q⟩)
theorem last_int (ns : List Int) (m : Int) : atI (ns ++ [m]) (-1) = some m := by
  unfold atI ixN
  rw [List.length_append, List.length_singleton, if_neg (by omega), if_pos (by omega)]
  have e : ((-1 : Int) + ((ns.length + 1 : Nat) : Int)).toNat = ns.length := by omega
  show (ns ++ [m])[((-1 : Int) + ((ns.length + 1 : Nat) : Int)).toNat]? = _
  rw [e, List.getElem?_append_right (Nat.le_refl _), Nat.sub_self]
  rfl
/-- y != [], y the list of numbers -/
theorem et_neNilRaw {p2 : Pos} {k0 : Nat} {Qb : Bool → Ev → Prop} (i : Nat) (hr : Room k0 X.A) (h : EV X a ρ fun y ρ1 => ∃ ns st, y = .raw (.ref cc) ∧ ρ1[i]? = some (cR hh cc ns st) ∧ Qb (decide (ns ≠ [])) ρ1)
    (hm : behindInMarks .NotEq (.List [] p2) = false := by first | exact nomark _ | rfl) : ET X (.Compare a [.NotEq] [.List [] p2] pos) ρ Qb := fun Γ fp F σ H Φ t kk pins s I => by
  refine (pt_cmpR (op_neD hr.units) pe_w (pe_lst pa_nil) hm).run pins s σ H Φ I (h Γ fp F σ H _ t fun v F1 H1 y ρ1 fp1 t1 f1 r1 ⟨ns, st, ey, h1, q⟩ => ?_)
  subst ey
  have ev : v = .ref cc := r1
  subst ev
  obtain ⟨has, hw, g1, g2, g3, hl⟩ := rnd_at t1 h1
  refine ⟨by show 0 ≤ sizeLine; exact Nat.zero_le _, fun p hp => ?_⟩
  have g := Gr.new (o := .lst []) t1.ex hp
  have t2 := t1.grow g
  have e1 : (upd H1 p (.lst [])) cc = some (.lst (ns.map V.int)) := by rw [upd_ne (ne_of_none g3 hp)]; exact g3
  have hsh : SeqAt.shaped (.list (ns.map PyData.int)) = true := shaped_ints ns
  refine ⟨.list (ns.map PyData.int), .list [], .lst (SqL.of e1) (DqAll.ints (H := upd H1 p (.lst []))).dp, .lst (SqL.of upd_same) .nil, hsh, by decide +kernel, _, rfl, ?_⟩
  rw [eqv_nil]
  have e2 : (!decide (ns.map PyData.int = [])) = decide (ns ≠ []) := by cases ns <;> simp
  rw [e2]
  exact kk _ _ _ ρ1 fp1 t2 (f1.trans g.f) q
/-- y.pop(), y the list of numbers -/
theorem ev_popRaw (i : Nat) {apos cpos : Pos} (h : EV X a ρ fun y ρ1 => ∃ ns m st, y = .raw (.ref cc) ∧ ρ1[i]? = some (cR hh cc (ns ++ [m]) st) ∧ Q (.d (.int m)) (ρ1.set i (cR hh cc ns st)))
    (hbase : attributeBase a "pop" X.env (eval a X.env) = eval a X.env := by rfl) (hline : (apos.endLine == cpos.line) = true := by rfl) : EV X (.Call (.Attribute a "pop" apos) [] [] cpos) ρ Q := fun Γ fp F σ H Φ t k pins s I =>
  (pe_bm0 PySem.F.plainAttrs_list PySem.F.slot_list_pop PySem.F.type_list_pop mt_pop pe_w hbase hline).run pins s σ H Φ I (h Γ fp F σ H _ t fun v F1 H1 y ρ1 fp1 t1 f1 r1 ⟨ns, m, st, ey, h1, q⟩ => by
    subst ey
    have ev : v = .ref cc := r1
    subst ev
    obtain ⟨has, hw, g1, g2, g3, hl⟩ := rnd_at t1 h1
    rw [List.map_append] at g3
    refine ⟨.inl ⟨rfl, _, SqL.of g3⟩, cc, _, .int m, rfl, rfl, g3, ?_, ?_⟩
    · rw [List.length_append, List.length_map]
      show (ns.map V.int ++ [V.int m])[ns.length + 1 - 1]? = _
      rw [Nat.add_sub_cancel, List.getElem?_append_right (by rw [List.length_map]; exact Nat.le_refl _), List.length_map, Nat.sub_self]
      rfl
    · have ed : (ns.map V.int ++ [V.int m]).dropLast = ns.map V.int := List.dropLast_concat
      show Φ _ (upd H1 cc (.lst (ns.map V.int ++ [V.int m]).dropLast))
      rw [ed]
      exact k _ F1 _ (.d (.int m)) _ fp1 (t1.wrAt (a := cc) (c := .cust (rndC hh cc ns st)) (by rw [has]; simp) hw hl ⟨has, rfl, g1, (upd_ne g1).trans g2, upd_same⟩) f1 rpI q)
/-- y.append(e), y the list of numbers -/
theorem ss_appRaw (i : Nat) {apos cpos : Pos} (h : EV X a ρ fun y ρ1 => (∃ ns st, y = .raw (.ref cc) ∧ ρ1[i]? = some (cR hh cc ns st)) ∧ EV X e ρ1 fun z ρ2 => ∃ m ns st, z = .d (.int m) ∧ ρ2[i]? = some (cR hh cc ns st) ∧ ns.length < 100000 ∧ R.nx (ρ2.set i (cR hh cc (ns ++ [m]) st)))
    (hbase : attributeBase a "append" X.env (eval a X.env) = eval a X.env := by rfl)
    (hfew : ((backTo cpos (starEach [e] X.env)).all (fun x => !x.1) && (backToKw cpos (keywordEach [] X.env)).all (fun x => x.1.isSome)
      && decide ([e].length + ([] : List Keyword).length + (if ([] : List Keyword).isEmpty then 0 else 1) < 30)) = true := by rfl)
    (hline : (apos.endLine == cpos.line) = true := by rfl) (hs : starEach [e] X.env = (false, eval e X.env) :: starEach [] X.env := by rfl) (hplain : (backTo cpos (starEach [] X.env)).any (·.1) = false := by rfl)
    (hsw : swapsWith (.Call (.Attribute a "append" apos) [e] [] cpos) none pos.line X.env = pure false := by rfl) : SS X (.Expr (.Call (.Attribute a "append" apos) [e] [] cpos) pos) ρ R := fun Γ fp F σ H Dd t k pins s I =>
  (ps_expr (pe_bm PySem.F.plainAttrs_list PySem.F.slot_list_append PySem.F.type_list_append mt_append pe_w (pa_cons pe_w pa_nil hs) hbase hfew hline hs hplain) hsw).run pins s σ H Dd I (h Γ fp F σ H _ t fun v F1 H1 y ρ1 fp1 t1 f1 r1 ⟨⟨ns0, st0, ey, h1⟩, h2⟩ => by
    subst ey
    have ev : v = .ref cc := r1
    subst ev
    obtain ⟨has, hw, g1, g2, g3, hl⟩ := rnd_at t1 h1
    refine ⟨.inl ⟨rfl, _, SqL.of g3⟩, h2 Γ fp1 F1 σ H1 _ t1 fun w F2 H2 z ρ2 fp2 t2 f2 r2 ⟨m, ns, st, ez, h3, hlt, q⟩ => ?_⟩
    subst ez
    obtain ⟨has2, hw2, k1, k2, k3, kl⟩ := rnd_at t2 h3
    have ew := rep_int r2
    subst ew
    refine ⟨cc, _, .int m, rfl, rfl, k3, by rw [List.length_map]; exact small5' (Nat.le_of_lt hlt), k.nx _ fp2 F2 σ _ (t2.wrAt (a := cc) (c := .cust (rndC hh cc (ns ++ [m]) st)) (by rw [has2]; simp) hw2 kl ⟨has2, rfl, k1, (upd_ne k1).trans k2, by rw [upd_same, List.map_append]; rfl⟩) q⟩)
/-- x[1] = e -/
theorem ss_rnd1 (i : Nat) {j : Nat} {tp : Pos} (h : EV X e ρ fun y ρ1 => ∃ m ns st, y = .d (.int m) ∧ ρ1[i]? = some (cR hh cc ns st) ∧ R.nx (ρ1.set i (cR hh cc ns m))) (hN : X.N[i]? = some x := by rfl) (hv : Vis X.env.scope x := by first | exact Or.inl rfl | exact Or.inr (Or.inl rfl) | exact Or.inr (Or.inr rfl))
    (hd : (x == ("__debug__" : Str)) = false := by decide) (hcd : (x == ("__classdict__" : Str)) = false := by decide)
    (hs : swapsWithSole [.Subscript (.Name x p1) (.Constant (.int 1) j p) tp] e pos.line X.env = pure false := by rfl) (hw : swappedStores [.Subscript (.Name x p1) (.Constant (.int 1) j p) tp] e X.env = pure none := by rfl)
    (h1 : (assignEach [.Subscript (.Name x p1) (.Constant (.int 1) j p) tp] X.env).map (·.2) = [assign (.Subscript (.Name x p1) (.Constant (.int 1) j p) tp) X.env] := by rfl) : SS X (.Assign [.Subscript (.Name x p1) (.Constant (.int 1) j p) tp] e pos) ρ R := fun Γ fp F σ H D t k pins s I =>
  (ps_asg pe_w (pg_sub (pe_var hN hv hd hcd) pe_int set_list) hs hw h1).run pins s σ H D I (h Γ fp F σ H _ t fun v F1 H1 y ρ1 fp1 t1 f1 r1 ⟨m, ns, st, ey, h1, q⟩ => by
    subst ey
    have ev := rep_int r1
    subst ev
    obtain ⟨has, hw, g1, g2, g3, hl⟩ := rnd_at t1 h1
    exact ⟨.ref hh, hw, hh, [.ref cc, .int st], 1, 1, rfl, rfl, g2, rfl, k.nx _ fp1 F1 σ _ (t1.wrAt (a := hh) (c := .cust (rndC hh cc ns m)) (by rw [has]; simp) hw hl ⟨has, rfl, g1, upd_same, (upd_ne (Ne.symm g1)).trans g3⟩) q⟩)
end
end DL
end PartDN10
section PartDN11
set_option maxRecDepth 100000
set_option maxHeartbeats 2000000
/-! DN11: the random heap is made; slices of the script; reversed; a comprehension stored whose items are known by a relation. -/
namespace DL
open PySem PySem.Spec PyProof.Rows L2
section
variable {X : Cx} {ρ : Ev} {pos p p1 p2 : Pos} {a b e : Expr} {x : Str} {R : Rt} {Q : P → Ev → Prop} {Qn : List D → Ev → Prop} {Qc : Cell → Ev → Prop}
theorem en_slScr {lo hi : Option Expr} (h : EV X a ρ fun x ρ1 => EO X lo ρ1 fun l ρ2 => EO X hi ρ2 fun u ρ3 => ∃ ns : List Int, x = .scr ns ∧ Qn (cutD (ns.map .int) l u) ρ3) : EN X (.Subscript a (.Slice lo hi none p2) pos) ρ Qn := fun Γ fp F σ H Φ t k pins s I =>
  (pe_slice sl_list pe_w po_w po_w).run pins s σ H Φ I (h Γ fp F σ H _ t fun v F1 H1 x ρ1 fp1 t1 f1 r1 h1 => h1 Γ fp1 F1 σ H1 _ t1 fun l F2 H2 ρ2 fp2 t2 f2 h2 => h2 Γ fp2 F2 σ H2 _ t2 fun u F3 H3 ρ3 fp3 t3 f3 ⟨ns, ex, q⟩ => by
    subst ex
    obtain ⟨a1, rfl, s1⟩ := rep_same (K := X.K) f3 (rep_same f2 r1)
    refine ⟨a1, ns.map V.int, rfl, t3.ex.seq s1, fun p hp => ?_⟩
    obtain ⟨t4, n1, n2, n3⟩ := en_fin t3 hp (.lst (cutV (ns.map V.int) l u))
    exact k p _ F3 _ _ ρ3 fp3 t4 ((f1.trans f2).trans f3) n1 upd_same (cut_data DqAll.ints) n2 n3 q)
/-- xs[::-1] -/
theorem en_rev {k0 : Nat} {q1 q2 q3 : Pos} (h : EV X e ρ fun y ρ1 => ∃ ds, y = .d (.list ds) ∧ Qn ds.reverse ρ1) : EN X (.Subscript e (.Slice none none (some (.UnaryOp .USub (.Constant (.int 1) k0 q1) q2)) q3) pos) ρ Qn := fun Γ fp F σ H Φ t k pins s I =>
  (pe_revL pe_w).run pins s σ H Φ I (h Γ fp F σ H _ t fun v F1 H1 y ρ1 fp1 t1 f1 r1 ⟨ds, ey, q⟩ => by
    subst ey
    obtain ⟨a1, vs, rfl, s1, d1⟩ := rep_lst r1
    refine ⟨a1, vs, rfl, t1.ex.seq s1, fun p hp => ?_⟩
    obtain ⟨t4, n1, n2, n3⟩ := en_fin t1 hp (.lst vs.reverse)
    exact k p _ F1 _ _ ρ1 fp1 t4 f1 n1 upd_same d1.rev n2 n3 q)
/-- [xs, n], xs new: a random heap -/
theorem ec_rndD (h : EN X a ρ fun ds ρ1 => EV X b ρ1 fun y ρ2 => ∃ (ns : List Int) (st : Int), ds = ns.map .int ∧ y = .d (.int st) ∧ RndOk ns st ∧ ∀ h c, Qc (.rnd h c) ρ2)
    (he : starEach [a, b] X.env = (false, eval a X.env) :: starEach [b] X.env := by rfl) (he2 : starEach [b] X.env = (false, eval b X.env) :: starEach [] X.env := by rfl) : EC X (.List [a, b] pos) ρ Qc := fun Γ fp F σ H Φ t k pins s I =>
  (pe_lst (pa_cons pe_w (pa_cons pe_w pa_nil he2) he)).run pins s σ H Φ I (h Γ fp F σ H _ t fun a1 vs F1 H1 ds ρ1 fp1 t1 f1 n1 n2 r n3 n4 h1 => h1 _ fp1 F1 σ H1 _ t1.here fun w F2 H2 y ρ2 fp2 t2 f2 r2 ⟨ns, st, ed, ey, ok, q⟩ => by
    subst ed ey
    have ew := rep_int r2
    subst ew
    have ev := r.toInts
    subst ev
    obtain ⟨k1, k2, k3⟩ := t2.kept n2 n1 n4
    have t3 := t1.back t2
    refine ⟨by show 2 ≤ sizeLine; exact small5 (by omega), fun p hp => ?_⟩
    have pa : p ≠ a1 := fun z => by rw [z, k1] at hp; cases hp
    have g := Gr.lay (o := .lst [.ref a1, .int st]) t3.ex hp
    have up : ∀ {z : Addr}, H2 z = none → Γ.H z = none := fun {z} e1 => by
      cases qq : Γ.H z with
      | none => rfl
      | some ob => exact absurd e1 (t3.thr z (by rw [qq]; simp))
    refine k (.ref p) F2 _ (.rnd p a1) [p, a1] ρ2 fp2 (t3.grow g) (f1.trans f2) ⟨ns, st, rfl, rfl, upd_same, (upd_ne (Ne.symm pa)).trans k1, pa, ok⟩ (fun z hz => ?_) (fun z hz j hj => ?_) (q p a1)
    · rcases List.mem_cons.mp hz with rfl | hz
      · exact ⟨none_of t3.ex hp, by rw [upd_same]; simp, up hp⟩
      · have : z = a1 := by simpa using hz
        subst this
        exact ⟨k2, by rw [upd_ne (Ne.symm pa), k1]; simp, n3⟩
    · rcases List.mem_cons.mp hz with rfl | hz
      · exact (t3.own j z hj).2.1 hp
      · have : z = a1 := by simpa using hz
        subst this
        exact k3 j hj)
/-- x = [g(y) for y in ys], the items known by a relation -/
theorem ss_setMpR (i : Nat) {x : Str} {p1 cpos : Pos} {elt tg iter : Expr} {scope : Scope} {ix : List Nat} {α : Type} (G : α → D → Prop) (enc : α → D) (own : List (Str × Nat)) (hc : X.calm = true) (hN : X.N.Nodup)
    (h : IE X tg iter ρ fun items ρ1 => ∃ xs : List α, items = xs.map enc ∧ forget ρ1 (own.map (·.2)) = ρ1 ∧ xs.length ≤ 100000 ∧ (∀ x ∈ xs, ∀ B, GB (Bx X scope B) tg ix (enc x) ρ1 fun ρ2 => ∀ B, EV (Bx X scope B) elt ρ2 fun y ρ4 => ρ4 = ρ2 ∧ ∃ d, y = .d d ∧ G x d) ∧ ∀ ds, Paired G xs ds → R.nx (ρ1.set i (some (.own ds))))
    (hi : X.N[i]? = some x := by rfl) (hyl : X.env.scope.names.lookup x = some .local := by rfl) (ok : BlkOk X.N X.env.scope scope own := by exact blkOk_by (by kernel_rfl)) (hix : ∀ i ∈ ix, i ∈ own.map (·.2) := by decide) (hs : ∀ x, foldedSetIterable iter X.env x = pure x := by intro _; rfl)
    (hsw : swapsWith (.ListComp elt [⟨tg, iter, [], 0⟩] scope cpos) (some (.Name x p1)) pos.line X.env = pure true := by exact sw_true rfl rfl rfl (by kernel_rfl)) : SS X (.Assign [.Name x p1] (.ListComp elt [⟨tg, iter, [], 0⟩] scope cpos) pos) ρ R := by
  refine ss_setLc (ix := ix) i own hc hN (fun Γ fp F σ H R' t k => h Γ fp F σ H R' t fun J items G' Y F' H' ρ' fp' t' f w hG hY ⟨xs, e1, e2, e3, turn, q⟩ => k J items G' Y F' H' ρ' fp' t' f w hG hY ?_) hi hyl ok hix hs hsw
  subst e1
  refine ⟨e2, by rw [List.length_map]; exact e3, fun i acc => Paired G (xs.take i) acc, .nil, fun i x acc hx ha => ?_, fun acc ha => ?_⟩
  · rw [List.getElem?_map] at hx
    cases q1 : xs[i]? with
    | none => rw [q1] at hx; cases hx
    | some z =>
      rw [q1] at hx
      cases hx
      intro B
      have hz : z ∈ xs := List.mem_of_getElem? q1
      intro Γ fp F σ H v Φ t r k
      refine turn z hz B Γ fp F σ H v Φ t r fun σ' ρ2 fp' t' u1 u2 hq => k σ' ρ2 fp' t' u1 u2 fun B => ets_nil ⟨rfl, iteT fun B => (hq B).mono fun y ρ4 ⟨e4, d, ey, gd⟩ => ⟨e4, d, ey, ?_⟩⟩
      show Paired G (xs.take (i + 1)) (acc ++ [d])
      rw [List.take_add_one, q1]
      exact paired_snoc gd ha
  · rw [List.length_map, List.take_length] at ha
    exact q acc ha
end
end DL
end PartDN11
section PartLR3
set_option maxRecDepth 100000
set_option maxHeartbeats 4000000
namespace W63
open PySem PySem.Spec PyProof.Rows L2 DL
section
variable {P : Program} {w : World} {K : PySem.W.Frag} {mg : Str → Option Value} {base : Heap} {f : Addr} {fd : FuncData}
theorem snoc_of {α : Type} {l : List α} (h : l ≠ []) : ∃ l' m, l = l' ++ [m] := ⟨l.dropLast, l.getLast h, (List.dropLast_concat_getLast h).symm⟩
abbrev s_ldraw : Stmt := top 43
theorem sc_ldraw : FnScope ["_law_heap_here", "_law_many", "_law_rest"] ["_law_heap_here", "_law_many"] (defScope s_ldraw) := ⟨rfl, rfl, rfl, by decide +kernel, rfl, by decide +kernel, by decide +kernel⟩
theorem ok_draw (F : Fun K "_law_draw" "_law_draw" s_ldraw f fd) (T : Bl mg) : FnOk P w K mg base CX0 1 f fd ["_law_heap_here", "_law_many"] (spR K w_draw) := by
  refine fnR F sc_ldraw (fun as Ψ ⟨_, e, _⟩ => by rw [e]; rfl) (fun cdv A outer s H E as Ψ hh cc hr ⟨n, e, n0, n1, q⟩ => ?_)
  subst e
  have nd := sc_ldraw.nd
  have fin : ∀ z : Int, Ψ (.d (.int (z % n))) := fun z => by
    have h1 := Int.emod_nonneg z (show n ≠ 0 by omega)
    have h2 := Int.emod_lt_of_pos z n0
    have h3 := q (z % n).toNat (by omega)
    rw [Int.toNat_of_nonneg h1] at h3
    exact h3
  refine sss_rnd 0 fun ns0 st ok => ?_
  obtain ⟨ok1, ok2, ok3⟩ := ok
  refine ss_cons <| ss_while PassesOwn.never (fun m ρ => ∃ ns, ns.length = m ∧ m ≤ 1000 ∧ ρ = [cR hh cc ns st, some (.p (.d (.int n))), none]) ns0.length ⟨ns0, rfl, ok1, rfl⟩ ?_
  rintro m ρ ⟨ns, rfl, hl, rfl⟩
  refine ET.mono (Q := fun b ρ1 => ρ1 = [cR hh cc ns st, some (.p (.d (.int n))), none] ∧ (b = true → ∃ ns', ns = ns' ++ [0])) ?_ ?_
  · refine EW.et <| ew_and <| et_neNilRaw 0 hr <| ev_rnd0 0 ⟨ns, st, rfl, rfl, ite2 (fun c => ?_) fun c => ?_⟩
    · obtain ⟨ns', m', rfl⟩ := snoc_of (of_decide_eq_true c)
      refine ew_and1 <| et_eqI <| ev_ixRaw 0 <| ev_rnd0 0 ⟨rfl, ev_neg <| ev_int ⟨1, rfl, -1, m', _, st, rfl, rfl, last_int .., ev_int ⟨m', 0, rfl, rfl, rfl, fun h => ⟨ns', ?_⟩⟩⟩⟩
      rw [of_decide_eq_true h]
    · exact ⟨rfl, fun z => nomatch z⟩
  rintro b ρ1 ⟨rfl, hb⟩
  cases b with
  | true =>
    obtain ⟨ns', rfl⟩ := hb rfl
    rw [List.length_append, List.length_singleton] at hl
    exact iteT <| ss_one <| ss_expr <| ev_popRaw 0 <| ev_rnd0 0 ⟨ns', 0, st, rfl, rfl, ns'.length, by rw [List.length_append, List.length_singleton]; omega, ns', rfl, by omega, rfl⟩
  | false =>
    refine iteF <| ss_cons <| ss_if <| et_neNilRaw 0 hr <| ev_rnd0 0 ⟨ns, st, rfl, rfl, ite2 (fun c => ?_) fun c => ?_⟩
    · obtain ⟨ns', m', rfl⟩ := snoc_of (of_decide_eq_true c)
      rw [List.length_append, List.length_singleton] at hl
      refine ss_cons <| ss_set 2 (EV.ec <| ev_intI T.int <| ev_popRaw 0 <| ev_rnd0 0 ⟨ns', m', st, rfl, rfl, m', rfl, ?_⟩) nd
      refine ss_cons <| ss_appRaw 0 <| ev_rnd0 0 ⟨⟨ns', st, rfl, rfl⟩, ev_fdiv <| ev_var 2 rfl <| ev_var 1 rfl ⟨m', n, rfl, rfl, ⟨n0, by omega⟩, m' / n, ns', st, rfl, rfl, by omega, ?_⟩⟩
      exact ss_one <| ss_ret <| ev_rndBack 0 <| ev_mod <| ev_var 2 rfl <| ev_var 1 rfl ⟨m', n, rfl, rfl, n0, ns' ++ [m' / n], st, rfl, ⟨by rw [List.length_append, List.length_singleton]; omega, ok2, ok3⟩, rfl, fin m'⟩
    · refine ss_nil <| ss_cons <| ss_rnd1 0 <| ev_mod <| ev_intI T.int <| ev_add <| ev_mul <| ev_rnd1 (ns := ns) (st := st) 0 <| ev_int ⟨_, _, rfl, rfl, .inl ⟨by omega, by omega⟩, ev_int ⟨_, _, rfl, rfl, _, rfl, ev_int ⟨_, _, rfl, rfl, by decide, _, ns, st, rfl, rfl, ?_⟩⟩⟩
      have b1 := Int.emod_nonneg (st * 48271 + 11) (show (2147483647 : Int) ≠ 0 by decide)
      have b2 := Int.emod_lt_of_pos (st * 48271 + 11) (show (0 : Int) < 2147483647 by decide)
      exact ss_one <| ss_ret <| ev_rndBack 0 <| ev_mod <| ev_intI T.int <| ev_fdiv <| ev_rnd1 (ns := ns) (st := (st * 48271 + 11) % 2147483647) 0 <| ev_int ⟨_, _, rfl, rfl, ⟨by decide, by decide⟩, _, rfl, ev_var 1 rfl ⟨_, n, rfl, rfl, n0, ns, _, rfl, ⟨hl, b1, b2⟩, rfl, fin _⟩⟩
/-! ### _law_heap -/
abbrev s_lheap : Stmt := top 42
theorem sc_lheap : FnScope ["_law_script", "_law_base", "_law_cells", "_law_stir", "_law_cell"] ["_law_script", "_law_base"] (defScope s_lheap) := ⟨rfl, rfl, rfl, by decide +kernel, rfl, by decide +kernel, by decide +kernel⟩
def w_heap : WpC := fun as Ψ => ∃ (ns : List Int) (b : Int), as = [.scr ns, .d (.int b)] ∧ 0 ≤ b ∧ b ≤ 1000 ∧ ∀ h c, Ψ (.rnd h c)
theorem cut63 (ns : List Int) : DL.cutD (ns.map PyData.int) none (some 63) = (ns.take 63).map PyData.int := by
  have e : (63 : Int) = ((63 : Nat) : Int) := rfl
  unfold DL.cutD
  rw [e, HT.sIx_nat, List.length_map]
  show ((ns.map PyData.int).drop 0).take (min 63 ns.length - 0) = _
  rw [List.drop_zero, Nat.sub_zero, ← List.map_take]
  congr 1
  by_cases c : 63 ≤ ns.length
  · rw [Nat.min_eq_left c]
  · rw [Nat.min_eq_right (by omega), List.take_length, List.take_of_length_le (by omega)]
theorem ok_heap (F : Fun K "_law_heap" "_law_heap" s_lheap f fd) (T : Bl mg) : FnOk P w K mg base CX0 1 f fd ["_law_script", "_law_base"] (spC K w_heap) := by
  refine fnC F sc_lheap (fun as Ψ ⟨_, _, e, _⟩ => by rw [e]; rfl) (fun cdv A outer s H E as Ψ hr ⟨ns, b, e, b0, b1, q⟩ => ?_)
  subst e
  have nd := sc_lheap.nd
  refine ss_cons <| ss_setMp (ix := [4]) 2 .int [("_law_cell", 4)] rfl nd <| ie_list <| EN.ev <| en_slScr <| ev_var 0 rfl <| eo_none <| eo_some <| ev_int ⟨_, rfl, ns, rfl, ?_⟩
  rw [cut63]
  have tl : (ns.take 63).length ≤ 63 := by rw [List.length_take]; omega
  generalize ns.take 63 = xs at tl
  refine ⟨_, rfl, xs, fun n => .int (if n < 0 then -n else n), rfl, rfl, by omega, fun n _ B => gb_name 4 (fun B => ev_abs T.abs <| ev_intI T.int <| ev_var 4 rfl ⟨_, rfl, _, rfl, rfl, rfl⟩) nd, ?_⟩
  rw [show xs.map (fun n : Int => PyData.int (if n < 0 then -n else n)) = (xs.map fun n : Int => if n < 0 then -n else n).map PyData.int by rw [List.map_map]; rfl]
  have yl : (xs.map fun n : Int => if n < 0 then -n else n).length ≤ 63 := by rw [List.length_map]; exact tl
  generalize (xs.map fun n : Int => if n < 0 then -n else n) = ys at yl
  refine ss_cons <| ss_set 3 (EV.ec <| ev_add <| ev_int <| ev_mul <| ev_int <| ev_var 1 rfl ⟨_, _, rfl, rfl, .inl ⟨by decide, by decide⟩, _, _, rfl, rfl, ?_⟩) nd
  refine ss_cons <| ss_for (ix := [4]) PassesOwn.never rfl <| ie_list <| ev_take 2 rfl ⟨_, rfl, fun i ρ => ∃ st x4, 0 ≤ st ∧ st < 2147483647 ∧ ρ = [some (.p (.scr ns)), some (.p (.d (.int b))), some (.p (.d (.list (ys.map .int)))), some (.p (.d (.int st))), x4], ⟨_, none, by omega, by omega, rfl⟩, ?_, ?_⟩
  · rintro i x ρ hx ⟨st, x4, s0, s1, rfl⟩
    obtain ⟨c, hc, rfl⟩ := map_at hx
    refine gb_name 4 ?_ nd
    refine ss_one <| ss_set 3 (EV.ec <| ev_mod <| ev_intI T.int <| ev_add <| ev_add <| ev_mul <| ev_var 3 rfl <| ev_int ⟨_, _, rfl, rfl, .inr ⟨by decide, by decide⟩, ev_mod <| ev_var 4 rfl <| ev_int ⟨_, _, rfl, rfl, by decide, _, _, rfl, rfl, ev_int ⟨_, _, rfl, rfl, _, rfl, ev_int ⟨_, _, rfl, rfl, by decide, ?_⟩⟩⟩⟩) nd
    exact ⟨_, _, Int.emod_nonneg _ (by decide), Int.emod_lt_of_pos _ (by decide), rfl⟩
  · rintro ρ ⟨st, x4, s0, s1, rfl⟩
    refine sss_forget [4] ?_
    refine ss_one <| ss_retC 0 <| ec_rndD <| en_rev <| EN.ev <| en_fm (ix := [4]) ys .int (fun n => if (10 : Int) ^ 18 ≤ n then some (.int n) else none) [("_law_cell", 4)] rfl nd <| ie_list <| ev_var 2 rfl ⟨_, rfl, rfl, rfl, by omega, fun n _ B => gb_name 4 (fun B => ?_) nd, ?_⟩
    · refine et_ge <| ev_var 4 rfl <| ev_pow <| ev_int <| ev_int ⟨_, _, rfl, rfl, ⟨by decide, by decide, by decide⟩, _, _, rfl, rfl, rfl, ?_⟩
      exact ite2 (fun c1 B => ev_var 4 rfl ⟨rfl, _, rfl, if_pos (of_decide_eq_true c1)⟩) fun c1 => if_neg fun z => c1 (decide_eq_true z)
    · have e1 : (ys.filterMap fun n => if (10 : Int) ^ 18 ≤ n then some (PyData.int n) else none) = (ys.filter fun n => decide ((10 : Int) ^ 18 ≤ n)).map PyData.int := by
        clear yl
        induction ys with
        | nil => rfl
        | cons y ys ih =>
          rw [List.filterMap_cons, List.filter_cons]
          by_cases c : (10 : Int) ^ 18 ≤ y
          · rw [if_pos c, if_pos (by simpa using c), List.map_cons, ih]
          · rw [if_neg c, if_neg (by simpa using c)]
            exact ih
      rw [e1]
      have fl := List.length_filter_le (fun n => decide ((10 : Int) ^ 18 ≤ n)) ys
      exact ⟨_, rfl, ev_var 3 rfl ⟨(ys.filter fun n => decide ((10 : Int) ^ 18 ≤ n)).reverse, st, by rw [List.map_reverse], rfl, ⟨by rw [List.length_reverse]; omega, s0, s1⟩, fun h c u => ⟨0, u, _, rfl, rfl, q h c⟩⟩⟩
end
end W63
end PartLR3
section PartLR4
set_option maxRecDepth 100000
set_option maxHeartbeats 4000000
namespace W63
open PySem PySem.Spec PyProof.Rows L2 DL
theorem perm_mapG {α β : Type} {g : α → β} {es ds : List β} (h : es.Perm ds) : ∀ L : List α, ds = L.map g → ∃ L' : List α, es = L'.map g ∧ L'.Perm L := by
  induction h with
  | nil => exact fun L e => ⟨L, e, List.Perm.refl _⟩
  | cons x h ih =>
    intro L e
    cases L with
    | nil => cases e
    | cons y L =>
      cases e
      obtain ⟨L', e1, e2⟩ := ih L rfl
      exact ⟨y :: L', by rw [e1]; rfl, e2.cons y⟩
  | swap x y l =>
    intro L e
    match L, e with
    | [], e => cases e
    | [_], e => cases e
    | u :: v :: L, e =>
      cases e
      exact ⟨v :: u :: L, rfl, List.Perm.swap ..⟩
  | trans h1 h2 ih1 ih2 =>
    intro L e
    obtain ⟨L1, e1, p1⟩ := ih2 L e
    obtain ⟨L2, e2, p2⟩ := ih1 L1 e1
    exact ⟨L2, e2, p2.trans p1⟩
/-- a text of these signs -/
def txt (cs : List Nat) : Str := ⟨cs.toArray⟩
def ltr (c : Nat) : Str := ⟨#[c]⟩
theorem join_txt (cs : List Nat) : Txt.join "" (cs.map ltr) = txt cs := by
  have h1 : Txt.join "" (cs.map ltr) = Str.join ⟨#[]⟩ (cs.map ltr) := by
    have h := join_plain_closes "" (cs.map ltr)
    exact eq_of_beq h
  rw [h1]
  have h2 := join_nil_signs (txt cs)
  have e : signs (txt cs) = cs.map ltr := by
    unfold signs txt
    rfl
  rw [e] at h2
  exact h2
abbrev abcS : Str := "abcdefghijklmnopqrstuvwxyz"
theorem abc_at : ∀ k < 26, abcS.cps.toList[k]? = some (97 + k) := by decide +kernel
theorem abc_mem : ∀ c ∈ abcS.cps.toList, 97 ≤ c ∧ c ≤ 122 := by decide +kernel
theorem abc_len : abcS.length = 26 := by decide +kernel
def LowA (cs : List Nat) : Prop := ∀ c ∈ cs, 97 ≤ c ∧ c ≤ 122
theorem LowA.app {a b : List Nat} (h1 : LowA a) (h2 : LowA b) : LowA (a ++ b) := fun c hc => by
  rcases List.mem_append.mp hc with z | z
  · exact h1 c z
  · exact h2 c z
theorem name_ok {cs : List Nat} (h : LowA cs) (h1 : 1 ≤ cs.length) (h2 : cs.length ≤ 8) : NameOk (txt cs) := by
  have e : (txt cs).length = cs.length := by unfold txt; exact List.size_toArray
  refine ⟨by rw [e]; exact h1, by rw [e]; exact h2, fun c hc => h c (by simpa [txt] using hc)⟩
theorem lets_of {xs : List Nat} {ds : List D} (h : Paired (fun (_ : Nat) d => ∃ c : Nat, 97 ≤ c ∧ c ≤ 122 ∧ d = .str (ltr c)) xs ds) : ∃ cs, LowA cs ∧ cs.length = xs.length ∧ ds = (cs.map ltr).map .str := by
  induction h with
  | nil => exact ⟨[], (fun c hc => (nomatch hc)), rfl, rfl⟩
  | cons r _ ih =>
    obtain ⟨c, h1, h2, rfl⟩ := r
    obtain ⟨cs, l, e1, e2⟩ := ih
    refine ⟨c :: cs, fun z hz => ?_, by rw [List.length_cons, List.length_cons, e1], by rw [e2]; rfl⟩
    rcases List.mem_cons.mp hz with rfl | hz
    · exact ⟨h1, h2⟩
    · exact l z hz
theorem cutD_map {α : Type} (g : α → D) (cs : List α) (lo hi : Option Int) : ∃ a b, DL.cutD (cs.map g) lo hi = ((cs.drop a).take b).map g := by
  unfold DL.cutD
  exact ⟨_, _, by rw [← List.map_drop, ← List.map_take]⟩
theorem cutD_pre {α : Type} (g : α → D) (cs : List α) (n : Nat) (h : n ≤ cs.length) : DL.cutD (cs.map g) none (some (n : Int)) = (cs.take n).map g := by
  unfold DL.cutD
  rw [HT.sIx_nat, List.length_map]
  show ((cs.map g).drop 0).take (min n cs.length - 0) = _
  rw [List.drop_zero, Nat.sub_zero, ← List.map_take, Nat.min_eq_left h]
theorem cutD_suf {α : Type} (g : α → D) (cs : List α) (n : Nat) (h : n ≤ cs.length) (hi : Option Int) : ∃ b, DL.cutD (cs.map g) (some (n : Int)) hi = ((cs.drop n).take b).map g := by
  unfold DL.cutD
  rw [HT.sIx_nat, List.length_map, Nat.min_eq_left h]
  exact ⟨_, by rw [← List.map_drop, ← List.map_take]⟩
section
variable {P : Program} {w : World} {K : PySem.W.Frag} {mg : Str → Option Value} {base : Heap} {f : Addr} {fd : FuncData}
abbrev s_lnames : Stmt := top 46
theorem sc_lnames : FnScope ["_law_heap_here", "_law_many", "_law_letters", "_law_stem", "_law_turn", "_law_place", "_law_first", "_law_found", "_law_even", "_law_at", "_law_sign", "_law_rest"] ["_law_heap_here", "_law_many"] (defScope s_lnames) := ⟨rfl, rfl, rfl, by decide +kernel, rfl, by decide +kernel, by decide +kernel⟩
def w_names : Wp := fun as Ψ => as = [.d (.int 20)] ∧ ∀ L : List Str, L.length = 20 → (∀ x ∈ L, NameOk x) → L.Nodup → Ψ (.d (.list (L.map .str)))
theorem ok_names (F : Fun K "_law_names" "_law_names" s_lnames f fd) (T : Bl mg) (D1 : DefOk P w K mg base CX0 "_law_draw" 1 ["_law_heap_here", "_law_many"] (spR K w_draw)) (D2 : DefOk P w K mg base CX0 "_law_pick" 2 ["_law_heap_here", "_law_some"] (spR K w_pick)) (D3 : DefOk P w K mg base CX0 "_law_mixed" 2 ["_law_heap_here", "_law_some"] (spR K w_mixed)) :
    FnOk P w K mg base CX0 3 f fd ["_law_heap_here", "_law_many"] (spR K w_names) := by
  refine fnR F sc_lnames (fun as Ψ ⟨e, _⟩ => by rw [e]; rfl) (fun cdv A outer s H E as Ψ hh cc hr ⟨e, q⟩ => ?_)
  subst e
  have nd := sc_lnames.nd
  refine ss_cons <| ss_set 2 (EV.ec <| ev_str ?_) nd
  refine ss_cons <| ss_setMpR (ix := [4]) 3 (fun (_ : Nat) d => ∃ c : Nat, 97 ≤ c ∧ c ≤ 122 ∧ d = .str (ltr c)) (fun i => .int (0 + (i : Nat))) [("_law_turn", 4)] rfl nd <| ie_range1 T.range <| ev_callR 0 D2 hr <| ea_cons <| EN.ev <| en_lst <| ea_cons <| ev_int <| ea_cons <| ev_int <| ea_cons <| ev_int <| ea_cons <| ev_int <| ea_cons <| ev_int <| ea_nil ⟨[.int 0, .int 0, .int 1, .int 3, .int 6], rfl, by simp, ea_nil ⟨rfl, .inl ⟨_, rfl, by simp, by simp, fun d hd => ?_⟩⟩⟩
  have hd' : ∃ m : Nat, d = .int (m : Nat) ∧ m ≤ 6 := by
    simp only [List.mem_cons, List.not_mem_nil, or_false] at hd
    rcases hd with rfl | rfl | rfl | rfl | rfl
    · exact ⟨0, rfl, by decide⟩
    · exact ⟨0, rfl, by decide⟩
    · exact ⟨1, rfl, by decide⟩
    · exact ⟨3, rfl, by decide⟩
    · exact ⟨6, rfl, by decide⟩
  obtain ⟨m, rfl, hm⟩ := hd'
  refine ⟨_, rfl, by omega, by omega, List.range m, rfl, rfl, by rw [List.length_range]; omega, fun i _ B => gb_name 4 (fun B => ?_) nd, fun ds hp => ?_⟩
  · refine ev_callR 0 D2 hr <| ea_cons <| ev_var 2 rfl <| ea_nil ⟨rfl, .inr ⟨_, rfl, ?_, ?_, fun c hc => ⟨rfl, _, rfl, c, (abc_mem c hc).1, (abc_mem c hc).2, rfl⟩⟩⟩
    · rw [show Str.length _ = 26 from abc_len]; decide
    · rw [show Str.length _ = 26 from abc_len]; decide
  obtain ⟨cs, lo, cl, rfl⟩ := lets_of hp
  rw [List.length_range] at cl
  have mm : (cs.map ltr).map PyData.str = cs.map fun c => PyData.str (ltr c) := by rw [List.map_map]; rfl
  rw [mm]
  refine ss_cons <| ss_par3 5 6 7 (by decide) (by decide) (by decide) rfl nd (EV.ec <| ev_callR 0 D1 (hr.mono (by decide)) <| ea_cons <| ev_add <| ev_len T.len <| ev_take 3 rfl ⟨_, (cs.map fun c => PyData.str (ltr c)).length, rfl, rfl, ev_int ⟨_, _, rfl, rfl, ?_⟩⟩)
  rw [List.length_map]
  refine ea_nil ⟨rfl, _, rfl, by omega, by omega, fun pl hpl => EV.ec <| ev_callR 0 D1 (hr.mono (by decide)) <| ea_cons <| ev_int <| ea_nil ⟨rfl, _, rfl, by decide, by decide, fun fi hfi => EN.ec <| en_lst <| ea_nil ⟨[], rfl, by simp, ?_⟩⟩⟩
  have hpl' : pl ≤ cs.length := by omega
  have hfi' : fi < 26 := by omega
  refine ss_cons <| ss_set 8 (EV.ec <| ev_or <| ev_gt <| ev_var 1 rfl <| ev_int ⟨_, _, rfl, rfl, _, rfl, iteF <| ev_one <| ev_eqI <| ev_callR 0 D1 (hr.mono (by decide)) <| ea_cons <| ev_int <| ea_nil ⟨rfl, _, rfl, by decide, by decide, fun r2 hr2 => ev_int ⟨_, _, rfl, rfl, ?_⟩⟩⟩) nd
  generalize decide ((r2 : Int) = 0) = even
  refine ss_cons <| ss_for (ix := [9]) PassesOwn.never rfl <| ie_range1 T.range <| ev_var 1 rfl ⟨_, rfl, by decide, by decide, fun i ρ => ∃ (L : List Str) (x9 x10 x11 : Option Cell), L.length = i ∧ (∀ x ∈ L, NameOk x) ∧ (∀ j x, L[j]? = some x → x.cps.toList[pl]? = some (97 + (fi + j) % 26)) ∧
    ρ = [some (.rnd hh cc), some (.p (.d (.int 20))), some (.p (.d (.str abcS))), some (.p (.d (.list (cs.map fun c => PyData.str (ltr c))))), none, some (.p (.d (.int (pl : Nat)))), some (.p (.d (.int (fi : Nat)))), some (.own (L.map .str)), some (.p (.d (.bool even))), x9, x10, x11],
    ⟨[], none, none, none, rfl, fun x hx => (nomatch hx), fun j x hx => by simp at hx, rfl⟩, ?_, ?_⟩
  · rintro i x ρ hx ⟨L, x9, x10, x11, hl, hn, hs, rfl⟩
    have hi := (List.getElem?_eq_some_iff.mp hx).1
    rw [rangeD_len] at hi
    rw [rangeD_get hi] at hx
    cases hx
    have hi2 : i < 20 := hi
    rw [Int.zero_add]
    refine gb_name 9 ?_ nd
    have em : ((fi : Int) + (i : Nat)) % 26 = (((fi + i) % 26 : Nat) : Int) := by omega
    have km : (fi + i) % 26 < 26 := Nat.mod_lt _ (by decide)
    refine ss_cons <| ss_set 10 (EV.ec <| ev_cat_str <| ev_ix <| ev_var 2 rfl <| ev_mod <| ev_intI T.int <| ev_add <| ev_var 6 rfl <| ev_var 9 rfl ⟨_, _, rfl, rfl, _, rfl, ev_int ⟨_, _, rfl, rfl, by decide, _, _, .str (ltr (97 + (fi + i) % 26)), rfl, rfl, .inr (.inr ⟨_, _, rfl, by rw [show Str.length _ = 26 from abc_len]; decide, by rw [em]; exact atI_of (abc_at _ km), rfl⟩), ?_⟩⟩) nd
    refine ev_ifExp <| et_lt <| ev_var 9 rfl <| ev_int ⟨_, _, rfl, rfl, ?_⟩
    rw [if_pos (decide_eq_true (show ((i : Nat) : Int) < 26 by omega))]
    refine ev_str ⟨_, _, rfl, rfl, by show 1 + 0 ≤ 100000; decide, ?_⟩
    rw [show (ltr (97 + (fi + i) % 26) ++ ("" : Str) : Str) = ltr (97 + (fi + i) % 26) from Str.append_empty _]
    generalize hsg : 97 + (fi + i) % 26 = sg
    have sg1 : 97 ≤ sg ∧ sg ≤ 122 := by omega
    refine ss_cons <| ss_set 11 (EV.ec <| EV.mono (Q := fun y ρ1 => ∃ rs : List Nat, LowA rs ∧ rs.length ≤ cs.length - pl ∧ y = .d (.list (rs.map fun c => PyData.str (ltr c))) ∧
      ρ1 = [some (.rnd hh cc), some (.p (.d (.int 20))), some (.p (.d (.str abcS))), some (.p (.d (.list (cs.map fun c => PyData.str (ltr c))))), none, some (.p (.d (.int (pl : Nat)))), some (.p (.d (.int (fi : Nat)))), some (.own (L.map .str)), some (.p (.d (.bool even))), some (.p (.d (.int (i : Nat)))), some (.p (.d (.str (ltr sg)))), x11]) ?_ ?_) nd
    · have sub : ∀ b, LowA ((cs.drop pl).take b) ∧ ((cs.drop pl).take b).length ≤ cs.length - pl := fun b => ⟨fun c hc => lo c (List.mem_of_mem_drop (List.mem_of_mem_take hc)), by rw [List.length_take, List.length_drop]; omega⟩
      refine ev_ifExp <| et_val <| ev_var 8 rfl ⟨even, rfl, ?_⟩
      cases even with
      | true =>
        refine iteT <| EN.ev <| en_slL <| ev_var 3 rfl <| eo_some <| ev_var 5 rfl ⟨_, rfl, eo_none ⟨_, rfl, ?_⟩⟩
        obtain ⟨b, eb⟩ := cutD_suf (fun c => PyData.str (ltr c)) cs pl hpl' none
        rw [eb]
        exact ⟨_, (sub b).1, (sub b).2, rfl, rfl⟩
      | false =>
        refine iteF <| EN.ev <| en_slL <| ev_var 3 rfl <| eo_some <| ev_var 5 rfl ⟨_, rfl, eo_some <| ev_add <| ev_var 5 rfl <| ev_callR 0 D1 (hr.mono (by decide)) <| ea_cons <| ev_int <| ea_nil ⟨rfl, _, rfl, by decide, by decide, fun r3 hr3 => ⟨_, _, rfl, rfl, _, rfl, _, rfl, ?_⟩⟩⟩
        obtain ⟨b, eb⟩ := cutD_suf (fun c => PyData.str (ltr c)) cs pl hpl' (some ((pl : Int) + (r3 : Nat)))
        rw [eb]
        exact ⟨_, (sub b).1, (sub b).2, rfl, rfl⟩
    rintro y ρ1 ⟨rs, lr, rl, rfl, rfl⟩
    refine ss_one <| ss_app 7 <| ev_join <| ev_str ⟨_, rfl, EN.ev <| en_cat <| EN.ev <| en_cat <| EN.ev <| en_slL <| ev_var 3 rfl <| eo_none <| eo_some <| ev_var 5 rfl ⟨_, rfl, _, rfl, ?_⟩⟩
    rw [cutD_pre _ _ _ hpl']
    have tl : (cs.take pl).length = pl := by rw [List.length_take]; omega
    refine EN.ev <| en_lst <| ea_cons <| ev_var 10 rfl <| ea_nil ⟨[.str (ltr sg)], rfl, by simp, _, _, rfl, rfl, by rw [List.length_map]; simp; omega, ev_var 11 rfl ⟨_, _, rfl, rfl, by rw [List.length_append, List.length_map, List.length_map]; simp; omega, ?_⟩⟩
    have ee : (cs.take pl).map (fun c => PyData.str (ltr c)) ++ [PyData.str (ltr sg)] ++ rs.map (fun c => PyData.str (ltr c)) = ((cs.take pl ++ [sg] ++ rs).map ltr).map PyData.str := by
      rw [List.map_map, List.map_append, List.map_append]
      rfl
    rw [ee]
    have nl : (cs.take pl ++ [sg] ++ rs).length ≤ 7 ∧ 1 ≤ (cs.take pl ++ [sg] ++ rs).length := by
      rw [List.length_append, List.length_append, List.length_singleton]
      omega
    have low : LowA (cs.take pl ++ [sg] ++ rs) := LowA.app (LowA.app (fun c hc => lo c (List.mem_of_mem_take hc)) (fun c hc => by rw [List.mem_singleton.mp hc]; exact sg1)) lr
    have at_ : (cs.take pl ++ [sg] ++ rs)[pl]? = some sg := by
      rw [List.append_assoc, List.getElem?_append_right (by omega), tl, Nat.sub_self]
      rfl
    generalize cs.take pl ++ [sg] ++ rs = nm at nl low at_
    have sl : ∀ l : List Nat, ((l.map ltr).map (·.length)).sum = l.length := fun l => by
      induction l with
      | nil => rfl
      | cons c l ih => rw [List.map_cons, List.map_cons, List.sum_cons, ih, List.length_cons]; show 1 + _ = _; omega
    refine ⟨nm.map ltr, .inl rfl, ?_, .str (txt nm), L.map .str, ?_, rfl, by rw [List.length_map]; omega, L ++ [txt nm], some (.p (.d (.int (i : Nat)))), some (.p (.d (.str (ltr sg)))), some (.p (.d (.list (rs.map fun c => PyData.str (ltr c))))), ?_, fun x hx => ?_, fun j x hx => ?_, ?_⟩
    · rw [sl, List.length_map, show Str.length _ = 0 from rfl]
      omega
    · rw [show Txt.join _ (nm.map ltr) = txt nm from join_txt nm]
    · rw [List.length_append, List.length_singleton, hl]
    · rcases List.mem_append.mp hx with z | z
      · exact hn x z
      · rw [List.mem_singleton.mp z]
        exact name_ok low nl.2 (by omega)
    · by_cases c : j < L.length
      · rw [List.getElem?_append_left c] at hx
        exact hs j x hx
      · rw [List.getElem?_append_right (by omega)] at hx
        have hj : j - L.length = 0 := by
          have := (List.getElem?_eq_some_iff.mp hx).1
          rw [List.length_singleton] at this
          omega
        rw [hj] at hx
        cases hx
        have e : j = i := by omega
        subst e
        rw [hsg]
        show (nm.toArray).toList[pl]? = _
        rw [List.toList_toArray]
        exact at_
    · rw [List.map_append]
      rfl
  · rintro ρ ⟨L, x9, x10, x11, hl, hn, hs, rfl⟩
    rw [rangeD_len] at hl
    have hl2 : L.length = 20 := hl
    refine ss_one <| ss_ret <| ev_callR 0 D3 hr <| ea_cons <| ev_take 7 rfl <| ea_nil ⟨rfl, _, rfl, by rw [List.length_map]; omega, fun es he => ?_⟩
    obtain ⟨L', rfl, hp⟩ := perm_mapG he L rfl
    refine ⟨rfl, q L' (by rw [hp.length_eq]; exact hl2) (fun x hx => hn x (hp.mem_iff.mp hx)) (hp.nodup_iff.mpr ?_)⟩
    refine List.pairwise_iff_getElem.mpr fun i j hi hj hij e => ?_
    have a1 := hs i _ (List.getElem?_eq_getElem hi)
    have a2 := hs j _ (List.getElem?_eq_getElem hj)
    rw [e, a2] at a1
    have := Option.some.inj a1
    omega
end
end W63
end PartLR4
section PartLR5
set_option maxRecDepth 100000
set_option maxHeartbeats 4000000
namespace W63
open PySem PySem.Spec PyProof.Rows L2 DL
def HtD (d : D) : Prop := ∃ h : Int, 1 ≤ h ∧ h ≤ 12 ∧ d = .int h
theorem ints_of {α : Type} {xs : List α} {ds : List D} (h : Paired (fun (_ : α) d => HtD d) xs ds) : ∃ hs : List Int, (∀ h ∈ hs, 1 ≤ h ∧ h ≤ 12) ∧ hs.length = xs.length ∧ ds = hs.map .int := by
  induction h with
  | nil => exact ⟨[], (fun c hc => (nomatch hc)), rfl, rfl⟩
  | cons r _ ih =>
    obtain ⟨c, h1, h2, rfl⟩ := r
    obtain ⟨cs, l, e1, e2⟩ := ih
    refine ⟨c :: cs, fun z hz => ?_, by rw [List.length_cons, List.length_cons, e1], by rw [e2]; rfl⟩
    rcases List.mem_cons.mp hz with rfl | hz
    · exact ⟨h1, h2⟩
    · exact l z hz
theorem yard_perm {hs hs' : List Int} (h : hs'.Perm hs) (y : YardOk hs) : YardOk hs' := ⟨by rw [h.length_eq]; exact y.lo, by rw [h.length_eq]; exact y.hi, fun x hx => y.pos x (h.mem_iff.mp hx)⟩
theorem yard_cons {h : Int} {hs : List Int} (h1 : 1 ≤ h ∧ h ≤ 12) (h2 : ∀ x ∈ hs, 1 ≤ x ∧ x ≤ 12) (l1 : 2 ≤ hs.length) (l2 : hs.length ≤ 11) : YardOk (h :: hs) := ⟨by rw [List.length_cons]; omega, by rw [List.length_cons]; omega, fun x hx => by
  rcases List.mem_cons.mp hx with rfl | hx
  · exact h1
  · exact h2 x hx⟩
section
variable {P : Program} {w : World} {K : PySem.W.Frag} {mg : Str → Option Value} {base : Heap} {f : Addr} {fd : FuncData}
abbrev s_ltall : Stmt := top 47
theorem sc_ltall : FnScope ["_law_heap_here", "_law_many", "_law_form", "_law_turn", "_law_heights"] ["_law_heap_here"] (defScope s_ltall) := ⟨rfl, rfl, rfl, by decide +kernel, rfl, by decide +kernel, by decide +kernel⟩
def w_tall : Wp := fun as Ψ => as = [] ∧ ∀ hs : List Int, YardOk hs → Ψ (.d (.list (hs.map .int)))
theorem ok_tall (F : Fun K "_law_tall" "_law_tall" s_ltall f fd) (T : Bl mg) (D1 : DefOk P w K mg base CX0 "_law_draw" 1 ["_law_heap_here", "_law_many"] (spR K w_draw)) (D2 : DefOk P w K mg base CX0 "_law_pick" 2 ["_law_heap_here", "_law_some"] (spR K w_pick)) (D3 : DefOk P w K mg base CX0 "_law_mixed" 2 ["_law_heap_here", "_law_some"] (spR K w_mixed)) :
    FnOk P w K mg base CX0 3 f fd ["_law_heap_here"] (spR K w_tall) := by
  refine fnR F sc_ltall (fun as Ψ ⟨e, _⟩ => by rw [e]; rfl) (fun cdv A outer s H E as Ψ hh cc hr ⟨e, q⟩ => ?_)
  subst e
  have nd := sc_ltall.nd
  refine ss_cons <| ss_par 1 2 (by decide) rfl nd (EV.ec <| ev_callR 0 D2 hr <| ea_cons <| EN.ev <| en_lst <| ea_cons <| ev_int <| ea_cons <| ev_int <| ea_cons <| ev_int <| ea_cons <| ev_int <| ea_cons <| ev_int <| ea_nil ⟨[.int 3, .int 3, .int 3, .int 4, .int 5], rfl, by simp, ea_nil ⟨rfl, .inl ⟨_, rfl, by simp, by simp, fun d hd => ?_⟩⟩⟩)
  have hd' : ∃ m : Nat, d = .int (m : Nat) ∧ 3 ≤ m ∧ m ≤ 5 := by
    simp only [List.mem_cons, List.not_mem_nil, or_false] at hd
    rcases hd with rfl | rfl | rfl | rfl | rfl
    · exact ⟨3, rfl, by decide, by decide⟩
    · exact ⟨3, rfl, by decide, by decide⟩
    · exact ⟨3, rfl, by decide, by decide⟩
    · exact ⟨4, rfl, by decide, by decide⟩
    · exact ⟨5, rfl, by decide, by decide⟩
  obtain ⟨m, rfl, m3, m5⟩ := hd'
  refine EV.ec <| ev_callR 0 D1 (hr.mono (by decide)) <| ea_cons <| ev_int <| ea_nil ⟨rfl, _, rfl, by decide, by decide, fun fo _ => ?_⟩
  have en : ((m : Nat) : Int).toNat = m := by omega
  refine ss_cons <| ss_if <| et_eqI <| ev_var 2 rfl <| ev_int ⟨_, _, rfl, rfl, ite2 (fun c => ?_) fun c => ?_⟩
  · refine ss_one <| ss_ret <| ev_callR 0 D3 hr <| ea_cons <| EN.ev <| en_cat <| EN.ev <| en_lst <| ea_cons <| ev_int <| ea_nil ⟨[.int 2], rfl, by simp, EN.ev <| en_mpR (ix := [3]) (fun (_ : Nat) d => HtD d) (fun i => .int (0 + (i : Nat))) [("_law_turn", 3)] rfl nd <| ie_range1 T.range <| ev_callR 0 D2 hr <| ea_cons <| EN.ev <| en_lst <| ea_cons <| ev_int <| ea_cons <| ev_int <| ea_cons <| ev_int <| ea_cons <| ev_int <| ea_cons <| ev_int <| ea_nil ⟨[.int 5, .int 5, .int 6, .int 7, .int 11], rfl, by simp, ea_nil ⟨rfl, .inl ⟨_, rfl, by simp, by simp, fun d hd => ?_⟩⟩⟩⟩
    have hd' : ∃ m : Nat, d = .int (m : Nat) ∧ 5 ≤ m ∧ m ≤ 11 := by
      simp only [List.mem_cons, List.not_mem_nil, or_false] at hd
      rcases hd with rfl | rfl | rfl | rfl | rfl
      · exact ⟨5, rfl, by decide, by decide⟩
      · exact ⟨5, rfl, by decide, by decide⟩
      · exact ⟨6, rfl, by decide, by decide⟩
      · exact ⟨7, rfl, by decide, by decide⟩
      · exact ⟨11, rfl, by decide, by decide⟩
    obtain ⟨l, rfl, l5, l11⟩ := hd'
    have el : ((l : Nat) : Int).toNat = l := by omega
    refine ⟨_, rfl, by omega, by omega, List.range l, by rw [el]; rfl, rfl, by rw [List.length_range]; omega, fun i _ B => gb_name 3 (fun B => ?_) nd, fun ds hp => ?_⟩
    · refine ev_callR 0 D2 hr <| ea_cons <| EN.ev <| en_lst <| ea_cons <| ev_int <| ea_cons <| ev_int <| ea_cons <| ev_int <| ea_cons <| ev_int <| ea_nil ⟨[.int 1, .int 1, .int 1, .int 2], rfl, by simp, ea_nil ⟨rfl, .inl ⟨_, rfl, by simp, by simp, fun d hd => ⟨rfl, d, rfl, ?_⟩⟩⟩⟩
      simp only [List.mem_cons, List.not_mem_nil, or_false] at hd
      rcases hd with rfl | rfl | rfl | rfl
      · exact ⟨1, by decide, by decide, rfl⟩
      · exact ⟨1, by decide, by decide, rfl⟩
      · exact ⟨1, by decide, by decide, rfl⟩
      · exact ⟨2, by decide, by decide, rfl⟩
    obtain ⟨hs, hp1, hl, rfl⟩ := ints_of hp
    rw [List.length_range] at hl
    refine ⟨_, _, rfl, rfl, by rw [List.length_map]; simp; omega, ea_nil ⟨rfl, _, rfl, by rw [List.length_append, List.length_map]; simp; omega, fun es he => ?_⟩⟩
    obtain ⟨L', rfl, hpm⟩ := perm_mapG he (2 :: hs) rfl
    exact ⟨rfl, q L' (yard_perm hpm (yard_cons (by decide) hp1 (by omega) (by omega)))⟩
  refine ss_nil <| ss_cons <| ss_if <| et_eqI <| ev_var 2 rfl <| ev_int ⟨_, _, rfl, rfl, ite2 (fun c => ?_) fun c => ?_⟩
  · refine ss_one <| ss_ret <| EN.ev <| en_mpR (ix := [3]) (fun (_ : Nat) d => HtD d) (fun i => .int (0 + (i : Nat))) [("_law_turn", 3)] rfl nd <| ie_range1 T.range <| ev_var 1 rfl ⟨_, rfl, by omega, by omega, List.range m, by rw [en]; rfl, rfl, by rw [List.length_range]; omega, fun i _ B => gb_name 3 (fun B => ?_) nd, fun ds hp => ?_⟩
    · exact ev_add <| ev_int <| ev_callR 0 D1 (hr.mono (by decide)) <| ea_cons <| ev_int <| ea_nil ⟨rfl, _, rfl, by decide, by decide, fun r hr2 => ⟨_, _, rfl, rfl, rfl, _, rfl, _, by omega, by omega, rfl⟩⟩
    obtain ⟨hs, hp1, hl, rfl⟩ := ints_of hp
    rw [List.length_range] at hl
    exact ⟨rfl, q hs ⟨by omega, by omega, hp1⟩⟩
  refine ss_nil <| ss_cons <| ss_if <| et_lt <| ev_var 2 rfl <| ev_int ⟨_, _, rfl, rfl, ite2 (fun c => ?_) fun c => ?_⟩
  · refine ss_one <| ss_ret <| EN.ev <| en_mpR (ix := [3]) (fun (_ : Nat) d => HtD d) (fun i => .int (0 + (i : Nat))) [("_law_turn", 3)] rfl nd <| ie_range1 T.range <| ev_var 1 rfl ⟨_, rfl, by omega, by omega, List.range m, by rw [en]; rfl, rfl, by rw [List.length_range]; omega, fun i _ B => gb_name 3 (fun B => ?_) nd, fun ds hp => ?_⟩
    · exact ev_add <| ev_int <| ev_callR 0 D1 (hr.mono (by decide)) <| ea_cons <| ev_int <| ea_nil ⟨rfl, _, rfl, by decide, by decide, fun r hr2 => ⟨_, _, rfl, rfl, rfl, _, rfl, _, by omega, by omega, rfl⟩⟩
    obtain ⟨hs, hp1, hl, rfl⟩ := ints_of hp
    rw [List.length_range] at hl
    exact ⟨rfl, q hs ⟨by omega, by omega, hp1⟩⟩
  refine ss_nil <| ss_cons <| ss_set 4 (EN.ec <| en_cat <| EN.ev <| en_lst <| ea_cons <| ev_add <| ev_int <| ev_callR 0 D1 (hr.mono (by decide)) <| ea_cons <| ev_int <| ea_nil ⟨rfl, _, rfl, by decide, by decide, fun r hr2 => ⟨_, _, rfl, rfl, ea_nil ⟨[.int (2 + (r : Nat))], rfl, by simp, ?_⟩⟩⟩) nd
  refine EN.ev <| en_mpR (ix := [3]) (fun (_ : Nat) d => HtD d) (fun i => .int (0 + (i : Nat))) [("_law_turn", 3)] rfl nd <| ie_range1 T.range <| ev_sub <| ev_var 1 rfl <| ev_int ⟨_, _, rfl, rfl, _, rfl, by omega, by omega, List.range (m - 1), ?_, rfl, by rw [List.length_range]; omega, fun i _ B => gb_name 3 (fun B => ?_) nd, fun ds hp => ?_⟩
  · have e2 : (((m : Nat) : Int) - 1).toNat = m - 1 := by omega
    rw [e2]
    rfl
  · exact ev_add <| ev_int <| ev_callR 0 D1 (hr.mono (by decide)) <| ea_cons <| ev_int <| ea_nil ⟨rfl, _, rfl, by decide, by decide, fun r hr2 => ⟨_, _, rfl, rfl, rfl, _, rfl, _, by omega, by omega, rfl⟩⟩
  obtain ⟨hs, hp1, hl, rfl⟩ := ints_of hp
  rw [List.length_range] at hl
  refine ⟨_, _, rfl, rfl, by rw [List.length_map]; simp; omega, ?_⟩
  refine ss_one <| ss_ret <| ev_callR 0 D3 hr <| ea_cons <| ev_take 4 rfl <| ea_nil ⟨rfl, _, rfl, by rw [List.length_append, List.length_map]; simp; omega, fun es he => ?_⟩
  obtain ⟨L', rfl, hpm⟩ := perm_mapG he ((2 + ((r : Nat) : Int)) :: hs) rfl
  exact ⟨rfl, q L' (yard_perm hpm (yard_cons (by omega) hp1 (by omega) (by omega)))⟩
end
end W63
end PartLR5
section PartLR6
set_option maxRecDepth 100000
set_option maxHeartbeats 4000000
namespace W63
open PySem PySem.Spec PyProof.Rows L2 DL
theorem erase_filter : ∀ {l : List Str} {j : Nat} (h : j < l.length), l.Nodup → l.eraseIdx j = l.filter fun x => decide (x ≠ l[j])
  | x :: l, 0, h, nd => by
    obtain ⟨n1, n2⟩ := List.nodup_cons.mp nd
    show l = (x :: l).filter fun y => decide (y ≠ x)
    rw [List.filter_cons, if_neg (by simp)]
    refine (List.filter_eq_self.mpr fun y hy => ?_).symm
    have : y ≠ x := fun z => n1 (z ▸ hy)
    simpa using this
  | x :: l, j + 1, h, nd => by
    obtain ⟨n1, n2⟩ := List.nodup_cons.mp nd
    have h2 : j < l.length := by simpa using h
    have ih := erase_filter h2 n2
    show x :: l.eraseIdx j = (x :: l).filter fun y => decide (y ≠ l[j])
    have xj : x ≠ l[j] := fun z => n1 (by rw [z]; exact List.getElem_mem h2)
    rw [List.filter_cons, if_pos (by simpa using xj), ih]
theorem map_erase {α β : Type} (g : α → β) : ∀ (l : List α) (j : Nat), (l.map g).eraseIdx j = (l.eraseIdx j).map g
  | [], _ => rfl
  | _ :: _, 0 => rfl
  | x :: l, j + 1 => by
    show g x :: (l.map g).eraseIdx j = g x :: (l.eraseIdx j).map g
    rw [map_erase g l j]
theorem names_lay : ∀ {L : List Str}, (∀ x ∈ L, NameOk x) → PyData.canLayAll0 (L.map PyData.str) = true
  | [], _ => rfl
  | x :: L, h => by
    show (PyData.strOk x && PyData.canLayAll0 (L.map PyData.str)) = true
    rw [strOk_name (h x List.mem_cons_self), names_lay fun y hy => h y (List.mem_cons_of_mem _ hy)]
    rfl
theorem names_depth : ∀ L : List Str, PyData.depthAll (L.map PyData.str) ≤ 1
  | [] => Nat.zero_le _
  | x :: L => by
    have := names_depth L
    simp only [List.map_cons, PyData.depthAll, PyData.depth]
    omega
theorem names_shaped {L : List Str} (h : ∀ x ∈ L, NameOk x) : SeqAt.shaped (.list (L.map PyData.str)) = true := by
  unfold SeqAt.shaped
  rw [Bool.and_eq_true]
  have := names_depth L
  refine ⟨names_lay h, decide_eq_true ?_⟩
  simp only [PyData.depth]
  omega
/-- what _law_part makes -/
structure PartIs (L : List Str) (most room : Int) (evs : List Evt) : Prop where
  val : Val evs
  room : ∀ k, ((thr (evs.take k)).length : Int) ≤ room
  mem : ∀ e ∈ evs, e.2 ∈ L
  len : (evs.length : Int) ≤ most
  fst : 0 < most → ∃ x rest, evs = (("in", x) : Evt) :: rest
/-- .. and on the way -/
structure PartW (L : List Str) (room : Int) (i : Nat) (evs : List Evt) (lf : List Str) : Prop where
  val : Val evs
  room : ∀ k, ((thr (evs.take k)).length : Int) ≤ room
  mem : ∀ e ∈ evs, e.2 ∈ L
  len : evs.length ≤ i
  fst : (i = 0 ∧ evs = []) ∨ ∃ x rest, evs = (("in", x) : Evt) :: rest
  eq : L = lf ++ (came evs).reverse
theorem take_snoc_cases {α : Type} {l : List α} {e : α} (k : Nat) : (l ++ [e]).take k = l.take k ∨ (l ++ [e]).take k = l ++ [e] := by
  by_cases c : k ≤ l.length
  · exact .inl (List.take_append_of_le_length c)
  · exact .inr (List.take_of_length_le (by rw [List.length_append, List.length_singleton]; omega))
theorem PartW.inn {L : List Str} {room : Int} {i : Nat} {evs : List Evt} {lf : List Str} {b : Str} (nd : L.Nodup) (h : PartW L room i evs (lf ++ [b])) (hr : ((thr evs).length : Int) < room) : PartW L room (i + 1) (evs ++ [(("in", b) : Evt)]) lf := by
  have e0 := h.eq
  have nb : b ∉ came evs := fun z => by
    rw [e0, List.nodup_append] at nd
    exact nd.2.2 b (by simp) b (by simpa using z) rfl
  refine ⟨.inn h.val nb, fun k => ?_, fun e he => ?_, ?_, .inr ?_, ?_⟩
  · rcases take_snoc_cases (l := evs) (e := (("in", b) : Evt)) k with z | z
    · rw [z]; exact h.room k
    · rw [z, thr_snoc, stp_in, List.length_append, List.length_singleton]; omega
  · rcases List.mem_append.mp he with he | he
    · exact h.mem e he
    · rw [List.mem_singleton.mp he, e0]
      simp
  · rw [List.length_append, List.length_singleton]; have := h.len; omega
  · rcases h.fst with ⟨_, rfl⟩ | ⟨x, rest, rfl⟩
    · exact ⟨b, [], rfl⟩
    · exact ⟨x, rest ++ [(("in", b) : Evt)], rfl⟩
  · rw [came_snoc, if_pos rfl, List.reverse_append, List.reverse_singleton, e0, List.append_assoc]
theorem PartW.out {L : List Str} {room : Int} {i : Nat} {evs : List Evt} {lf : List Str} {b : Str} (h : PartW L room i evs lf) (hb : b ∈ thr evs) : PartW L room (i + 1) (evs ++ [(("out", b) : Evt)]) lf := by
  refine ⟨.out h.val hb, fun k => ?_, fun e he => ?_, ?_, .inr ?_, ?_⟩
  · rcases take_snoc_cases (l := evs) (e := (("out", b) : Evt)) k with z | z
    · rw [z]; exact h.room k
    · have h1 := h.room evs.length
      rw [List.take_length] at h1
      rw [z, thr_snoc, stp_out]
      have := List.length_filter_le (fun x => decide (x ≠ b)) (thr evs)
      omega
  · rcases List.mem_append.mp he with he | he
    · exact h.mem e he
    · rw [List.mem_singleton.mp he, h.eq]
      have := ((h.val.facts.2.2.2.1 b).mp hb).1
      simp [this]
  · rw [List.length_append, List.length_singleton]; have := h.len; omega
  · rcases h.fst with ⟨_, rfl⟩ | ⟨x, rest, rfl⟩
    · cases hb
    · exact ⟨x, rest ++ [(("out", b) : Evt)], rfl⟩
  · rw [came_snoc, if_neg ne_out, List.append_nil]
    exact h.eq
theorem PartW.skip {L : List Str} {room : Int} {i : Nat} {evs : List Evt} {lf : List Str} (h : PartW L room i evs lf) (hn : evs ≠ []) : PartW L room (i + 1) evs lf :=
  ⟨h.val, h.room, h.mem, by have := h.len; omega, .inr (by rcases h.fst with ⟨_, z⟩ | z; exact absurd z hn; exact z), h.eq⟩
section
variable {P : Program} {w : World} {K : PySem.W.Frag} {mg : Str → Option Value} {base : Heap} {f : Addr} {fd : FuncData}
abbrev s_lpart : Stmt := top 58
theorem sc_lpart : FnScope ["_law_heap_here", "_law_names_here", "_law_most", "_law_room", "_law_events", "_law_there", "_law_left", "_law_turn"] ["_law_heap_here", "_law_names_here", "_law_most", "_law_room"] (defScope s_lpart) := ⟨rfl, rfl, rfl, by decide +kernel, rfl, by decide +kernel, by decide +kernel⟩
def w_part : Wp := fun as Ψ => ∃ (L : List Str) (most room : Int), as = [.d (.list (L.map .str)), .d (.int most), .d (.int room)] ∧ L ≠ [] ∧ L.Nodup ∧ (∀ x ∈ L, NameOk x) ∧ L.length ≤ 1000 ∧ 0 ≤ most ∧ most ≤ 1000 ∧ 1 ≤ room ∧ ∀ evs, PartIs L most room evs → Ψ (.d (ttD evs))
theorem ok_part (F : Fun K "_law_part" "_law_part" s_lpart f fd) (T : Bl mg) (D1 : DefOk P w K mg base CX0 "_law_draw" 1 ["_law_heap_here", "_law_many"] (spR K w_draw)) (D2 : DefOk P w K mg base CX0 "_law_pick" 2 ["_law_heap_here", "_law_some"] (spR K w_pick)) :
    FnOk P w K mg base CX0 3 f fd ["_law_heap_here", "_law_names_here", "_law_most", "_law_room"] (spR K w_part) := by
  refine fnR F sc_lpart (fun as Ψ ⟨_, _, _, e, _⟩ => by rw [e]; rfl) (fun cdv A outer s H E as Ψ hh cc hr ⟨L, most, room, e, L0, Lnd, Lok, Ll, m0, m1, r1, q⟩ => ?_)
  subst e
  have nd := sc_lpart.nd
  refine ss_cons <| ss_par3 4 5 6 (by decide) (by decide) (by decide) rfl nd (EN.ec <| en_lst <| ea_nil ⟨[], rfl, by simp, EN.ec <| en_lst <| ea_nil ⟨[], rfl, by simp, EN.ec <| en_list T.list <| ev_var 1 rfl ⟨_, .inl rfl, ?_⟩⟩⟩)
  refine ss_cons <| ss_for (ix := [7]) PassesOwn.never rfl <| ie_range1 T.range <| ev_var 2 rfl ⟨_, rfl, by omega, by omega, fun i ρ => ∃ (evs : List Evt) (lf : List Str) (x7 : Option Cell), PartW L room i evs lf ∧
    ρ = [some (.rnd hh cc), some (.p (.d (.list (L.map .str)))), some (.p (.d (.int most))), some (.p (.d (.int room))), some (.own (evs.map evD)), some (.own ((thr evs).map .str)), some (.own (lf.map .str)), x7],
    ⟨[], L, none, ⟨.nil, fun k => by rw [List.take_nil]; show ((0 : Nat) : Int) ≤ room; omega, fun e he => (nomatch he), Nat.le_refl _, .inl ⟨rfl, rfl⟩, by rw [came_nil]; simp⟩, rfl⟩, ?_, ?_⟩
  · rintro i x ρ hx ⟨evs, lf, x7, pw, rfl⟩
    have hi := (List.getElem?_eq_some_iff.mp hx).1
    rw [rangeD_len] at hi
    have el := pw.len
    have tl := thr_len evs
    have nm : ∀ b ∈ thr evs, NameOk b := fun b hb => Lok b (by rw [pw.eq]; have := ((pw.val.facts.2.2.2.1 b).mp hb).1; simp [this])
    have nl : ∀ b ∈ lf, NameOk b := fun b hb => Lok b (by rw [pw.eq]; simp [hb])
    refine gb_name 7 ?_ nd
    generalize hρ : ([some (.rnd hh cc), some (.p (.d (.list (L.map .str)))), some (.p (.d (.int most))), some (.p (.d (.int room))), some (.own (evs.map evD)), some (.own ((thr evs).map .str)), some (.own (lf.map .str)), some (.p (.d x))] : Ev) = ρ0
    refine ss_one <| ss_if <| ET.mono (Q := fun b ρ1 => ρ1 = ρ0 ∧ (b = true → lf ≠ [] ∧ ((thr evs).length : Int) < room) ∧ (evs = [] → b = true)) ?_ ?_
    · have ne0 : evs = [] → lf ≠ [] := fun z z2 => by
        have := pw.eq
        rw [z, z2, came_nil] at this
        exact L0 this
      subst hρ
      refine EW.et <| ew_and <| et_neNilO 6 hr (names_shaped nl) (ite2 (fun c => ?_) fun c => ?_)
      · have c' : lf ≠ [] := fun z => of_decide_eq_true c (by rw [z]; rfl)
        refine ew_and <| et_lt <| ev_lenO 5 T.len <| ev_var 3 rfl ⟨_, _, rfl, rfl, ?_⟩
        rw [List.length_map]
        refine ite2 (fun d => ?_) fun d => ?_
        · have d' : ((thr evs).length : Int) < room := of_decide_eq_true d
          refine ew_and1 <| EW.et <| ew_or <| et_eqNilO 5 hr (names_shaped nm) (ite2 (fun g => ?_) fun g => ?_)
          · exact ⟨rfl, fun _ => ⟨c', d'⟩, fun _ => rfl⟩
          · have ne : evs ≠ [] := fun z => g (decide_eq_true (by rw [z]; rfl))
            refine ew_or1 <| et_gt <| ev_callR 0 D1 (hr.mono (by decide)) <| ea_cons <| ev_int <| ea_nil ⟨rfl, _, rfl, by decide, by decide, fun r _ => ev_int ⟨_, _, rfl, rfl, rfl, fun _ => ⟨c', d'⟩, fun z => absurd z ne⟩⟩
        · refine ⟨rfl, fun z => (nomatch z), fun z => ?_⟩
          exfalso
          rw [z] at d
          exact d (decide_eq_true (show ((0 : Nat) : Int) < room by omega))
      · refine ⟨rfl, fun z => (nomatch z), fun z => ?_⟩
        have z2 : lf.map PyData.str ≠ [] := fun y => ne0 z (by simpa using y)
        exact (c (by simpa using z2)).elim
    · rintro b ρ1 ⟨rfl, hb1, hb2⟩
      subst hρ
      cases b with
      | true =>
        obtain ⟨h1, h2⟩ := hb1 rfl
        obtain ⟨lf', bx, rfl⟩ := snoc_of h1
        refine iteT <| ss_cons <| ss_app 5 <| ev_pop 6 (ds := (lf' ++ [bx]).map .str) (d := .str bx) (by rw [List.map_append]; simp) ⟨_, (thr evs).map .str, rfl, rfl, by rw [List.length_map]; omega, ?_⟩
        have ed : ((lf' ++ [bx]).map PyData.str).dropLast = lf'.map .str := by rw [List.map_append]; exact List.dropLast_concat
        rw [ed]
        have pw2 := pw.inn Lnd h2
        have et : (thr evs).map PyData.str ++ [.str bx] = (thr (evs ++ [(("in", bx) : Evt)])).map .str := by rw [thr_snoc, stp_in, List.map_append]; rfl
        refine ss_one <| ss_app 4 <| ev_tup <| ea_cons <| ev_str <| ea_cons <| ev_ixO (ds := (thr evs).map PyData.str ++ [.str bx]) 5 <| ev_neg <| ev_int ⟨1, rfl, -1, (thr evs).map PyData.str ++ [.str bx], .str bx, rfl, rfl, ?_, ea_nil ⟨[.str "in", .str bx], rfl, by simp, evD ("in", bx), evs.map evD, rfl, rfl, by rw [List.length_map]; omega, evs ++ [(("in", bx) : Evt)], lf', some (.p (.d x)), pw2, ?_⟩⟩
        · unfold atI ixN
          rw [List.length_append, List.length_singleton, if_neg (by omega), if_pos (by omega)]
          have e : ((-1 : Int) + ((((thr evs).map PyData.str).length + 1 : Nat) : Int)).toNat = ((thr evs).map PyData.str).length := by omega
          show ((thr evs).map PyData.str ++ [.str bx])[((-1 : Int) + ((((thr evs).map PyData.str).length + 1 : Nat) : Int)).toNat]? = _
          rw [e, List.getElem?_append_right (Nat.le_refl _), Nat.sub_self]
          rfl
        · rw [← et, List.map_append (l₁ := evs)]
          rfl
      | false =>
        have ne : evs ≠ [] := fun z => Bool.false_ne_true (hb2 z)
        refine iteF <| ss_one <| ss_if <| et_neNilO 5 hr (names_shaped nm) (ite2 (fun c => ?_) fun c => ?_)
        · have c' : thr evs ≠ [] := fun z => of_decide_eq_true c (by rw [z]; rfl)
          have tp : 0 < (thr evs).length := List.length_pos_iff.mpr c'
          refine ss_one <| ss_app 4 <| ev_tup <| ea_cons <| ev_str <| ea_cons <| ev_popAt 5 <| ev_callR 0 D2 hr <| ea_cons <| EN.ev <| en_lst <| ea_cons <| ev_int <| ea_cons <| ev_int <| ea_cons <| ev_sub <| ev_lenO (ds := (thr evs).map .str) 5 T.len <| ev_int ⟨_, _, rfl, rfl, ea_cons <| ev_callR 0 D1 (hr.mono (by decide)) <| ea_cons <| ev_lenO (ds := (thr evs).map .str) 5 T.len ?_⟩
          rw [List.length_map]
          refine ea_nil ⟨rfl, _, rfl, by omega, by omega, fun r hr2 => ea_nil ⟨[.int 0, .int 0, .int (((thr evs).length : Nat) - 1), .int (r : Nat)], rfl, by simp, ea_nil ⟨rfl, .inl ⟨_, rfl, by simp, by simp, fun d hd => ?_⟩⟩⟩⟩
          have hd' : ∃ j : Nat, d = .int (j : Nat) ∧ j < (thr evs).length := by
            simp only [List.mem_cons, List.not_mem_nil, or_false] at hd
            rcases hd with rfl | rfl | rfl | rfl
            · exact ⟨0, rfl, tp⟩
            · exact ⟨0, rfl, tp⟩
            · refine ⟨(thr evs).length - 1, ?_, by omega⟩
              rw [show (((thr evs).length : Nat) : Int) - 1 = (((thr evs).length - 1 : Nat) : Int) by omega]
            · exact ⟨r, rfl, by omega⟩
          obtain ⟨j, rfl, hj⟩ := hd'
          have hb : (thr evs)[j] ∈ thr evs := List.getElem_mem hj
          have pw2 := pw.out hb
          refine ⟨j, .str (thr evs)[j], (thr evs).map .str, rfl, rfl, by rw [List.length_map]; omega, by rw [List.getElem?_map, List.getElem?_eq_getElem hj]; rfl, ea_nil ⟨[.str "out", .str (thr evs)[j]], rfl, by simp, evD ("out", (thr evs)[j]), evs.map evD, rfl, rfl, by rw [List.length_map]; omega, evs ++ [(("out", (thr evs)[j]) : Evt)], lf, some (.p (.d x)), pw2, ?_⟩⟩
          have et : ((thr evs).map PyData.str).eraseIdx j = (thr (evs ++ [(("out", (thr evs)[j]) : Evt)])).map .str := by rw [thr_snoc, stp_out, map_erase, erase_filter hj pw.val.facts.2.1]
          rw [et, List.map_append (l₁ := evs)]
          rfl
        · exact ss_nil ⟨evs, lf, some (.p (.d x)), pw.skip ne, rfl⟩
  · rintro ρ ⟨evs, lf, x7, pw, rfl⟩
    rw [rangeD_len] at pw
    refine ss_one <| ss_ret <| ev_tuple T.tuple <| ev_take 4 rfl ⟨_, .inl rfl, rfl, q evs ⟨pw.val, pw.room, pw.mem, by have := pw.len; omega, fun h => ?_⟩⟩
    rcases pw.fst with ⟨z, _⟩ | z
    · omega
    · exact z
end
end W63
end PartLR6
section PartDN12
set_option maxRecDepth 100000
set_option maxHeartbeats 2000000
/-! DN12: a list of two lists of one's own, either of which bears a second name. -/
namespace DL
open PySem PySem.Spec PyProof.Rows L2
def twoC (a : Addr) (r : Bool → Addr) (L : Bool → List D) : CRel where
  ok := fun F H v as => as = [a, r false, r true] ∧ v = .ref a ∧ H a = some (.lst [.ref (r false), .ref (r true)]) ∧ (∀ b, a ≠ r b) ∧ r false ≠ r true ∧ ∀ b, RowIs F H (r b) (L b)
  st := fun e k h => by
    obtain ⟨rfl, h2, h3, h4, h5, h6⟩ := h
    exact ⟨rfl, h2, (k _ (by simp)).trans h3, h4, h5, fun b => (h6 b).same e (k _ (by cases b <;> simp))⟩
abbrev c2 (a : Addr) (r : Bool → Addr) (L : Bool → List D) : Option Cell := some (.cust (twoC a r L))
section
variable {K : PySem.W.Frag} {Γ : Anc} {ρ : Ev} {fp : Nat → List Addr} {F H : Hp} {σ : L2.St}
theorem two_at (t : Stt K Γ ρ fp F σ H) {i : Nat} {a : Addr} {r : Bool → Addr} {L : Bool → List D} (h : ρ[i]? = some (c2 a r L)) : fp i = [a, r false, r true] ∧ σ[i]? = some (some (.ref a)) ∧ H a = some (.lst [.ref (r false), .ref (r true)]) ∧ (∀ b, a ≠ r b) ∧ r false ≠ r true ∧ (∀ b, RowIs F H (r b) (L b)) ∧ i < ρ.length := by
  obtain ⟨v, hv, has, rfl, h1, h2, h3, h4⟩ := t.cells i _ h
  exact ⟨has, hv, h1, h2, h3, h4, (List.getElem?_eq_some_iff.mp h).1⟩
theorem two_wr (t : Stt K Γ ρ fp F σ H) {i : Nat} {a : Addr} {r : Bool → Addr} {L : Bool → List D} (h : ρ[i]? = some (c2 a r L)) (s : Bool) {vs : List V} {ds : List D} (d : DqAll F vs ds) : Stt K Γ (ρ.set i (c2 a r fun b => if b = s then ds else L b)) fp F σ (upd H (r s) (.lst vs)) := by
  obtain ⟨has, hv, h1, h2, h3, h4, hl⟩ := two_at t h
  refine t.wrAt (a := r s) (c := .cust (twoC a r fun b => if b = s then ds else L b)) (by rw [has]; cases s <;> simp) hv hl ⟨has, rfl, (upd_ne (h2 s)).trans h1, h2, h3, fun b => ?_⟩
  show RowIs F (upd H (r s) (.lst vs)) (r b) (if b = s then ds else L b)
  by_cases c : b = s
  · subst c
    rw [if_pos rfl]
    exact ⟨vs, upd_same, d⟩
  · rw [if_neg c]
    have n : r b ≠ r s := by
      cases b <;> cases s
      · exact absurd rfl c
      · exact h3
      · exact fun z => h3 z.symm
      · exact absurd rfl c
    exact (h4 b).same (Same.refl _) (upd_ne n)
end
section
variable {X : Cx} {ρ : Ev} {pos p p1 p2 : Pos} {a b e : Expr} {x : Str} {R : Rt} {Q : P → Ev → Prop} {Qc : Cell → Ev → Prop} {sts : List Stmt} {aa : Addr} {r : Bool → Addr} {L : Bool → List D}
/-- [xs, ys], both new -/
theorem ec_two (h : EN X a ρ fun ds ρ1 => EN X b ρ1 fun es ρ2 => ∀ aa r, Qc (.cust (twoC aa r fun b => if b = true then es else ds)) ρ2)
    (he : starEach [a, b] X.env = (false, eval a X.env) :: starEach [b] X.env := by rfl) (he2 : starEach [b] X.env = (false, eval b X.env) :: starEach [] X.env := by rfl) : EC X (.List [a, b] pos) ρ Qc := fun Γ fp F σ H Φ t k pins s I =>
  (pe_lst (pa_cons pe_w (pa_cons pe_w pa_nil he2) he)).run pins s σ H Φ I (h Γ fp F σ H _ t fun a1 vs F1 H1 ds ρ1 fp1 t1 f1 n1 n2 r n3 n4 h1 => h1 _ fp1 F1 σ H1 _ t1.here fun a2 ws F2 H2 es ρ2 fp2 t2 f2 m1 m2 r2 m3 m4 q => by
    obtain ⟨k1, k2, k3⟩ := t2.kept n2 n1 n4
    have t3 := t1.back t2
    have m3' : H1 a2 = none := m3
    have ne : a1 ≠ a2 := fun z => by rw [z, m3'] at n2; cases n2
    refine ⟨by show 2 ≤ sizeLine; exact small5 (by omega), fun p hp => ?_⟩
    have pa : p ≠ a1 := fun z => by rw [z, k1] at hp; cases hp
    have pb : p ≠ a2 := fun z => by rw [z, m2] at hp; cases hp
    have g := Gr.lay (o := .lst [.ref a1, .ref a2]) t3.ex hp
    have up : ∀ {z : Addr}, H2 z = none → Γ.H z = none := fun {z} e1 => by
      cases qq : Γ.H z with
      | none => rfl
      | some ob => exact absurd e1 (t3.thr z (by rw [qq]; simp))
    have up1 : Γ.H a2 = none := by
      cases qq : Γ.H a2 with
      | none => rfl
      | some ob => exact absurd m3' (t1.thr a2 (by rw [qq]; simp))
    refine k (.ref p) F2 _ (.cust (twoC p (fun b => if b = true then a2 else a1) fun b => if b = true then es else ds)) [p, a1, a2] ρ2 fp2 (t3.grow g) (f1.trans f2) ⟨rfl, rfl, upd_same, fun b => ?_, ne, fun b => ?_⟩ (fun z hz => ?_) (fun z hz j hj => ?_) (q p _)
    · cases b
      · exact pa
      · exact pb
    · cases b
      · exact ⟨vs, (upd_ne (Ne.symm pa)).trans k1, dpAll_same f2 r⟩
      · exact ⟨ws, (upd_ne (Ne.symm pb)).trans m2, r2⟩
    · rcases List.mem_cons.mp hz with rfl | hz
      · exact ⟨none_of t3.ex hp, by rw [upd_same]; simp, up hp⟩
      rcases List.mem_cons.mp hz with rfl | hz
      · exact ⟨k2, by rw [upd_ne (Ne.symm pa), k1]; simp, n3⟩
      · have : z = a2 := by simpa using hz
        subst this
        exact ⟨m1, by rw [upd_ne (Ne.symm pb), m2]; simp, up1⟩
    · rcases List.mem_cons.mp hz with rfl | hz
      · exact (t3.own j z hj).2.1 hp
      rcases List.mem_cons.mp hz with rfl | hz
      · exact k3 j hj
      · have : z = a2 := by simpa using hz
        subst this
        exact m4 j hj)
/-- x[e] -/
theorem ev_twoAt (i : Nat) (h : EV X e ρ fun y ρ1 => ∃ (s : Bool) (L : Bool → List D), y = .d (.int (if s = true then 1 else 0)) ∧ ρ1[i]? = some (c2 aa r L) ∧ Q (.raw (.ref (r s))) ρ1) (h0 : ρ[i]? = some (c2 aa r L) := by rfl)
    (hN : X.N[i]? = some x := by rfl) (hv : Vis X.env.scope x := by first | exact Or.inl rfl | exact Or.inr (Or.inl rfl) | exact Or.inr (Or.inr rfl)) (hd : (x == ("__debug__" : Str)) = false := by decide) (hcd : (x == ("__classdict__" : Str)) = false := by decide)
    (hs : PlainIx e := by exact fun _ _ => rfl) : EV X (.Subscript (.Name x p1) e pos) ρ Q := fun Γ fp F σ H Φ t kk pins s I => by
  obtain ⟨_, hv0, _⟩ := two_at t h0
  refine (pe_ix ix_seq (pe_var hN hv hd hcd) pe_w hs).run pins s σ H Φ I ⟨.ref aa, hv0, h Γ fp F σ H _ t fun w F1 H1 y ρ1 fp1 t1 f1 r1 ⟨s, L1, ey, h1, q⟩ => ?_⟩
  subst ey
  obtain ⟨has, hv1, k1, k2, k3, k4, kl⟩ := two_at t1 h1
  have ew := rep_int r1
  exact .inl ⟨aa, _, _, .ref (r s), rfl, ew, SqL.of k1, by cases s <;> rfl, kk _ F1 H1 (.raw (.ref (r s))) ρ1 fp1 t1 f1 rpR q⟩
/-- y != [], y one of both -/
theorem et_neNilTwo {k0 : Nat} {Qb : Bool → Ev → Prop} (i : Nat) (hr : Room k0 X.A) (h : EV X a ρ fun y ρ1 => ∃ (s : Bool) (L : Bool → List D), y = .raw (.ref (r s)) ∧ ρ1[i]? = some (c2 aa r L) ∧ SeqAt.shaped (.list (L s)) = true ∧ Qb (decide (L s ≠ [])) ρ1)
    (hm : behindInMarks .NotEq (.List [] p2) = false := by first | exact nomark _ | rfl) : ET X (.Compare a [.NotEq] [.List [] p2] pos) ρ Qb := fun Γ fp F σ H Φ t kk pins s I => by
  refine (pt_cmpR (op_neD hr.units) pe_w (pe_lst pa_nil) hm).run pins s σ H Φ I (h Γ fp F σ H _ t fun v F1 H1 y ρ1 fp1 t1 f1 r1 ⟨sd, L1, ey, h1, hsh, q⟩ => ?_)
  subst ey
  have ev : v = .ref (r sd) := r1
  subst ev
  obtain ⟨has, hv1, k1, k2, k3, k4, kl⟩ := two_at t1 h1
  obtain ⟨vs, g1, g2⟩ := k4 sd
  refine ⟨by show 0 ≤ sizeLine; exact Nat.zero_le _, fun p hp => ?_⟩
  have g := Gr.new (o := .lst []) t1.ex hp
  have t2 := t1.grow g
  have e1 : (upd H1 p (.lst [])) (r sd) = some (.lst vs) := by rw [upd_ne (ne_of_none g1 hp)]; exact g1
  refine ⟨.list (L1 sd), .list [], .lst (SqL.of e1) (dpAll_same t2.ex (dpAll_same g.f g2)).dp, .lst (SqL.of upd_same) .nil, hsh, by decide +kernel, _, rfl, ?_⟩
  rw [eqv_nil]
  have e2 : (!decide (L1 sd = [])) = decide (L1 sd ≠ []) := by by_cases c : L1 sd = [] <;> simp [c]
  rw [e2]
  exact kk _ _ _ ρ1 fp1 t2 (f1.trans g.f) q
/-- y.pop(0), y one of both -/
theorem ev_pop0Two (i : Nat) {j0 : Nat} {apos cpos : Pos} (h : EV X a ρ fun y ρ1 => ∃ (s : Bool) (L : Bool → List D) (d : D) (ds : List D), y = .raw (.ref (r s)) ∧ ρ1[i]? = some (c2 aa r L) ∧ L s = d :: ds ∧ ds.length < 1000 ∧ Q (.d d) (ρ1.set i (c2 aa r fun b => if b = s then ds else L b)))
    (hbase : attributeBase a "pop" X.env (eval a X.env) = eval a X.env := by rfl)
    (hfew : ((backTo cpos (starEach [.Constant (.int 0) j0 p] X.env)).all (fun x => !x.1) && (backToKw cpos (keywordEach [] X.env)).all (fun x => x.1.isSome)
      && decide ([Expr.Constant (.int 0) j0 p].length + ([] : List Keyword).length + (if ([] : List Keyword).isEmpty then 0 else 1) < 30)) = true := by rfl)
    (hline : (apos.endLine == cpos.line) = true := by rfl) (hs : starEach [.Constant (.int 0) j0 p] X.env = (false, eval (.Constant (.int 0) j0 p) X.env) :: starEach [] X.env := by rfl) (hplain : (backTo cpos (starEach [] X.env)).any (·.1) = false := by rfl) : EV X (.Call (.Attribute a "pop" apos) [.Constant (.int 0) j0 p] [] cpos) ρ Q := fun Γ fp F σ H Φ t k pins s I =>
  (pe_bm PySem.F.plainAttrs_list PySem.F.slot_list_pop PySem.F.type_list_pop mt_popAt pe_w (pa_cons pe_int pa_nil hs) hbase hfew hline hs hplain).run pins s σ H Φ I (h Γ fp F σ H _ t fun v F1 H1 y ρ1 fp1 t1 f1 r1 ⟨sd, L1, d, ds, ey, h1, hL, hlt, q⟩ => by
    subst ey
    have ev : v = .ref (r sd) := r1
    subst ev
    obtain ⟨has, hv1, k1, k2, k3, k4, kl⟩ := two_at t1 h1
    obtain ⟨vs, g1, g2⟩ := k4 sd
    rw [hL] at g2
    cases g2 with
    | @cons u us _ _ gu gs =>
      refine ⟨.inl ⟨rfl, _, SqL.of g1⟩, r sd, u :: us, 0, 0, u, rfl, rfl, g1, by omega, by omega, ?_, rfl, ?_⟩
      · have q2 : ixN (u :: us).length ((0 : Nat) : Int) = some 0 := by
          unfold ixN
          rw [List.length_cons, if_pos (by omega), if_pos (by omega)]
          rfl
        exact (ixN_seq q2).1
      · exact k u F1 _ (.d d) _ fp1 (two_wr t1 h1 sd gs) f1 gu q)
/-- both, and the list, are fixed from here on -/
theorem sss_twoData (i : Nat) (h : SSs X sts (ρ.set i (some (.p (.d (.list [.list (L false), .list (L true)]))))) R) (h0 : ρ[i]? = some (c2 aa r L) := by rfl) : SSs X sts ρ R := fun Γ fp F σ H D t k => by
  obtain ⟨has, hv1, k1, k2, k3, k4, kl⟩ := two_at t h0
  obtain ⟨v0, g0, d0⟩ := k4 false
  obtain ⟨v1, g1, d1⟩ := k4 true
  have cond : ∀ z ∈ fp i, F z = none ∧ (Γ.S z ∨ Γ.H z = none) ∧ ∀ j, z ∉ fset fp i [] j := fun z hz => by
    obtain ⟨o1, o2, o3⟩ := t.own i z hz
    refine ⟨o1, o3, fun j hj => ?_⟩
    by_cases y : j = i
    · subst y
      rw [fset_same] at hj
      cases hj
    · rw [fset_ne y] at hj
      exact t.sep i j z (Ne.symm y) hz hj
  have ma : aa ∈ fp i := by rw [has]; simp
  have m0 : r false ∈ fp i := by rw [has]; simp
  have m1 : r true ∈ fp i := by rw [has]; simp
  have t1 := t.drop i
  have t2 := t1.freeze g0 (cond _ m0).1 (cond _ m0).2.1 (cond _ m0).2.2
  have f1 : (upd F (r false) (.lst v0)) (r true) = none := (upd_ne (Ne.symm k3)).trans (cond _ m1).1
  have t3 := t2.freeze g1 f1 (cond _ m1).2.1 (cond _ m1).2.2
  have f2 : (upd (upd F (r false) (.lst v0)) (r true) (.lst v1)) aa = none := (upd_ne (k2 true)).trans ((upd_ne (k2 false)).trans (cond _ ma).1)
  have t4 := t3.freeze k1 f2 (cond _ ma).2.1 (cond _ ma).2.2
  have s1 : Same F (upd F (r false) (.lst v0)) := same_new (cond _ m0).1
  have s2 : Same (upd F (r false) (.lst v0)) (upd (upd F (r false) (.lst v0)) (r true) (.lst v1)) := same_new f1
  have s3 := same_new (o := .lst [.ref (r false), .ref (r true)]) f2
  have rp : Rep X.K (upd (upd (upd F (r false) (.lst v0)) (r true) (.lst v1)) aa (.lst [.ref (r false), .ref (r true)])) (.ref aa) (.d (.list [.list (L false), .list (L true)])) :=
    Dq.lst upd_same (.cons (.lst (s3 _ _ (s2 _ _ upd_same)) (dpAll_same ((s1.trans s2).trans s3) d0)) (.cons (.lst (s3 _ _ upd_same) (dpAll_same ((s1.trans s2).trans s3) d1)) .nil))
  have t5 := t4.setP i (v := .ref aa) rp
  have e1 : (ρ.set i none).set i (some (Cell.p (.d (.list [.list (L false), .list (L true)])))) = ρ.set i (some (.p (.d (.list [.list (L false), .list (L true)])))) := by rw [List.set_set]
  have e2 : σ.set i (some (V.ref aa)) = σ := by
    apply List.ext_getElem?
    intro j
    by_cases z : i = j
    · subst z
      rw [List.getElem?_set_self (by rw [t.len]; exact kl), hv1]
    · rw [List.getElem?_set_ne z]
  rw [e1, e2] at t5
  exact h Γ _ _ σ H D t5 k
end
end DL
end PartDN12
section PartM5
set_option maxRecDepth 100000
set_option maxHeartbeats 2000000
/-! M5: weaves, plain. -/
namespace W63
open PySem PySem.Spec PyProof.Rows L2 DL
/-- w is woven of the first a events of one and the first b of other -/
inductive Wv (one other : List Evt) : List Evt → Nat → Nat → Prop
  | nil : Wv one other [] 0 0
  | l {w : List Evt} {a b : Nat} {e : Evt} : Wv one other w a b → one[a]? = some e → Wv one other (w ++ [e]) (a + 1) b
  | r {w : List Evt} {a b : Nat} {e : Evt} : Wv one other w a b → other[b]? = some e → Wv one other (w ++ [e]) a (b + 1)
section
variable {one other : List Evt}
theorem Wv.bd {w : List Evt} {a b : Nat} (h : Wv one other w a b) : a ≤ one.length ∧ b ≤ other.length ∧ w.length = a + b := by
  induction h with
  | nil => exact ⟨Nat.zero_le _, Nat.zero_le _, rfl⟩
  | l _ he ih =>
    have := (List.getElem?_eq_some_iff.mp he).1
    rw [List.length_append, List.length_singleton]
    omega
  | r _ he ih =>
    have := (List.getElem?_eq_some_iff.mp he).1
    rw [List.length_append, List.length_singleton]
    omega
/-- one goes on -/
theorem Wv.onL : ∀ (n : Nat) {w : List Evt} {a b : Nat}, Wv one other w a b → Wv one other (w ++ (one.drop a).take n) (min (a + n) one.length) b
  | 0, w, a, b, h => by
    have := h.bd
    rw [List.take_zero, List.append_nil, Nat.add_zero, Nat.min_eq_left (by omega)]
    exact h
  | n + 1, w, a, b, h => by
    by_cases c : a < one.length
    · have h2 := Wv.onL n (h.l (List.getElem?_eq_getElem c))
      rw [List.drop_eq_getElem_cons c, List.take_succ_cons]
      rw [List.append_assoc, show a + 1 + n = a + (n + 1) by omega] at h2
      exact h2
    · have := h.bd
      rw [List.drop_eq_nil_of_le (by omega), List.take_nil, List.append_nil, Nat.min_eq_right (by omega), show one.length = a by omega]
      exact h
theorem Wv.onR : ∀ (n : Nat) {w : List Evt} {a b : Nat}, Wv one other w a b → Wv one other (w ++ (other.drop b).take n) a (min (b + n) other.length)
  | 0, w, a, b, h => by
    have := h.bd
    rw [List.take_zero, List.append_nil, Nat.add_zero, Nat.min_eq_left (by omega)]
    exact h
  | n + 1, w, a, b, h => by
    by_cases c : b < other.length
    · have h2 := Wv.onR n (h.r (List.getElem?_eq_getElem c))
      rw [List.drop_eq_getElem_cons c, List.take_succ_cons]
      rw [List.append_assoc, show b + 1 + n = b + (n + 1) by omega] at h2
      exact h2
    · have := h.bd
      rw [List.drop_eq_nil_of_le (by omega), List.take_nil, List.append_nil, Nat.min_eq_right (by omega), show other.length = b by omega]
      exact h
/-- both to their ends -/
theorem Wv.tail {w : List Evt} {a b : Nat} (h : Wv one other w a b) : Wv one other (w ++ one.drop a ++ other.drop b) one.length other.length := by
  have b1 := h.bd
  have h1 := h.onL (one.length - a)
  rw [List.take_of_length_le (by rw [List.length_drop]; omega), show a + (one.length - a) = one.length by omega, Nat.min_self] at h1
  have h2 := h1.onR (other.length - b)
  rw [List.take_of_length_le (by rw [List.length_drop]; omega), show b + (other.length - b) = other.length by omega, Nat.min_self] at h2
  exact h2
/-- each beginning is one -/
theorem Wv.pre {w : List Evt} {a b : Nat} (h : Wv one other w a b) : ∀ k, k ≤ w.length → ∃ a' b', Wv one other (w.take k) a' b' ∧ a' ≤ a ∧ b' ≤ b := by
  induction h with
  | nil => intro k _; rw [List.take_nil]; exact ⟨0, 0, .nil, Nat.le_refl _, Nat.le_refl _⟩
  | @l w a b e h he ih =>
    intro k hk
    rw [List.length_append, List.length_singleton] at hk
    by_cases c : k ≤ w.length
    · rw [List.take_append_of_le_length c]
      obtain ⟨a', b', h1, h2, h3⟩ := ih k c
      exact ⟨a', b', h1, by omega, h3⟩
    · rw [List.take_of_length_le (by rw [List.length_append, List.length_singleton]; omega)]
      exact ⟨_, _, h.l he, Nat.le_refl _, Nat.le_refl _⟩
  | @r w a b e h he ih =>
    intro k hk
    rw [List.length_append, List.length_singleton] at hk
    by_cases c : k ≤ w.length
    · rw [List.take_append_of_le_length c]
      obtain ⟨a', b', h1, h2, h3⟩ := ih k c
      exact ⟨a', b', h1, h2, by omega⟩
    · rw [List.take_of_length_le (by rw [List.length_append, List.length_singleton]; omega)]
      exact ⟨_, _, h.r he, Nat.le_refl _, Nat.le_refl _⟩
theorem Wv.mem {w : List Evt} {a b : Nat} (h : Wv one other w a b) : ∀ e ∈ w, e ∈ one ∨ e ∈ other := by
  induction h with
  | nil => intro e he; cases he
  | l _ hx ih =>
    intro e he
    rcases List.mem_append.mp he with he | he
    · exact ih e he
    · rw [List.mem_singleton.mp he]
      exact .inl (List.mem_of_getElem? hx)
  | r _ hx ih =>
    intro e he
    rcases List.mem_append.mp he with he | he
    · exact ih e he
    · rw [List.mem_singleton.mp he]
      exact .inr (List.mem_of_getElem? hx)
/-- beginnings as the law writes them out -/
theorem bgs_wv {n : Nat} {x : Bg} : x ∈ bgs one other n ↔ Wv one other x.1 x.2.1 x.2.2 ∧ x.1.length = n := by
  constructor
  · intro h
    refine ⟨?_, bgs_ev one other n x h⟩
    induction n generalizing x with
    | zero =>
      have : x = ([], 0, 0) := by simpa [bgs] using h
      rw [this]
      exact .nil
    | succ n ih =>
      obtain ⟨y, hy, hx⟩ := List.mem_flatMap.mp h
      have h1 := ih hy
      unfold bgN at hx
      rcases List.mem_append.mp hx with hx | hx
      · cases h2 : one[y.2.1]? with
        | none => rw [h2] at hx; cases hx
        | some e =>
          rw [h2] at hx
          rw [List.mem_singleton.mp hx]
          exact h1.l h2
      · cases h2 : other[y.2.2]? with
        | none => rw [h2] at hx; cases hx
        | some e =>
          rw [h2] at hx
          rw [List.mem_singleton.mp hx]
          exact h1.r h2
  · obtain ⟨w, a, b⟩ := x
    rintro ⟨h0, rfl⟩
    have h : Wv one other w a b := h0
    clear h0
    show (w, a, b) ∈ bgs one other w.length
    induction h with
    | nil => simp [bgs]
    | @l w a b e h he ih =>
      rw [List.length_append, List.length_singleton]
      refine List.mem_flatMap.mpr ⟨_, ih, ?_⟩
      unfold bgN
      rw [he]
      simp
    | @r w a b e h he ih =>
      rw [List.length_append, List.length_singleton]
      refine List.mem_flatMap.mpr ⟨_, ih, ?_⟩
      unfold bgN
      rw [he]
      simp
theorem allW_wv {w : List Evt} : w ∈ allW one other ↔ Wv one other w one.length other.length := by
  unfold allW
  rw [List.mem_map]
  constructor
  · rintro ⟨x, hx, rfl⟩
    obtain ⟨h1, h2⟩ := bgs_wv.mp hx
    have b := h1.bd
    have e1 : x.2.1 = one.length := by omega
    have e2 : x.2.2 = other.length := by omega
    rw [e1, e2] at h1
    exact h1
  · intro h
    exact ⟨(w, one.length, other.length), bgs_wv.mpr ⟨h, h.bd.2.2⟩, rfl⟩
end
end W63
end PartM5
section PartLR7
set_option maxRecDepth 100000
set_option maxHeartbeats 4000000
namespace W63
open PySem PySem.Spec PyProof.Rows L2 DL
/-- what is left of both -/
def lft (one other : List Evt) (p q : Nat) (b : Bool) : List D := if b = true then (other.drop q).map evD else (one.drop p).map evD
theorem evs_shaped {l : List Evt} (h : ∀ e ∈ l, EvOk e) : SeqAt.shaped (.list (l.map evD)) = true := by
  unfold SeqAt.shaped
  rw [Bool.and_eq_true]
  have := evs_depth l
  refine ⟨evs_lay h, decide_eq_true ?_⟩
  simp only [PyData.depth]
  omega
section
variable {P : Program} {w : World} {K : PySem.W.Frag} {mg : Str → Option Value} {base : Heap} {f : Addr} {fd : FuncData}
abbrev s_lsome : Stmt := top 54
theorem sc_lsome : FnScope ["_law_heap_here", "_law_one", "_law_other", "_law_rows", "_law_found", "_law_turn", "_law_left", "_law_step"] ["_law_heap_here", "_law_one", "_law_other"] (defScope s_lsome) := ⟨rfl, rfl, rfl, by decide +kernel, rfl, by decide +kernel, by decide +kernel⟩
def w_lsome : Wp := fun as Ψ => ∃ one other : List Evt, as = [.d (ttD one), .d (ttD other)] ∧ (∀ e ∈ one, EvOk e) ∧ (∀ e ∈ other, EvOk e) ∧ one.length ≤ 30 ∧ other.length ≤ 30 ∧ ∀ W, Wv one other W one.length other.length → Ψ (.d (ttD W))
theorem ok_lsome (F : Fun K "_law_some_weave" "_law_some_weave" s_lsome f fd) (T : Bl mg) (D1 : DefOk P w K mg base CX0 "_law_draw" 1 ["_law_heap_here", "_law_many"] (spR K w_draw)) : FnOk P w K mg base CX0 2 f fd ["_law_heap_here", "_law_one", "_law_other"] (spR K w_lsome) := by
  refine fnR F sc_lsome (fun as Ψ ⟨_, _, e, _⟩ => by rw [e]; rfl) (fun cdv A outer s H E as Ψ hh cc hr ⟨one, other, e, ok1, ok2, l1, l2, q⟩ => ?_)
  subst e
  have nd := sc_lsome.nd
  refine ss_cons <| ss_par 3 4 (by decide) rfl nd (ec_two <| en_list T.list <| ev_var 1 rfl ⟨_, .inr rfl, en_list T.list <| ev_var 2 rfl ⟨_, .inr rfl, fun aa rr => EN.ec <| en_lst <| ea_nil ⟨[], rfl, by simp, ?_⟩⟩⟩)
  refine ss_cons <| ss_for (ix := [5]) PassesOwn.never rfl <| ie_range1 T.range <| ev_add <| ev_len T.len <| ev_var 1 rfl ⟨_, (one.map evD).length, rfl, rfl, ev_len T.len <| ev_var 2 rfl ⟨_, (other.map evD).length, rfl, rfl, _, _, rfl, rfl, ?_⟩⟩
  rw [List.length_map, List.length_map]
  refine ⟨_, rfl, by omega, by omega, fun i ρ => ∃ (p q : Nat) (fo : List Evt) (x5 x6 x7 : Option Cell), Wv one other fo p q ∧ ρ = [some (.rnd hh cc), some (.p (.d (ttD one))), some (.p (.d (ttD other))), c2 aa rr (lft one other p q), some (.own (fo.map evD)), x5, x6, x7], ⟨0, 0, [], none, none, none, .nil, rfl⟩, ?_, ?_⟩
  · rintro i x ρ hx ⟨p, q0, fo, x5, x6, x7, wv, rfl⟩
    refine gb_name 5 ?_ nd
    refine ss_cons <| ss_set 6 (EV.ec <| ev_twoAt (aa := aa) (r := rr) (L := lft one other p q0) 3 <| ev_callR 0 D1 hr <| ea_cons <| ev_int <| ea_nil ⟨rfl, _, rfl, by decide, by decide, fun d hd => ?_⟩) nd
    have hd2 : ∃ sd : Bool, (d : Int) = (if sd = true then 1 else 0) := by
      have : d = 0 ∨ d = 1 := by omega
      rcases this with rfl | rfl
      · exact ⟨false, rfl⟩
      · exact ⟨true, rfl⟩
    obtain ⟨sd, hsd⟩ := hd2
    refine ⟨sd, lft one other p q0, by rw [hsd], rfl, ?_⟩
    refine ss_one <| ss_for (ix := [7]) PassesOwn.never rfl <| ie_range1 T.range <| ev_add <| ev_int <| ev_callR 0 D1 hr <| ea_cons <| ev_int <| ea_nil ⟨rfl, _, rfl, by decide, by decide, fun g hg => ⟨_, _, rfl, rfl, _, rfl, by omega, by omega, fun j ρ => ∃ (p q : Nat) (fo : List Evt) (x7 : Option Cell), Wv one other fo p q ∧ ρ = [some (.rnd hh cc), some (.p (.d (ttD one))), some (.p (.d (ttD other))), c2 aa rr (lft one other p q), some (.own (fo.map evD)), some (.p (.d x)), some (.p (.raw (.ref (rr sd)))), x7], ⟨p, q0, fo, x7, wv, rfl⟩, ?_, ?_⟩⟩
    · rintro j xj ρ hj ⟨p, q0, fo, y7, wv, rfl⟩
      refine gb_name 7 ?_ nd
      have bd := wv.bd
      have shp : SeqAt.shaped (.list (lft one other p q0 sd)) = true := by
        cases sd with
        | false => exact evs_shaped fun e he => ok1 e (List.mem_of_mem_drop he)
        | true => exact evs_shaped fun e he => ok2 e (List.mem_of_mem_drop he)
      refine ss_one <| ss_if <| et_neNilTwo (aa := aa) (r := rr) 3 hr <| ev_var 6 rfl ⟨sd, lft one other p q0, rfl, rfl, shp, ite2 (fun c => ?_) fun c => ?_⟩
      · have c' := of_decide_eq_true c
        cases sd with
        | false =>
          have hp : p < one.length := by
            by_cases z : p < one.length
            · exact z
            · exfalso
              apply c'
              show (one.drop p).map evD = []
              rw [List.drop_eq_nil_of_le (by omega)]
              rfl
          refine ss_one <| ss_app 4 <| ev_pop0Two (aa := aa) (r := rr) 3 <| ev_var 6 rfl ⟨false, lft one other p q0, evD one[p], (one.drop (p + 1)).map evD, rfl, rfl, ?_, by rw [List.length_map, List.length_drop]; omega, evD one[p], fo.map evD, rfl, rfl, by rw [List.length_map]; omega, p + 1, q0, fo ++ [one[p]], some (.p (.d xj)), wv.l (List.getElem?_eq_getElem hp), ?_⟩
          · show (one.drop p).map evD = _
            rw [List.drop_eq_getElem_cons hp]
            rfl
          · have e : (fun b => if b = false then (one.drop (p + 1)).map evD else lft one other p q0 b) = lft one other (p + 1) q0 := by
              funext b
              cases b <;> rfl
            rw [e, List.map_append]
            rfl
        | true =>
          have hp : q0 < other.length := by
            by_cases z : q0 < other.length
            · exact z
            · exfalso
              apply c'
              show (other.drop q0).map evD = []
              rw [List.drop_eq_nil_of_le (by omega)]
              rfl
          refine ss_one <| ss_app 4 <| ev_pop0Two (aa := aa) (r := rr) 3 <| ev_var 6 rfl ⟨true, lft one other p q0, evD other[q0], (other.drop (q0 + 1)).map evD, rfl, rfl, ?_, by rw [List.length_map, List.length_drop]; omega, evD other[q0], fo.map evD, rfl, rfl, by rw [List.length_map]; omega, p, q0 + 1, fo ++ [other[q0]], some (.p (.d xj)), wv.r (List.getElem?_eq_getElem hp), ?_⟩
          · show (other.drop q0).map evD = _
            rw [List.drop_eq_getElem_cons hp]
            rfl
          · have e : (fun b => if b = true then (other.drop (q0 + 1)).map evD else lft one other p q0 b) = lft one other p (q0 + 1) := by
              funext b
              cases b <;> rfl
            rw [e, List.map_append]
            rfl
      · exact ss_nil ⟨p, q0, fo, _, wv, rfl⟩
    · rintro ρ ⟨p, q0, fo, y7, wv, rfl⟩
      exact ⟨p, q0, fo, _, _, _, wv, rfl⟩
  · rintro ρ ⟨p, q0, fo, x5, x6, x7, wv, rfl⟩
    have bd := wv.bd
    refine sss_twoData (aa := aa) (r := rr) (L := lft one other p q0) 3 ?_
    refine ss_one <| ss_ret <| ev_tuple T.tuple <| EN.ev <| en_cat <| EN.ev <| en_cat <| ev_take 4 rfl <| ev_ix <| ev_var 3 rfl <| ev_int ⟨_, _, .list ((one.drop p).map evD), rfl, rfl, .inl ⟨_, rfl, rfl⟩, _, _, rfl, rfl, by rw [List.length_map, List.length_map, List.length_drop]; omega, ev_ix <| ev_var 3 rfl <| ev_int ⟨_, _, .list ((other.drop q0).map evD), rfl, rfl, .inl ⟨_, rfl, rfl⟩, _, _, rfl, rfl, by rw [List.length_append, List.length_map, List.length_map, List.length_map, List.length_drop, List.length_drop]; omega, ?_⟩⟩
    rw [← List.map_append, ← List.map_append]
    exact ⟨_, .inl rfl, rfl, q _ wv.tail⟩
end
end W63
end PartLR7
section PartDX4
set_option maxRecDepth 100000
set_option maxHeartbeats 2000000
/-! DX4: calls with all arguments by their names. -/
namespace DL
open PySem PySem.Spec PyProof.Rows L2
def kG (us ws : List Value) : List Value := match us with
  | [] => ws
  | _ :: _ => []
def kV (vs zs : List V) : List V := match vs with
  | [] => zs
  | _ :: _ => []
theorem kbinds3 {K : PySem.W.Frag} {x qual : Str} {st : Stmt} {f : Addr} {fd : FuncData} {a b c : Str} (F : Fun K x qual st f fd)
    (h : ∀ (kV doc pm : Value) (an : Option Addr) (cdv ct : Value) (u v z : Value), bindArgs (PySem.W.fnOf x qual (defArgs st) (defBody st) (defScope st) .none kV doc pm an cdv ct) ⟨[], [(a, u), (b, v), (c, z)]⟩ = pure [(a, u), (b, v), (c, z)]) : KBinds K fd [a, b, c] [a, b, c] kG kV where
  to := fun s us ws _ hl => by
    obtain ⟨oc, od, kV, doc, pm, an, cdv, ct, osl, rfl, lk, hcd⟩ := F.ex
    match us, ws, hl with
    | [], [u, v, z], _ => exact .of_eq (h kV doc pm an cdv ct u v z)
  rel := fun r1 r2 => by
    cases r1 with
    | nil => exact r2
    | cons _ _ => exact .nil
def DefOkK (P : Program) (w : World) (K : PySem.W.Frag) (mg : Str → Option Value) (base : Heap) (CX : CXT) (x : Str) (k : Nat) (ps : List Str) (sp : Sp) : Prop :=
  ∃ f fd, mg x = some (.ref f) ∧ PySem.W.keepIn K (.ref f) = true ∧ KBinds K fd ps ps kG kV ∧ FnOk P w K mg base CX k f fd ps sp
section
variable {X : Cx} {ρ : Ev} {Q : P → Ev → Prop} {pos p : Pos} {x : Str} {k : Nat} {ps : List Str} {w : Wp} {wx : Wx} {kws : List Keyword}
theorem ev_callXKD (D : DefOkK X.prog X.w X.K X.mg X.base (L2.CX X.prog X.w) x k ps (spX X.mg X.K w wx)) (hr : Room k X.A) (h : EK X kws ρ fun as ρ1 => w as fun z => Q z ρ1) (hg : Gl X x := by rfl)
    (hall : (backToKw pos (keywordEach kws X.env)).all (·.1.isSome) = true := by rfl) (hks : (backToKw pos (keywordEach kws X.env)).filterMap (·.1) = ps := by rfl)
    (hdb : (x == ("__debug__" : Str)) = false := by decide) (hpl : (backToKw pos (keywordEach kws X.env)).any (·.1.isNone) = false := by rfl) : EV X (.Call (.Name x p) [] kws pos) ρ Q := fun Γ fp F σ H Φ t kk pins s I => by
  obtain ⟨f, fd, hm, hk, hb, G⟩ := D
  refine (pe_callK0 G hr hg hm hk hb passL pk_w hall hks hdb hpl).run pins s σ H Φ I (h Γ fp F σ H _ t fun vs F1 H1 as ρ1 fp1 t1 f1 r1 q => ?_)
  exact .inl ⟨F1, as, _, t1.ex, r1, q, fun v F2 H2 z g r2 q2 => kk v F2 H2 z ρ1 fp1 (t1.grow g) (f1.trans g.f) r2 q2⟩
end
end DL
end PartDX4
section PartM6
set_option maxRecDepth 100000
set_option maxHeartbeats 2000000
/-! M6: who is there in a weave, who stays, plain. -/
namespace W63
open PySem PySem.Spec PyProof.Rows L2 DL
theorem came_take_sub {evs : List Evt} {k : Nat} {x : Str} (h : x ∈ came (evs.take k)) : x ∈ came evs := mem_came.mpr (List.mem_of_mem_take (mem_came.mp h))
/-- one step of one of both -/
theorem wv_step {w o : List Evt} {rc rt : Str → Prop} {e : Evt} (vw : Val w) (vo : Val (o ++ [e])) (hc : ∀ x, x ∈ came w ↔ x ∈ came o ∨ rc x) (ht : ∀ x, x ∈ thr w ↔ x ∈ thr o ∨ rt x) (dis : ∀ x, x ∈ came (o ++ [e]) → ¬ rc x) (sub : ∀ x, rt x → rc x) :
    Val (w ++ [e]) ∧ (∀ x, x ∈ came (w ++ [e]) ↔ x ∈ came (o ++ [e]) ∨ rc x) ∧ ∀ x, x ∈ thr (w ++ [e]) ↔ x ∈ thr (o ++ [e]) ∨ rt x := by
  obtain ⟨vo', h⟩ := vo.snoc
  obtain ⟨e1, e2⟩ := e
  rcases h with ⟨h1, h2⟩ | ⟨h1, h2⟩
  · have h1 : e1 = "in" := h1
    subst h1
    have h2 : e2 ∉ came o := h2
    have cs : came (o ++ [(("in", e2) : Evt)]) = came o ++ [e2] := by rw [came_snoc, if_pos rfl]
    have nr : ¬ rc e2 := dis e2 (by rw [cs]; simp)
    have nw : e2 ∉ came w := fun z => ((hc e2).mp z).elim h2 nr
    refine ⟨.inn vw nw, fun x => ?_, fun x => ?_⟩
    · rw [cs, came_snoc, if_pos rfl, List.mem_append, List.mem_append, hc x, List.mem_singleton]
      constructor
      · rintro ((z | z) | z)
        · exact .inl (.inl z)
        · exact .inr z
        · exact .inl (.inr z)
      · rintro ((z | z) | z)
        · exact .inl (.inl z)
        · exact .inr z
        · exact .inl (.inr z)
    · rw [thr_snoc, thr_snoc, stp_in, stp_in, List.mem_append, List.mem_append, ht x, List.mem_singleton]
      constructor
      · rintro ((z | z) | z)
        · exact .inl (.inl z)
        · exact .inr z
        · exact .inl (.inr z)
      · rintro ((z | z) | z)
        · exact .inl (.inl z)
        · exact .inr z
        · exact .inl (.inr z)
  · have h1 : e1 = "out" := h1
    subst h1
    have h2 : e2 ∈ thr o := h2
    have cs : came (o ++ [(("out", e2) : Evt)]) = came o := by rw [came_snoc, if_neg ne_out, List.append_nil]
    have co : e2 ∈ came o := ((vo'.facts.2.2.2.1 e2).mp h2).1
    have nr : ¬ rc e2 := dis e2 (by rw [cs]; exact co)
    refine ⟨.out vw ((ht e2).mpr (.inl h2)), fun x => ?_, fun x => ?_⟩
    · rw [cs, came_snoc, if_neg ne_out, List.append_nil]
      exact hc x
    · rw [thr_snoc, thr_snoc, stp_out, stp_out, List.mem_filter, List.mem_filter, ht x, decide_eq_true_iff]
      constructor
      · rintro ⟨z | z, y⟩
        · exact .inl ⟨z, y⟩
        · exact .inr z
      · rintro (⟨z, y⟩ | z)
        · exact ⟨.inl z, y⟩
        · exact ⟨.inr z, fun y => nr (y ▸ sub x z)⟩
/-- what is known of a weave's beginning -/
structure WvF (one other w : List Evt) (a b : Nat) : Prop where
  val : Val w
  came : ∀ x, x ∈ W63.came w ↔ x ∈ W63.came (one.take a) ∨ x ∈ W63.came (other.take b)
  thr : ∀ x, x ∈ W63.thr w ↔ x ∈ W63.thr (one.take a) ∨ x ∈ W63.thr (other.take b)
section
variable {n : Int} {one other : List Evt}
theorem Wv.facts (T : Two n one other) {w : List Evt} {a b : Nat} (h : Wv one other w a b) : WvF one other w a b := by
  induction h with
  | nil => exact ⟨.nil, fun x => by rw [List.take_zero, List.take_zero, came_nil]; simp, fun x => by rw [List.take_zero, List.take_zero]; simp⟩
  | @l w a b e h he ih =>
    have tk := (T.o.val.at he).1
    have vo := T.o.val.take (a + 1)
    rw [tk] at vo
    obtain ⟨h1, h2, h3⟩ := wv_step (rc := fun x => x ∈ came (other.take b)) (rt := fun x => x ∈ thr (other.take b)) ih.val vo ih.came ih.thr
      (fun x hx z => T.ap x (came_take_sub (k := a + 1) (by rw [tk]; exact hx)) (came_take_sub z)) fun x hx => ((T.t.val.take b).facts.2.2.2.1 x).mp hx |>.1
    exact ⟨h1, by rw [tk]; exact h2, by rw [tk]; exact h3⟩
  | @r w a b e h he ih =>
    have tk := (T.t.val.at he).1
    have vo := T.t.val.take (b + 1)
    rw [tk] at vo
    obtain ⟨h1, h2, h3⟩ := wv_step (rc := fun x => x ∈ came (one.take a)) (rt := fun x => x ∈ thr (one.take a)) ih.val vo (fun x => (ih.came x).trans or_comm) (fun x => (ih.thr x).trans or_comm)
      (fun x hx z => T.ap x (came_take_sub z) (came_take_sub (k := b + 1) (by rw [tk]; exact hx))) fun x hx => ((T.o.val.take a).facts.2.2.2.1 x).mp hx |>.1
    exact ⟨h1, by rw [tk]; exact fun x => (h2 x).trans or_comm, by rw [tk]; exact fun x => (h3 x).trans or_comm⟩
theorem Two.disT (T : Two n one other) {a b : Nat} {x : Str} (h1 : x ∈ thr (one.take a)) (h2 : x ∈ thr (other.take b)) : False :=
  T.ap x (came_take_sub (((T.o.val.take a).facts.2.2.2.1 x).mp h1).1) (came_take_sub (((T.t.val.take b).facts.2.2.2.1 x).mp h2).1)
theorem Wv.len (T : Two n one other) {w : List Evt} {a b : Nat} (h : Wv one other w a b) : (thr w).length = (thr (one.take a)).length + (thr (other.take b)).length := by
  have f := h.facts T
  rw [← List.length_append]
  refine List.Perm.length_eq ((List.perm_ext_iff_of_nodup f.val.facts.2.1 ?_).mpr fun x => by rw [f.thr x, List.mem_append])
  rw [List.nodup_append]
  exact ⟨(T.o.val.take a).facts.2.1, (T.t.val.take b).facts.2.1, fun x hx y hy z => T.disT hx (z ▸ hy)⟩
/-- who is there at a and at m: counted apart -/
theorem Wv.stay (T : Two n one other) {w : List Evt} {a m la ra lm rm : Nat} (h1 : Wv one other (w.take a) la ra) (h2 : Wv one other (w.take m) lm rm) : stk w a m = (W63.stay one la lm : Nat) + (W63.stay other ra rm : Nat) := by
  have f1 := h1.facts T
  have f2 := h2.facts T
  unfold stk W63.stay
  rw [← Int.natCast_add, ← List.length_append]
  congr 1
  refine List.Perm.length_eq ((List.perm_ext_iff_of_nodup (f2.val.facts.2.1.filter _) ?_).mpr fun x => ?_)
  · rw [List.nodup_append]
    exact ⟨(T.o.val.take la).facts.2.1.filter _, (T.t.val.take ra).facts.2.1.filter _, fun x hx y hy z => T.disT (List.mem_filter.mp hx).1 (z ▸ (List.mem_filter.mp hy).1)⟩
  · rw [List.mem_append, List.mem_filter, List.mem_filter, List.mem_filter, decide_eq_true_iff, decide_eq_true_iff, decide_eq_true_iff, f1.thr x, f2.thr x]
    constructor
    · rintro ⟨z | z, y | y⟩
      · exact .inl ⟨y, z⟩
      · exact (T.disT z y).elim
      · exact (T.disT y z).elim
      · exact .inr ⟨y, z⟩
    · rintro (⟨z, y⟩ | ⟨z, y⟩)
      · exact ⟨.inl y, .inl z⟩
      · exact ⟨.inr y, .inr z⟩
end
/-- no box comes back -/
theorem Val.between {w : List Evt} (v : Val w) {d a m : Nat} (h1 : d ≤ a) (h2 : a ≤ m) {x : Str} (x1 : x ∈ thr (w.take d)) (x2 : x ∈ thr (w.take m)) : x ∈ thr (w.take a) := by
  have fd := (v.take d).facts.2.2.2.1 x
  have fa := (v.take a).facts.2.2.2.1 x
  have fm := (v.take m).facts.2.2.2.1 x
  obtain ⟨c1, _⟩ := fd.mp x1
  obtain ⟨_, c2⟩ := fm.mp x2
  refine fa.mpr ⟨?_, fun z => c2 ?_⟩
  · have e : w.take d = (w.take a).take d := by rw [List.take_take, Nat.min_eq_left h1]
    rw [e] at c1
    exact came_take_sub c1
  · have e : w.take a = (w.take m).take a := by rw [List.take_take, Nat.min_eq_left h2]
    rw [mem_gone (v.take a), e] at z
    exact (mem_gone (v.take m)).mpr (List.mem_of_mem_take z)
theorem stk_mono {w : List Evt} (v : Val w) {d a m : Nat} (h1 : d ≤ a) (h2 : a ≤ m) : stk w d m ≤ stk w a m := by
  unfold stk
  have key : ∀ l : List Str, (∀ x ∈ l, x ∈ thr (w.take m)) → (l.filter fun b => decide (b ∈ thr (w.take d))).length ≤ (l.filter fun b => decide (b ∈ thr (w.take a))).length := by
    intro l
    induction l with
    | nil => intro _; exact Nat.le_refl _
    | cons x l ih =>
      intro hl
      have i := ih fun y hy => hl y (List.mem_cons_of_mem _ hy)
      rw [List.filter_cons, List.filter_cons]
      by_cases c : x ∈ thr (w.take d)
      · have c2 := v.between h1 h2 c (hl x List.mem_cons_self)
        rw [if_pos (by simpa using c), if_pos (by simpa using c2), List.length_cons, List.length_cons]
        omega
      · rw [if_neg (by simpa using c)]
        split
        · rw [List.length_cons]; omega
        · exact i
  have := key (thr (w.take m)) fun x hx => hx
  omega
/-! ### the stretch's start -/
theorem dsc_facts {fr : Nat → Int} {c : Int} : ∀ m, (∀ k, dsc fr c m ≤ k → k < m → fr k ≤ c) ∧ (dsc fr c m = 0 ∨ c < fr (dsc fr c m - 1))
  | 0 => ⟨fun k _ h => absurd h (Nat.not_lt_zero _), .inl rfl⟩
  | m + 1 => by
    unfold dsc
    by_cases h : fr m ≤ c
    · rw [if_pos h]
      obtain ⟨h1, h2⟩ := dsc_facts (fr := fr) (c := c) m
      refine ⟨fun k k1 k2 => ?_, h2⟩
      by_cases e : k = m
      · rw [e]; exact h
      · exact h1 k k1 (by omega)
    · rw [if_neg h]
      exact ⟨fun k k1 k2 => by omega, .inr (by rw [Nat.add_sub_cancel]; omega)⟩
theorem dsc_le_of {fr : Nat → Int} {c : Int} {s : Nat} : ∀ m, s ≤ m → (∀ k, s ≤ k → k < m → fr k ≤ c) → dsc fr c m ≤ s
  | 0, _, _ => Nat.zero_le _
  | m + 1, hs, h => by
    unfold dsc
    by_cases e : s = m + 1
    · split
      · have := dsc_le (fr := fr) (c := c) m
        omega
      · omega
    · rw [if_pos (h m (by omega) (by omega))]
      exact dsc_le_of m (by omega) fun k k1 k2 => h k k1 (by omega)
/-! ### heights -/
theorem mem_le_sum : ∀ {hs : List Int} {h : Int}, (∀ x ∈ hs, 0 ≤ x) → h ∈ hs → h ≤ hs.sum
  | x :: hs, h, p, m => by
    have p2 : ∀ y ∈ hs, 0 ≤ y := fun y hy => p y (List.mem_cons_of_mem _ hy)
    have s0 : ∀ l : List Int, (∀ y ∈ l, 0 ≤ y) → 0 ≤ l.sum := fun l => by
      induction l with
      | nil => intro _; simp
      | cons y l ih =>
        intro q
        rw [List.sum_cons]
        have := ih fun z hz => q z (List.mem_cons_of_mem _ hz)
        have := q y List.mem_cons_self
        omega
    rw [List.sum_cons]
    rcases List.mem_cons.mp m with rfl | m
    · have := s0 hs p2
      omega
    · have := mem_le_sum p2 m
      have := p x List.mem_cons_self
      omega
theorem YardOk.mxs {hs : List Int} (y : YardOk hs) : mxl hs ≤ hs.sum := mem_le_sum y.nn (mxl_mem y.nn fun z => by have := y.lo; rw [z] at this; cases this)
theorem owed_nn (c : Int) : ∀ hs : List Int, 0 ≤ owed hs c
  | [] => by simp [owed]
  | x :: hs => by
    have := owed_nn c hs
    unfold owed at this ⊢
    rw [List.map_cons, List.sum_cons]
    have : 0 ≤ max 0 (x - c) := Int.le_max_left ..
    omega
theorem owed_pos {c : Int} : ∀ {hs : List Int}, (∃ h ∈ hs, c < h) → 0 < owed hs c
  | x :: hs, ⟨h, m, lt⟩ => by
    have o := owed_nn c hs
    unfold owed at o ⊢
    rw [List.map_cons, List.sum_cons]
    rcases List.mem_cons.mp m with rfl | m
    · have : h - c ≤ max 0 (h - c) := Int.le_max_right ..
      omega
    · have i := owed_pos ⟨h, m, lt⟩
      unfold owed at i
      have : 0 ≤ max 0 (x - c) := Int.le_max_left ..
      omega
theorem owed_zero {c : Int} : ∀ {hs : List Int}, (∀ h ∈ hs, h ≤ c) → owed hs c = 0
  | [], _ => by simp [owed]
  | x :: hs, p => by
    have i := owed_zero fun h m => p h (List.mem_cons_of_mem _ m)
    have := p x List.mem_cons_self
    unfold owed at i ⊢
    rw [List.map_cons, List.sum_cons, i, Int.max_eq_left (by omega)]
    rfl
theorem YardOk.owp {hs : List Int} (y : YardOk hs) {c : Int} : 0 < owed hs c ↔ c < mxl hs := by
  constructor
  · intro h
    by_cases z : c < mxl hs
    · exact z
    · rw [owed_zero fun x hx => by have := mxl_ge hx; omega] at h
      omega
  · intro h
    exact owed_pos ⟨_, mxl_mem y.nn (fun z => by have := y.lo; rw [z] at this; cases this), h⟩
theorem frK_step {n : Int} {w : List Evt} (v : Val w) {k : Nat} (h : k < w.length) : frK n w (k + 1) ≤ frK n w k + 1 ∧ frK n w k - 1 ≤ frK n w (k + 1) := by
  have e := v.fr_step (n := n) (List.getElem?_eq_getElem h)
  have e1 : frK n w (k + 1) = fr n w (k + 1) := rfl
  have e2 : frK n w k = fr n w k := rfl
  rw [e1, e2, e]
  split <;> omega
theorem frK_zero {n : Int} {w : List Evt} : frK n w 0 = n := Int.sub_zero n
end W63
end PartM6
section PartM7
set_option maxRecDepth 100000
set_option maxHeartbeats 2000000
/-! M7: every_weave, plain: what it tells is stuck; if it tells none, none is stuck. -/
namespace W63
open PySem PySem.Spec PyProof.Rows L2 DL
theorem hrs_at {evs : List Evt} {i : Nat} (h : i ≤ evs.length) : (hrs evs)[i]? = some (((thr (evs.take i)).length : Nat) : Int) := by
  unfold hrs
  rw [List.getElem?_map, List.getElem?_range (by omega)]
  rfl
theorem hrs_getD {evs : List Evt} {i : Nat} (h : i ≤ evs.length) : (hrs evs).getD i 0 = (((thr (evs.take i)).length : Nat) : Int) := by
  rw [List.getD_eq_getElem?_getD, hrs_at h]
  rfl
section
variable {hs : List Int} {one other : List Evt}
theorem ask_at {f s a b : Nat} (ha : a ≤ one.length) (hb : b ≤ other.length) : (askOf hs one other f s).at a b = ((thr (one.take a)).length : Nat) + ((thr (other.take b)).length : Nat) := by
  unfold Ask.at askOf
  show (hrs one).getD a 0 + (hrs other).getD b 0 = _
  rw [hrs_getD ha, hrs_getD hb]
theorem cnt_stay {evs : List Evt} (v : Val evs) {f l : Nat} (hfl : f ≤ l) (hl : l ≤ evs.length) : cnt (prs evs evs.length) f l = (stay evs f l : Nat) := by
  rw [← prs_stay v hfl hl]
  unfold cnt
  congr 2
  refine congrArg (fun p => List.filter p (prs evs evs.length)) (funext fun q => ?_)
  rw [decide_eq_decide]
  exact ⟨fun ⟨h1, _, h3⟩ => ⟨h1, h3⟩, fun ⟨h1, h3⟩ => ⟨h1, hfl, h3⟩⟩
/-- a weave's way -/
theorem way_of (T : Two hs.sum one other) {w : List Evt} {a b : Nat} (h : Wv one other w a b) : ∀ d, d ≤ w.length → (∀ k, d ≤ k → k ≤ w.length → (thr (w.take d)).length ≤ (thr (w.take k)).length) →
    ∃ la ra, Wv one other (w.take d) la ra ∧ la ≤ a ∧ ra ≤ b ∧ ∃ way, Pth (askOf hs one other la ra) way a b := by
  induction h with
  | nil =>
    intro d hd _
    rw [List.take_nil]
    exact ⟨0, 0, .nil, Nat.le_refl _, Nat.le_refl _, _, .base⟩
  | @l w a b e h he ih =>
    intro d hd hk
    rw [List.length_append, List.length_singleton] at hd hk
    have ha := (List.getElem?_eq_some_iff.mp he).1
    have bd := h.bd
    by_cases c : d ≤ w.length
    · obtain ⟨la, ra, h1, h2, h3, way, p⟩ := ih d c fun k k1 k2 => by
        have := hk k k1 (by omega)
        rw [List.take_append_of_le_length c, List.take_append_of_le_length k2] at this
        exact this
      rw [List.take_append_of_le_length c]
      refine ⟨la, ra, h1, by omega, h3, _, p.l (by show a + 1 < (hrs one).length; rw [hrs_len]; omega) ?_⟩
      have hl := hk (w.length + 1) (by omega) (Nat.le_refl _)
      rw [List.take_append_of_le_length c, List.take_of_length_le (l := w ++ [e]) (by rw [List.length_append, List.length_singleton]; omega), h1.len T, (h.l he).len T] at hl
      have b1 := h1.bd
      show (askOf hs one other la ra).at la ra ≤ _
      rw [ask_at (by omega) (by omega), ask_at (by omega) (by omega)]
      omega
    · have e1 : d = w.length + 1 := by omega
      subst e1
      rw [List.take_of_length_le (by rw [List.length_append, List.length_singleton]; omega)]
      exact ⟨a + 1, b, h.l he, Nat.le_refl _, Nat.le_refl _, _, .base⟩
  | @r w a b e h he ih =>
    intro d hd hk
    rw [List.length_append, List.length_singleton] at hd hk
    have hb := (List.getElem?_eq_some_iff.mp he).1
    have bd := h.bd
    by_cases c : d ≤ w.length
    · obtain ⟨la, ra, h1, h2, h3, way, p⟩ := ih d c fun k k1 k2 => by
        have := hk k k1 (by omega)
        rw [List.take_append_of_le_length c, List.take_append_of_le_length k2] at this
        exact this
      rw [List.take_append_of_le_length c]
      refine ⟨la, ra, h1, h2, by omega, _, p.r (by show b + 1 < (hrs other).length; rw [hrs_len]; omega) ?_⟩
      have hl := hk (w.length + 1) (by omega) (Nat.le_refl _)
      rw [List.take_append_of_le_length c, List.take_of_length_le (l := w ++ [e]) (by rw [List.length_append, List.length_singleton]; omega), h1.len T, (h.r he).len T] at hl
      have b1 := h1.bd
      show (askOf hs one other la ra).at la ra ≤ _
      rw [ask_at (by omega) (by omega), ask_at (by omega) (by omega)]
      omega
    · have e1 : d = w.length + 1 := by omega
      subst e1
      rw [List.take_of_length_le (by rw [List.length_append, List.length_singleton]; omega)]
      exact ⟨a, b + 1, h.r he, Nat.le_refl _, Nat.le_refl _, _, .base⟩
theorem ask_ok (T : Two hs.sum one other) {f s : Nat} (hf : f ≤ one.length) (hs' : s ≤ other.length) : AskOk (askOf hs one other f s) := by
  have l1 := T.o.few
  have l2 := T.t.few
  exact ⟨by show f < (hrs one).length; rw [hrs_len]; omega, by show s < (hrs other).length; rw [hrs_len]; omega, by show (hrs one).length ≤ 31; rw [hrs_len]; omega, by show (hrs other).length ≤ 31; rw [hrs_len]; omega⟩
/-- none told: none is stuck -/
theorem every_none (y : YardOk hs) (T : Two hs.sum one other) (h : EveryIs hs one other none) {w : List Evt} (hw : Wv one other w one.length other.length) {m : Nat} (m1 : 1 ≤ m) (m2 : m ≤ w.length) : ¬ lbad hs w m := by
  obtain ⟨h1, h2⟩ := h
  have vw := (hw.facts T).val
  obtain ⟨lm, rm, wm, bm1, bm2⟩ := hw.pre m m2
  have full : ∀ k, k ≤ w.length → 0 ≤ frK hs.sum w k := fun k hk => by
    obtain ⟨a, b, wk, b1, b2⟩ := hw.pre k hk
    have := h1 _ (List.mem_of_getElem? (hrs_at b1)) _ (List.mem_of_getElem? (hrs_at b2))
    unfold frK
    rw [wk.len T]
    omega
  rintro (z | ⟨c, c1, c2, c3⟩)
  · have := full m m2
    omega
  · obtain ⟨d1, d2⟩ := dsc_facts (fr := frK hs.sum w) (c := c) m
    have d0 := dsc_le (fr := frK hs.sum w) (c := c) m
    generalize dsc (frK hs.sum w) c m = d at d0 d1 d2 c3
    have ms := y.mxs
    have fd : frK hs.sum w d ≤ c := by
      by_cases e : d = m
      · rw [e]; exact c1
      · exact d1 d (Nat.le_refl _) (by omega)
    have dpos : d ≠ 0 := fun e => by
      rw [e, frK_zero] at fd
      omega
    have dc : c < frK hs.sum w (d - 1) := d2.resolve_left dpos
    have st := frK_step (n := hs.sum) vw (k := d - 1) (by omega)
    rw [show d - 1 + 1 = d by omega] at st
    have fdc : frK hs.sum w d = c := by omega
    -- the beginning up to m
    obtain ⟨la, ra, w1, b1, b2, way, p⟩ := way_of (hs := hs) T wm d (by rw [List.length_take]; omega) fun k k1 k2 => by
      rw [List.length_take] at k2
      rw [List.take_take, List.take_take, Nat.min_eq_left (by omega), Nat.min_eq_left (by omega)]
      have fk : frK hs.sum w k ≤ c := by
        by_cases e : k = m
        · rw [e]; exact c1
        · exact d1 k k1 (by omega)
      unfold frK at fk fdc
      omega
    rw [List.take_take, Nat.min_eq_left d0] at w1
    have bd1 := w1.bd
    have bdm := wm.bd
    have en : (askOf hs one other la ra).n = owed hs c := by
      show owed hs (hs.sum - (hrs one).getD la 0 - (hrs other).getD ra 0) = _
      rw [hrs_getD bd1.1, hrs_getD bd1.2.1]
      congr 1
      have := w1.len T
      unfold frK at fdc
      omega
    refine h2 la ra bd1.1 bd1.2.1 (by rw [en]; exact y.owp.mpr c2) way lm rm p ?_
    show cnt (prs one one.length) la lm + cnt (prs other other.length) ra rm < (askOf hs one other la ra).n
    rw [en, cnt_stay T.o.val b1 bdm.1, cnt_stay T.t.val b2 bdm.2.1, ← Wv.stay T w1 wm]
    exact c3
/-! ### the weave that is told -/
theorem cut_onL {w : List Evt} {a b a' : Nat} (h : Wv one other w a b) (h1 : a ≤ a') (h2 : a' ≤ one.length) : Wv one other (w ++ cut one a a') a' b := by
  have := h.onL (a' - a)
  rw [show a + (a' - a) = a' by omega, Nat.min_eq_left h2] at this
  exact this
theorem cut_onR {w : List Evt} {a b b' : Nat} (h : Wv one other w a b) (h1 : b ≤ b') (h2 : b' ≤ other.length) : Wv one other (w ++ cut other b b') a b' := by
  have := h.onR (b' - b)
  rw [show b + (b' - b) = b' by omega, Nat.min_eq_left h2] at this
  exact this
theorem wvs_wv {ps : List Pt} {p : Pt} {w : List Evt} {a b : Nat} (e : wvs one other ps = (w, a, b)) (h : Wv one other w a b) (h1 : a ≤ p.1) (h2 : p.1 ≤ one.length) (h3 : b ≤ p.2) (h4 : p.2 ≤ other.length) : ∃ w', wvs one other (ps ++ [p]) = (w ++ w', p.1, p.2) ∧ Wv one other (w ++ w') p.1 p.2 := by
  refine ⟨cut one a p.1 ++ cut other b p.2, ?_, ?_⟩
  · rw [wvs_snoc, e]
  · rw [← List.append_assoc]
    exact cut_onR (cut_onL h h1 h2) h3 h4
/-- the weave to the ends -/
theorem wvL_wv {ps : List Pt} {w : List Evt} {a b : Nat} (e : wvs one other ps = (w, a, b)) (h : Wv one other w a b) : Wv one other (wvL one other ps) one.length other.length ∧ (wvL one other ps).take (a + b) = w := by
  have bd := h.bd
  obtain ⟨w', e1, h1⟩ := wvs_wv (p := (one.length, other.length)) e h bd.1 (Nat.le_refl _) bd.2.1 (Nat.le_refl _)
  have el : wvL one other ps = w ++ w' := by
    unfold wvL
    rw [e1]
  rw [el]
  exact ⟨h1, by rw [← bd.2.2, List.take_left' rfl]⟩
theorem cut_self (xs : List Evt) (a : Nat) : cut xs a a = [] := by unfold cut; rw [Nat.sub_self, List.take_zero]
/-- the way's weave: at no place less are there than at its start -/
theorem pth_wv (T : Two hs.sum one other) {f s : Nat} (hf : f ≤ one.length) (hs' : s ≤ other.length) {way : List Pt} {a b : Nat} (p : Pth (askOf hs one other f s) way a b) :
    ∃ w, wvs one other way = (w, a, b) ∧ Wv one other w a b ∧ f ≤ a ∧ s ≤ b ∧ Wv one other (w.take (f + s)) f s ∧ ∀ k, f + s ≤ k → k ≤ w.length → (thr (w.take (f + s))).length ≤ (thr (w.take k)).length := by
  have ao := ask_ok T hf hs'
  induction p with
  | base =>
    obtain ⟨w', e1, h1⟩ := wvs_wv (ps := []) (p := (f, s)) (w := []) (a := 0) (b := 0) rfl (.nil (one := one) (other := other)) (Nat.zero_le _) hf (Nat.zero_le _) hs'
    have bd := h1.bd
    have et : ([] ++ w').take (f + s) = [] ++ w' := List.take_of_length_le (by have := bd.2.2; show _ ≤ f + s; exact Nat.le_of_eq this)
    refine ⟨[] ++ w', e1, h1, Nat.le_refl _, Nat.le_refl _, by rw [et]; exact h1, fun k k1 k2 => ?_⟩
    have : ([] ++ w').length = f + s := bd.2.2
    have ek : k = f + s := by omega
    rw [ek]
    exact Nat.le_refl _
  | @l way a b p h1 h2 ih =>
    obtain ⟨w, e, hw, fa, sb, hfs, hk⟩ := ih
    have bd := hw.bd
    have h1' : a + 1 < (hrs one).length := h1
    rw [hrs_len] at h1'
    have ha : a < one.length := by omega
    have e2 : wvs one other (way ++ [(a + 1, b)]) = (w ++ [one[a]], a + 1, b) := by
      rw [wvs_snoc, e]
      show (w ++ (cut one a (a + 1) ++ cut other b b), a + 1, b) = _
      rw [cut_one ha, cut_self, List.append_nil]
    have hw2 := hw.l (List.getElem?_eq_getElem ha)
    have fs : f + s ≤ w.length := by omega
    refine ⟨_, e2, hw2, by omega, sb, by rw [List.take_append_of_le_length fs]; exact hfs, fun k k1 k2 => ?_⟩
    rw [List.take_append_of_le_length fs]
    rw [List.length_append, List.length_singleton] at k2
    by_cases c : k ≤ w.length
    · rw [List.take_append_of_le_length c]
      exact hk k k1 c
    · rw [List.take_of_length_le (l := w ++ [_]) (by rw [List.length_append, List.length_singleton]; omega), hw2.len T, hfs.len T]
      have h2' : (askOf hs one other f s).at f s ≤ (askOf hs one other f s).at (a + 1) b := h2
      rw [ask_at hf hs', ask_at (by omega) bd.2.1] at h2'
      omega
  | @r way a b p h1 h2 ih =>
    obtain ⟨w, e, hw, fa, sb, hfs, hk⟩ := ih
    have bd := hw.bd
    have h1' : b + 1 < (hrs other).length := h1
    rw [hrs_len] at h1'
    have hb : b < other.length := by omega
    have e2 : wvs one other (way ++ [(a, b + 1)]) = (w ++ [other[b]], a, b + 1) := by
      rw [wvs_snoc, e]
      show (w ++ (cut one a a ++ cut other b (b + 1)), a, b + 1) = _
      rw [cut_one hb, cut_self, List.nil_append]
    have hw2 := hw.r (List.getElem?_eq_getElem hb)
    have fs : f + s ≤ w.length := by omega
    refine ⟨_, e2, hw2, fa, by omega, by rw [List.take_append_of_le_length fs]; exact hfs, fun k k1 k2 => ?_⟩
    rw [List.take_append_of_le_length fs]
    rw [List.length_append, List.length_singleton] at k2
    by_cases c : k ≤ w.length
    · rw [List.take_append_of_le_length c]
      exact hk k k1 c
    · rw [List.take_of_length_le (l := w ++ [_]) (by rw [List.length_append, List.length_singleton]; omega), hw2.len T, hfs.len T]
      have h2' : (askOf hs one other f s).at f s ≤ (askOf hs one other f s).at a (b + 1) := h2
      rw [ask_at hf hs', ask_at bd.1 (by omega)] at h2'
      omega
/-- what is told is a weave, and it is stuck somewhere -/
theorem every_some (y : YardOk hs) (T : Two hs.sum one other) {w : List Evt} (h : EveryIs hs one other (some w)) : Wv one other w one.length other.length ∧ ∃ m, 1 ≤ m ∧ m ≤ w.length ∧ lbad hs w m := by
  have ms := y.mxs
  have my := y.mx
  rcases h with ⟨i, j, a, b, h1, h2, h3, rfl⟩ | ⟨hle, f, s, way, hf, hs', hn, ⟨a, b, p, lo⟩, rfl⟩
  · have hi : i ≤ one.length := by
      have := (List.getElem?_eq_some_iff.mp h1).1
      rw [hrs_len] at this
      omega
    have hj : j ≤ other.length := by
      have := (List.getElem?_eq_some_iff.mp h2).1
      rw [hrs_len] at this
      omega
    rw [hrs_at hi] at h1
    rw [hrs_at hj] at h2
    have ea := Option.some.inj h1
    have eb := Option.some.inj h2
    obtain ⟨w', e1, w1⟩ := wvs_wv (ps := []) (p := (i, j)) (w := []) (a := 0) (b := 0) rfl (.nil (one := one) (other := other)) (Nat.zero_le _) hi (Nat.zero_le _) hj
    obtain ⟨g1, g2⟩ := wvL_wv e1 w1
    have g1 : Wv one other (wvL one other [(i, j)]) one.length other.length := g1
    have bd := g1.bd
    have wl' : (thr ([] ++ w')).length = (thr (one.take i)).length + (thr (other.take j)).length := w1.len T
    have g2' : (wvL one other [(i, j)]).take (i + j) = [] ++ w' := g2
    have t1 := thr_len (one.take i)
    have t2 := thr_len (other.take j)
    rw [List.length_take] at t1 t2
    refine ⟨g1, i + j, by omega, by omega, .inl ?_⟩
    unfold frK
    rw [g2', wl']
    omega
  · have ao := ask_ok T hf hs'
    obtain ⟨w, e, hw, fa, sb, hfs, hk⟩ := pth_wv T hf hs' p
    obtain ⟨g1, g2⟩ := wvL_wv e hw
    have bdw := hw.bd
    have bd := g1.bd
    generalize hW : wvL one other way = W at g1 g2 bd
    have vW := (g1.facts T).val
    have tk : ∀ k, k ≤ a + b → W.take k = w.take k := fun k hk2 => by rw [← g2, List.take_take, Nat.min_eq_left hk2]
    have lw := hfs.len T
    have en : (askOf hs one other f s).n = owed hs (frK hs.sum W (f + s)) := by
      show owed hs (hs.sum - (hrs one).getD f 0 - (hrs other).getD s 0) = _
      rw [hrs_getD hf, hrs_getD hs']
      congr 1
      unfold frK
      rw [tk _ (by omega)]
      omega
    rw [en] at hn
    have cm := y.owp.mp hn
    have mpos : f + s ≠ 0 := fun z => by
      rw [z, frK_zero] at cm
      omega
    have frle : ∀ k, f + s ≤ k → k ≤ a + b → frK hs.sum W k ≤ frK hs.sum W (f + s) := fun k k1 k2 => by
      have := hk k k1 (by omega)
      unfold frK
      rw [tk _ k2, tk _ (by omega)]
      omega
    refine ⟨g1, a + b, by omega, by omega, .inr ⟨_, frle (a + b) (by omega) (Nat.le_refl _), cm, ?_⟩⟩
    have dl := dsc_le_of (fr := frK hs.sum W) (c := frK hs.sum W (f + s)) (s := f + s) (a + b) (by omega) fun k k1 k2 => frle k k1 (by omega)
    have s1 := stk_mono vW dl (show f + s ≤ a + b by omega)
    have w1 : Wv one other (W.take (f + s)) f s := by rw [tk _ (by omega)]; exact hfs
    have w2 : Wv one other (W.take (a + b)) a b := by rw [g2]; exact hw
    have s2 := Wv.stay T w1 w2
    have lo' : cnt (prs one one.length) f a + cnt (prs other other.length) s b < (askOf hs one other f s).n := lo
    rw [en, cnt_stay T.o.val fa bdw.1, cnt_stay T.t.val sb bdw.2.1, ← s2] at lo'
    omega
/-- as the law looks at it -/
theorem Wv.is {n : Int} (T : Two n one other) {w : List Evt} (h : Wv one other w one.length other.length) : isWv w one other = true := by
  have ne : ∀ e ∈ one, e ∉ other := fun e h1 h2 => by
    have c1 : e.2 ∈ came one := by
      rcases T.o.val.words e h1 with z | z
      · exact mem_came.mpr (by rw [← z]; exact h1)
      · exact T.o.val.facts.2.2.2.2.1 _ ((mem_gone T.o.val).mpr (by rw [← z]; exact h1))
    have c2 : e.2 ∈ came other := by
      rcases T.t.val.words e h2 with z | z
      · exact mem_came.mpr (by rw [← z]; exact h2)
      · exact T.t.val.facts.2.2.2.2.1 _ ((mem_gone T.t.val).mpr (by rw [← z]; exact h2))
    exact T.ap _ c1 c2
  have key : ∀ {w : List Evt} {a b : Nat}, Wv one other w a b → ofW w one = one.take a ∧ ofW w other = other.take b := by
    intro w a b h
    induction h with
    | nil => exact ⟨rfl, rfl⟩
    | @l w a b e h he ih =>
      have m1 := List.mem_of_getElem? he
      have m2 := ne e m1
      unfold ofW at ih ⊢
      rw [List.filter_append, List.filter_append, ih.1, ih.2, List.take_add_one, he]
      refine ⟨?_, ?_⟩
      · rw [List.filter_cons, if_pos (by simpa using m1)]
        rfl
      · rw [List.filter_cons, if_neg (by simpa using m2)]
        simp
    | @r w a b e h he ih =>
      have m1 := List.mem_of_getElem? he
      have m2 : e ∉ one := fun z => ne e z m1
      unfold ofW at ih ⊢
      rw [List.filter_append, List.filter_append, ih.1, ih.2, List.take_add_one, he]
      refine ⟨?_, ?_⟩
      · rw [List.filter_cons, if_neg (by simpa using m2)]
        simp
      · rw [List.filter_cons, if_pos (by simpa using m1)]
        rfl
  have k := key h
  rw [List.take_length, List.take_length] at k
  unfold isWv
  rw [k.1, k.2, decide_eq_true h.bd.2.2, decide_eq_true rfl, decide_eq_true rfl]
  rfl
end
end W63
end PartM7
section PartM8
set_option maxRecDepth 100000
set_option maxHeartbeats 2000000
/-! M8: marks tell who stays, plain. -/
namespace W63
open PySem PySem.Spec PyProof.Rows L2 DL
def tabOf (hs : List Int) (w : List Evt) : Tb := w.foldl (aft hs) []
theorem tab_snoc {hs : List Int} {w : List Evt} {e : Evt} : tabOf hs (w ++ [e]) = aft hs (tabOf hs w) e := by
  unfold tabOf
  rw [List.foldl_append]
  rfl
theorem frK_pre {n : Int} {w v : List Evt} {k : Nat} (h : k ≤ w.length) : frK n (w ++ v) k = frK n w k := by
  unfold frK
  rw [List.take_append_of_le_length h]
theorem dsc_congr {fr fr' : Nat → Int} {c : Int} : ∀ m, (∀ k, k < m → fr k = fr' k) → dsc fr c m = dsc fr' c m
  | 0, _ => rfl
  | m + 1, h => by
    unfold dsc
    rw [h m (by omega), dsc_congr m fun k hk => h k (by omega)]
theorem stk_pre {w v : List Evt} {a m : Nat} (h1 : a ≤ w.length) (h2 : m ≤ w.length) : stk (w ++ v) a m = stk w a m := by
  unfold stk
  rw [List.take_append_of_le_length h1, List.take_append_of_le_length h2]
theorem lbad_pre {hs : List Int} {w v : List Evt} {m : Nat} (h : m ≤ w.length) : lbad hs (w ++ v) m ↔ lbad hs w m := by
  have e : ∀ c, dsc (frK hs.sum (w ++ v)) c m = dsc (frK hs.sum w) c m := fun c => dsc_congr m fun k hk => frK_pre (by omega)
  unfold lbad
  rw [frK_pre h]
  have e2 : ∀ c, stk (w ++ v) (dsc (frK hs.sum (w ++ v)) c m) m = stk w (dsc (frK hs.sum w) c m) m := fun c => by
    have := dsc_le (fr := frK hs.sum w) (c := c) m
    rw [e, stk_pre (by omega) h]
  simp only [e2]
structure MkI (hs : List Int) (w : List Evt) (t : Tb) : Prop where
  perm : (t.map (·.1)).Perm (thr w)
  low : ∀ p ∈ t, min (mxl hs) (frK hs.sum w w.length) ≤ p.2
  mks : ∀ p ∈ t, ∀ c, frK hs.sum w w.length ≤ c → c < mxl hs → (c < p.2 ↔ p.1 ∈ thr (w.take (dsc (frK hs.sum w) c w.length)))
section
variable {hs : List Int}
theorem MkI.len {w : List Evt} {t : Tb} (h : MkI hs w t) : hs.sum - (t.length : Nat) = frK hs.sum w w.length := by
  unfold frK
  have := h.perm.length_eq
  rw [List.length_map] at this
  rw [List.take_length, this]
theorem mk_nil : MkI hs [] [] := ⟨List.Perm.refl _, fun p hp => (nomatch hp), fun p hp => (nomatch hp)⟩
theorem MkI.step {w : List Evt} {t : Tb} {e : Evt} (h : MkI hs w t) (v : Val (w ++ [e])) : MkI hs (w ++ [e]) (aft hs t e) := by
  obtain ⟨vw, he⟩ := v.snoc
  have hl := h.len
  have ln : (w ++ [e]).length = w.length + 1 := by rw [List.length_append, List.length_singleton]
  have at_ : (w ++ [e])[w.length]? = some e := by simp
  have stp' := v.fr_step (n := hs.sum) at_
  have fe1 : frK hs.sum (w ++ [e]) (w.length + 1) = fr hs.sum (w ++ [e]) (w.length + 1) := rfl
  have fe2 : frK hs.sum w w.length = fr hs.sum (w ++ [e]) w.length := (frK_pre (n := hs.sum) (v := [e]) (Nat.le_refl w.length)).symm
  rw [← fe1, ← fe2] at stp'
  have dd : ∀ c, dsc (frK hs.sum (w ++ [e])) c (w.length + 1) = if frK hs.sum w w.length ≤ c then dsc (frK hs.sum w) c w.length else w.length + 1 := fun c => by
    show (if frK hs.sum (w ++ [e]) w.length ≤ c then dsc (frK hs.sum (w ++ [e])) c w.length else w.length + 1) = _
    rw [frK_pre (Nat.le_refl _), dsc_congr (fr' := frK hs.sum w) w.length fun k hk => frK_pre (by omega)]
  obtain ⟨e1, x⟩ := e
  rcases he with ⟨z1, z2⟩ | ⟨z1, z2⟩
  · have z1 : e1 = "in" := z1
    subst z1
    have z2 : x ∉ came w := z2
    rw [if_pos rfl] at stp'
    have ea : aft hs t ("in", x) = (t ++ [(x, min (mxl hs) (frK hs.sum w w.length))]).mergeSort (PySem.W.dataLe false tbE) := by
      unfold aft
      rw [if_pos rfl, hl]
    have pm := List.mergeSort_perm (t ++ [(x, min (mxl hs) (frK hs.sum w w.length))]) (PySem.W.dataLe false tbE)
    rw [ea]
    have mem : ∀ p, p ∈ (t ++ [(x, min (mxl hs) (frK hs.sum w w.length))]).mergeSort (PySem.W.dataLe false tbE) → p ∈ t ∨ p = (x, min (mxl hs) (frK hs.sum w w.length)) := fun p hp => by
      rcases List.mem_append.mp (pm.mem_iff.mp hp) with y | y
      · exact .inl y
      · exact .inr (List.mem_singleton.mp y)
    have tw : thr (w ++ [(("in", x) : Evt)]) = thr w ++ [x] := by rw [thr_snoc, stp_in]
    refine ⟨?_, fun p hp => ?_, fun p hp c c1 c2 => ?_⟩
    · refine (pm.map _).trans ?_
      rw [List.map_append, tw]
      exact h.perm.append_right _
    · rw [ln, stp']
      rcases mem p hp with y | rfl
      · have := h.low p y
        omega
      · show _ ≤ min (mxl hs) (frK hs.sum w w.length)
        omega
    · rw [ln] at c1 ⊢
      rw [stp'] at c1
      rw [dd]
      by_cases cc : frK hs.sum w w.length ≤ c
      · rw [if_pos cc]
        have dl := dsc_le (fr := frK hs.sum w) (c := c) w.length
        rw [List.take_append_of_le_length dl]
        rcases mem p hp with y | rfl
        · exact h.mks p y c cc c2
        · constructor
          · intro y
            have y : c < min (mxl hs) (frK hs.sum w w.length) := y
            omega
          · intro y
            exact absurd (came_take_sub (((vw.take _).facts.2.2.2.1 x).mp y).1) z2
      · rw [if_neg cc, List.take_of_length_le (by rw [ln]; omega), tw]
        rcases mem p hp with y | rfl
        · have l1 := h.low p y
          have m1 : p.1 ∈ thr w := h.perm.mem_iff.mp (List.mem_map.mpr ⟨p, y, rfl⟩)
          exact ⟨fun _ => List.mem_append_left _ m1, fun _ => by omega⟩
        · refine ⟨fun _ => by simp, fun _ => ?_⟩
          show c < min (mxl hs) (frK hs.sum w w.length)
          omega
  · have z1 : e1 = "out" := z1
    subst z1
    have z2 : x ∈ thr w := z2
    rw [if_neg ne_out] at stp'
    have ea : aft hs t ("out", x) = (t.filter fun p => decide (p.1 ≠ x)).map fun p => (p.1, max p.2 (min (mxl hs) (frK hs.sum w w.length + 1))) := by
      unfold aft
      rw [if_neg ne_out, hl]
    rw [ea]
    have tw : thr (w ++ [(("out", x) : Evt)]) = (thr w).filter fun y => decide (y ≠ x) := by rw [thr_snoc, stp_out]
    refine ⟨?_, fun p hp => ?_, fun p hp c c1 c2 => ?_⟩
    · rw [List.map_map, tw]
      have e1 : (t.filter fun p => decide (p.1 ≠ x)).map ((fun p : Str × Int => p.1) ∘ fun p => (p.1, max p.2 (min (mxl hs) (frK hs.sum w w.length + 1)))) = (t.map (·.1)).filter fun y => decide (y ≠ x) := by
        rw [List.filter_map]
        rfl
      rw [e1]
      exact h.perm.filter _
    · obtain ⟨p0, hp0, rfl⟩ := List.mem_map.mp hp
      rw [ln, stp']
      show _ ≤ max p0.2 (min (mxl hs) (frK hs.sum w w.length + 1))
      omega
    · obtain ⟨p0, hp0, rfl⟩ := List.mem_map.mp hp
      have m0 := (List.mem_filter.mp hp0).1
      rw [ln] at c1 ⊢
      rw [stp'] at c1
      rw [dd, if_pos (by omega)]
      have dl := dsc_le (fr := frK hs.sum w) (c := c) w.length
      rw [List.take_append_of_le_length dl]
      have o := h.mks p0 m0 c (by omega) c2
      show c < max p0.2 (min (mxl hs) (frK hs.sum w w.length + 1)) ↔ p0.1 ∈ _
      rw [← o]
      omega
theorem mk_of {w : List Evt} (v : Val w) : MkI hs w (tabOf hs w) := by
  induction v with
  | nil => exact mk_nil
  | inn v hb ih =>
    rw [tab_snoc]
    exact ih.step (.inn v hb)
  | out v hb ih =>
    rw [tab_snoc]
    exact ih.step (.out v hb)
theorem MkI.above {w : List Evt} {t : Tb} (h : MkI hs w t) {c : Int} (c1 : frK hs.sum w w.length ≤ c) (c2 : c < mxl hs) : W63.above t c = stk w (dsc (frK hs.sum w) c w.length) w.length := by
  unfold W63.above stk
  have e1 : (t.filter fun p => decide (c < p.2)) = t.filter fun p => decide (p.1 ∈ thr (w.take (dsc (frK hs.sum w) c w.length))) := List.filter_congr fun p hp => by
    rw [decide_eq_decide]
    exact h.mks p hp c c1 c2
  have e2 : (t.filter fun p => decide (p.1 ∈ thr (w.take (dsc (frK hs.sum w) c w.length)))).length = ((t.map (·.1)).filter fun y => decide (y ∈ thr (w.take (dsc (frK hs.sum w) c w.length)))).length := by
    rw [List.filter_map, List.length_map]
    rfl
  rw [e1, e2, (h.perm.filter _).length_eq, List.take_length]
theorem MkI.enough {w : List Evt} {t : Tb} (h : MkI hs w t) (h0 : 0 ≤ frK hs.sum w w.length) : enough hs t = true ↔ ¬ lbad hs w w.length := by
  unfold W63.enough
  rw [List.all_eq_true, h.len]
  constructor
  · rintro a (z | ⟨c, c1, c2, c3⟩)
    · omega
    · have := a c (rng_mem.mpr ⟨c1, c2⟩)
      rw [decide_eq_true_iff, h.above c1 c2] at this
      omega
  · intro a c hc
    obtain ⟨c1, c2⟩ := rng_mem.mp hc
    rw [decide_eq_true_iff, h.above c1 c2]
    by_cases z : owed hs c ≤ stk w (dsc (frK hs.sum w) c w.length) w.length
    · exact z
    · exact absurd (.inr ⟨c, c1, c2, by omega⟩) a
/-- none of the events is stuck -/
def Good (hs : List Int) (w : List Evt) : Prop := ∀ j, j < w.length → ¬ lbad hs w (j + 1)
theorem good_nil : Good hs [] := fun j h => absurd h (Nat.not_lt_zero _)
theorem good_snoc {w : List Evt} {e : Evt} : Good hs (w ++ [e]) ↔ Good hs w ∧ ¬ lbad hs (w ++ [e]) (w.length + 1) := by
  unfold Good
  rw [List.length_append, List.length_singleton]
  constructor
  · exact fun a => ⟨fun j hj => fun z => a j (by omega) ((lbad_pre (by omega)).mpr z), a w.length (by omega)⟩
  · rintro ⟨a, b⟩ j hj
    by_cases c : j < w.length
    · exact fun z => a j c ((lbad_pre (by omega)).mp z)
    · rw [show j = w.length by omega]
      exact b
theorem good_free (y : YardOk hs) {w : List Evt} (g : Good hs w) : 0 ≤ frK hs.sum w w.length := by
  by_cases c : w.length = 0
  · rw [c, frK_zero]
    exact y.sum.1
  · have := g (w.length - 1) (by omega)
    rw [show w.length - 1 + 1 = w.length by omega] at this
    by_cases z : 0 ≤ frK hs.sum w w.length
    · exact z
    · exact absurd (.inl (by omega)) this
/-- may this event be done next -/
def okn (hs : List Int) (t : Tb) (e : Evt) : Prop := ¬ (e.1 = ("in" : Str) ∧ ((t.length : Nat) : Int) = hs.sum) ∧ enough hs (aft hs t e) = true
instance (hs : List Int) (t : Tb) (e : Evt) : Decidable (okn hs t e) := inferInstanceAs (Decidable (_ ∧ _))
theorem okn_good (y : YardOk hs) {w : List Evt} {e : Evt} (g : Good hs w) (v : Val (w ++ [e])) : okn hs (tabOf hs w) e ↔ Good hs (w ++ [e]) := by
  obtain ⟨vw, he⟩ := v.snoc
  have m := mk_of (hs := hs) vw
  have m2 := mk_of (hs := hs) v
  rw [tab_snoc] at m2
  have f0 := good_free y g
  have hl := m.len
  have ln : (w ++ [e]).length = w.length + 1 := by rw [List.length_append, List.length_singleton]
  have stp' := v.fr_step (n := hs.sum) (show (w ++ [e])[w.length]? = some e by simp)
  have fe1 : frK hs.sum (w ++ [e]) (w.length + 1) = fr hs.sum (w ++ [e]) (w.length + 1) := rfl
  have fe2 : frK hs.sum w w.length = fr hs.sum (w ++ [e]) w.length := (frK_pre (n := hs.sum) (v := [e]) (Nat.le_refl w.length)).symm
  rw [← fe1, ← fe2] at stp'
  rw [good_snoc]
  unfold okn
  by_cases c : e.1 = ("in" : Str) ∧ (((tabOf hs w).length : Nat) : Int) = hs.sum
  · refine ⟨fun z => absurd c z.1, fun z => absurd (.inl ?_) z.2⟩
    rw [stp', if_pos c.1]
    omega
  · have f1 : 0 ≤ frK hs.sum (w ++ [e]) (w ++ [e]).length := by
      rw [ln, stp']
      split
      · rename_i z
        have : ¬ (((tabOf hs w).length : Nat) : Int) = hs.sum := fun z2 => c ⟨z, z2⟩
        omega
      · omega
    have en := m2.enough f1
    rw [ln] at en
    exact ⟨fun z => ⟨g, en.mp z.2⟩, fun z => ⟨c, en.mpr z.2⟩⟩
end
end W63
end PartM8
section PartM9
set_option maxRecDepth 100000
set_option maxHeartbeats 2000000
/-! M9: the weaves counted by states, plain. -/
namespace W63
open PySem PySem.Spec PyProof.Rows L2 DL
def keysND {κ β : Type} (kvs : List (κ × β)) : Prop := (kvs.map (·.1)).Nodup
section
variable {κ : Type} [DecidableEq κ] {β : Type}
theorem pt_keys {kvs : List (κ × β)} {k : κ} {v : β} (h : keysND kvs) : keysND (pt kvs k v) := by
  unfold pt keysND at *
  by_cases c : (kvs.any fun q => decide (q.1 = k)) = true
  · rw [if_pos c, List.map_map]
    have e : kvs.map ((fun q : κ × β => q.1) ∘ fun q => if q.1 = k then (q.1, v) else q) = kvs.map (·.1) := List.map_congr_left fun q _ => by
      show (if q.1 = k then (q.1, v) else q).1 = q.1
      split <;> rfl
    rw [e]
    exact h
  · rw [if_neg c, List.map_append, List.nodup_append]
    refine ⟨h, by simp, fun a ha b hb z => ?_⟩
    have hb : b = k := by simpa using hb
    subst hb
    subst z
    obtain ⟨q, hq, e⟩ := List.mem_map.mp ha
    exact c (List.any_eq_true.mpr ⟨q, hq, decide_eq_true e⟩)
end
noncomputable instance (hs : List Int) (w : List Evt) : Decidable (Good hs w) := Classical.propDecidable _
/-- what the states weigh -/
def wgt (rows : List (WK × WV)) (f : WK → Int) : Int := (rows.map fun q => q.2.1 * f q.1).sum
theorem wgt_cons (q : WK × WV) (rows : List (WK × WV)) (f : WK → Int) : wgt (q :: rows) f = q.2.1 * f q.1 + wgt rows f := by
  unfold wgt
  rw [List.map_cons, List.sum_cons]
theorem wgt_pt {k : WK} {m : Int} {ev : List Evt} {f : WK → Int} : ∀ {acc : List (WK × WV)}, keysND acc → wgt (pt acc k (((vl acc k).getD (0, [])).1 + m, ev)) f = wgt acc f + m * f k
  | [], _ => by
    show wgt [(k, ((0 : Int) + m, ev))] f = _
    rw [wgt_cons]
    show (0 + m) * f k + 0 = 0 + m * f k
    rw [Int.zero_add, Int.add_zero, Int.zero_add]
  | q :: acc, h => by
    have h' : (q.1 :: acc.map (·.1)).Nodup := h
    obtain ⟨n1, n2⟩ := List.nodup_cons.mp h'
    by_cases c : q.1 = k
    · have e1 : vl (q :: acc) k = some q.2 := by
        unfold vl
        rw [List.find?_cons]
        simp [c]
      have e2 : ∀ v : WV, pt (q :: acc) k v = (k, v) :: acc := fun v => by
        unfold pt
        rw [if_pos (by simp [c]), List.map_cons, if_pos c, c]
        congr 1
        have : ∀ z ∈ acc, (if z.1 = k then (z.1, v) else z) = z := fun z hz => if_neg fun y => n1 (by rw [c, ← y]; exact List.mem_map.mpr ⟨z, hz, rfl⟩)
        exact (List.map_congr_left this).trans (List.map_id' _)
      rw [e1, e2, wgt_cons, wgt_cons, c]
      show (q.2.1 + m) * f k + wgt acc f = q.2.1 * f k + wgt acc f + m * f k
      rw [Int.add_mul]
      omega
    · have e1 : vl (q :: acc) k = vl acc k := by
        unfold vl
        rw [List.find?_cons]
        simp [c]
      have e2 : ∀ v : WV, pt (q :: acc) k v = q :: pt acc k v := fun v => by
        unfold pt
        by_cases d : (acc.any fun q => decide (q.1 = k)) = true
        · rw [if_pos d, if_pos (by rw [List.any_cons, d]; simp), List.map_cons, if_neg c]
        · rw [if_neg d, if_neg (by rw [List.any_cons]; simp only [c, decide_false, Bool.false_or]; exact d)]
          rfl
      rw [e1, e2, wgt_cons, wgt_cons, wgt_pt n2]
      omega
section
variable {hs : List Int} {one other : List Evt} {f : WK → Int}
/-- what the next events weigh -/
def nxW (hs : List Int) (one other : List Evt) (f : WK → Int) (k : WK) : Int := ((nexts one other k.1 k.2.1).map fun x => if okn hs k.2.2 x.2.2 then f (x.1, x.2.1, aft hs k.2.2 x.2.2) else 0).sum
theorem stE_eq {t : Tb} {v : WV} {acc : List (WK × WV)} {x : Nx} : stE hs t v acc x = if okn hs t x.2.2 then pt acc (x.1, x.2.1, aft hs t x.2.2) (((vl acc (x.1, x.2.1, aft hs t x.2.2)).getD (0, [])).1 + v.1, v.2 ++ [x.2.2]) else acc := by
  unfold stE
  by_cases c : x.2.2.1 = ("in" : Str) ∧ ((t.length : Nat) : Int) = hs.sum
  · rw [if_pos c, if_neg (show ¬ okn hs t x.2.2 from fun z => z.1 c)]
  · rw [if_neg c]
    by_cases d : enough hs (aft hs t x.2.2) = true
    · rw [if_pos d, if_pos (show okn hs t x.2.2 from ⟨c, d⟩)]
    · rw [if_neg d, if_neg (show ¬ okn hs t x.2.2 from fun z => d z.2)]
theorem stE_w {t : Tb} {v : WV} {acc : List (WK × WV)} {x : Nx} (h : keysND acc) : keysND (stE hs t v acc x) ∧ wgt (stE hs t v acc x) f = wgt acc f + v.1 * (if okn hs t x.2.2 then f (x.1, x.2.1, aft hs t x.2.2) else 0) := by
  rw [stE_eq]
  by_cases c : okn hs t x.2.2
  · rw [if_pos c, if_pos c]
    exact ⟨pt_keys h, wgt_pt h⟩
  · rw [if_neg c, if_neg c, Int.mul_zero, Int.add_zero]
    exact ⟨h, rfl⟩
theorem foldE_w {t : Tb} {v : WV} : ∀ (xs : List Nx) (acc : List (WK × WV)), keysND acc → keysND (xs.foldl (stE hs t v) acc) ∧ wgt (xs.foldl (stE hs t v) acc) f = wgt acc f + v.1 * (xs.map fun x => if okn hs t x.2.2 then f (x.1, x.2.1, aft hs t x.2.2) else 0).sum
  | [], acc, h => ⟨h, by simp⟩
  | x :: xs, acc, h => by
    obtain ⟨h1, h2⟩ := stE_w (f := f) (t := t) (v := v) (x := x) (hs := hs) h
    obtain ⟨h3, h4⟩ := foldE_w xs _ h1
    refine ⟨h3, ?_⟩
    rw [List.foldl_cons, h4, h2, List.map_cons, List.sum_cons, Int.mul_add]
    omega
theorem foldR_w : ∀ (xs acc : List (WK × WV)), keysND acc → keysND (xs.foldl (stR hs one other) acc) ∧ wgt (xs.foldl (stR hs one other) acc) f = wgt acc f + wgt xs (nxW hs one other f)
  | [], acc, h => ⟨h, by unfold wgt; simp⟩
  | q :: xs, acc, h => by
    obtain ⟨h1, h2⟩ := foldE_w (f := f) (t := q.1.2.2) (v := q.2) (hs := hs) (nexts one other q.1.1 q.1.2.1) acc h
    have h1' : keysND (stR hs one other acc q) := h1
    obtain ⟨h3, h4⟩ := foldR_w xs _ h1'
    refine ⟨h3, ?_⟩
    have h2' : wgt (stR hs one other acc q) f = wgt acc f + q.2.1 * nxW hs one other f q.1 := h2
    rw [List.foldl_cons, h4, h2', wgt_cons]
    omega
/-- the beginnings that can be carried out -/
noncomputable def gbs (hs : List Int) (one other : List Evt) (n : Nat) : List Bg := (bgs one other n).filter fun x => decide (Good hs x.1)
theorem gbs_mem {n : Nat} {x : Bg} : x ∈ gbs hs one other n ↔ x ∈ bgs one other n ∧ Good hs x.1 := by
  unfold gbs
  rw [List.mem_filter, decide_eq_true_iff]
def keyOf (hs : List Int) (x : Bg) : WK := (x.2.1, x.2.2, tabOf hs x.1)
theorem sum_flat {α β : Type} (g : α → List β) (h : β → Int) : ∀ xs : List α, ((xs.flatMap g).map h).sum = (xs.map fun x => ((g x).map h).sum).sum
  | [] => rfl
  | x :: xs => by rw [List.flatMap_cons, List.map_append, List.sum_append, List.map_cons, List.sum_cons, sum_flat g h xs]
theorem bgN_nexts {x : Bg} : bgN one other x = (nexts one other x.2.1 x.2.2).map fun y => (x.1 ++ [y.2.2], y.1, y.2.1) := by
  unfold bgN nexts
  rw [List.map_append]
  congr 1
  · cases one[x.2.1]? <;> rfl
  · cases other[x.2.2]? <;> rfl
theorem nexts_bg {x : Bg} {y : Nx} (hy : y ∈ nexts one other x.2.1 x.2.2) : (x.1 ++ [y.2.2], y.1, y.2.1) ∈ bgN one other x := by
  rw [bgN_nexts]
  exact List.mem_map.mpr ⟨y, hy, rfl⟩
theorem bg_next {n : Nat} {x : Bg} (hx : x ∈ bgs one other n) {y : Nx} (hy : y ∈ nexts one other x.2.1 x.2.2) : (x.1 ++ [y.2.2], y.1, y.2.1) ∈ bgs one other (n + 1) := List.mem_flatMap.mpr ⟨x, hx, nexts_bg hy⟩
theorem gbs_next (y : YardOk hs) (T : Two hs.sum one other) {n : Nat} : ((gbs hs one other (n + 1)).map fun x => f (keyOf hs x)).sum = ((gbs hs one other n).map fun x => nxW hs one other f (keyOf hs x)).sum := by
  have e1 : gbs hs one other (n + 1) = (gbs hs one other n).flatMap fun x => (bgN one other x).filter fun z => decide (Good hs z.1) := by
    have key : ∀ l : List Bg, ((l.flatMap (bgN one other)).filter fun z => decide (Good hs z.1)) = (l.filter fun x => decide (Good hs x.1)).flatMap fun x => (bgN one other x).filter fun z => decide (Good hs z.1) := by
      intro l
      induction l with
      | nil => rfl
      | cons x l ih =>
        rw [List.flatMap_cons, List.filter_append, ih, List.filter_cons]
        by_cases c : Good hs x.1
        · rw [if_pos (by simpa using c), List.flatMap_cons]
        · rw [if_neg (by simpa using c)]
          have : ((bgN one other x).filter fun z => decide (Good hs z.1)) = [] := by
            rw [List.filter_eq_nil_iff]
            intro z hz
            rw [bgN_nexts] at hz
            obtain ⟨w, hw, rfl⟩ := List.mem_map.mp hz
            simp only [decide_eq_true_eq]
            exact fun g => c (good_snoc.mp g).1
          rw [this, List.nil_append]
    exact key (bgs one other n)
  rw [e1, sum_flat]
  refine congrArg List.sum (List.map_congr_left fun x hx => ?_)
  obtain ⟨hb, hg⟩ := gbs_mem.mp hx
  unfold nxW
  rw [bgN_nexts]
  have key : ∀ l : List Nx, (∀ z ∈ l, z ∈ nexts one other x.2.1 x.2.2) → (((l.map fun z => (x.1 ++ [z.2.2], z.1, z.2.1)).filter fun z => decide (Good hs z.1)).map fun z => f (keyOf hs z)).sum = (l.map fun z => if okn hs (keyOf hs x).2.2 z.2.2 then f (z.1, z.2.1, aft hs (keyOf hs x).2.2 z.2.2) else 0).sum := by
    intro l
    induction l with
    | nil => intro _; rfl
    | cons z l ih =>
      intro hl
      have i := ih fun u hu => hl u (List.mem_cons_of_mem _ hu)
      have wv := (bgs_wv.mp (bg_next hb (hl z List.mem_cons_self))).1
      have ok := okn_good y hg (wv.facts T).val
      rw [List.map_cons, List.filter_cons, List.map_cons, List.sum_cons, ← i]
      by_cases c : Good hs (x.1 ++ [z.2.2])
      · rw [if_pos (by simpa using c), if_pos (show okn hs (keyOf hs x).2.2 z.2.2 from ok.mpr c), List.map_cons, List.sum_cons]
        congr 2
        unfold keyOf
        rw [tab_snoc]
      · rw [if_neg (by simpa using c), if_neg (show ¬ okn hs (keyOf hs x).2.2 z.2.2 from fun q => c (ok.mp q)), Int.zero_add]
  exact key _ fun z hz => hz
/-- what the states are, behind n events -/
theorem wst_is (y : YardOk hs) (T : Two hs.sum one other) : ∀ n, keysND (wst hs one other n) ∧ (∀ f, wgt (wst hs one other n) f = ((gbs hs one other n).map fun x => f (keyOf hs x)).sum) ∧ ∀ q ∈ wst hs one other n, ∃ x ∈ gbs hs one other n, keyOf hs x = q.1 ∧ x.1 = q.2.2
  | 0 => by
    have e : gbs hs one other 0 = [([], 0, 0)] := by
      unfold gbs
      show (([([], 0, 0)] : List Bg).filter _) = _
      rw [List.filter_cons, if_pos (by simpa using good_nil)]
      rfl
    refine ⟨by unfold keysND; simp [wst], fun f => ?_, fun q hq => ?_⟩
    · rw [e]
      show wgt [((0, 0, []), (1, []))] f = _
      rw [wgt_cons]
      show 1 * f (0, 0, []) + 0 = f (0, 0, []) + 0
      rw [Int.one_mul]
    · have : q = ((0, 0, []), (1, [])) := by simpa [wst] using hq
      subst this
      exact ⟨([], 0, 0), by rw [e]; simp, rfl, rfl⟩
  | n + 1 => by
    obtain ⟨h1, h2, h3⟩ := wst_is y T n
    have hw : ∀ f, keysND (wst hs one other (n + 1)) ∧ wgt (wst hs one other (n + 1)) f = wgt [] f + wgt (wst hs one other n) (nxW hs one other f) := fun f => foldR_w (wst hs one other n) [] (by unfold keysND; simp)
    refine ⟨(hw fun _ => 0).1, fun f => ?_, ?_⟩
    · rw [(hw f).2, h2, gbs_next y T]
      show 0 + _ = _
      rw [Int.zero_add]
    · have inner : ∀ (x0 : Bg), x0 ∈ gbs hs one other n → ∀ (q : WK × WV), keyOf hs x0 = q.1 → x0.1 = q.2.2 → ∀ (xs : List Nx), (∀ z ∈ xs, z ∈ nexts one other x0.2.1 x0.2.2) → ∀ acc : List (WK × WV), (∀ u ∈ acc, ∃ x ∈ gbs hs one other (n + 1), keyOf hs x = u.1 ∧ x.1 = u.2.2) → ∀ u ∈ xs.foldl (stE hs q.1.2.2 q.2) acc, ∃ x ∈ gbs hs one other (n + 1), keyOf hs x = u.1 ∧ x.1 = u.2.2 := by
        intro x0 hx0 q k1 k2 xs
        induction xs with
        | nil => intro _ acc ha; exact ha
        | cons z xs ih =>
          intro hz acc ha
          refine ih (fun w hw => hz w (List.mem_cons_of_mem _ hw)) _ fun u hu => ?_
          rw [stE_eq] at hu
          split at hu
          · rename_i ok
            rcases mem_pt hu with hu | rfl
            · exact ha u hu
            · obtain ⟨hb, hg⟩ := gbs_mem.mp hx0
              have hn := bg_next hb (hz z List.mem_cons_self)
              have wv := (bgs_wv.mp hn).1
              rw [← k1] at ok
              refine ⟨_, gbs_mem.mpr ⟨hn, (okn_good y hg (wv.facts T).val).mp ok⟩, ?_, ?_⟩
              · rw [← k1]
                unfold keyOf
                rw [tab_snoc]
              · show x0.1 ++ [z.2.2] = q.2.2 ++ [z.2.2]
                rw [k2]
          · exact ha u hu
      have outer : ∀ (xs : List (WK × WV)), (∀ q ∈ xs, q ∈ wst hs one other n) → ∀ acc : List (WK × WV), (∀ u ∈ acc, ∃ x ∈ gbs hs one other (n + 1), keyOf hs x = u.1 ∧ x.1 = u.2.2) → ∀ u ∈ xs.foldl (stR hs one other) acc, ∃ x ∈ gbs hs one other (n + 1), keyOf hs x = u.1 ∧ x.1 = u.2.2 := by
        intro xs
        induction xs with
        | nil => intro _ acc ha; exact ha
        | cons q xs ih =>
          intro hq acc ha
          refine ih (fun w hw => hq w (List.mem_cons_of_mem _ hw)) _ ?_
          obtain ⟨x0, hx0, k1, k2⟩ := h3 q (hq q List.mem_cons_self)
          refine inner x0 hx0 q k1 k2 _ (fun z hz => ?_) acc ha
          rw [← k1] at hz
          exact hz
      exact outer _ (fun q hq => hq) [] fun u hu => nomatch hu
/-- the weaves that can be carried out -/
noncomputable def goodW (hs : List Int) (one other : List Evt) : List (List Evt) := (allW one other).filter fun w => decide (Good hs w)
theorem goodW_mem {w : List Evt} : w ∈ goodW hs one other ↔ w ∈ allW one other ∧ Good hs w := by
  unfold goodW
  rw [List.mem_filter, decide_eq_true_iff]
theorem goodW_gbs : goodW hs one other = (gbs hs one other (one.length + other.length)).map (·.1) := by
  unfold goodW gbs allW
  rw [List.filter_map]
  rfl
theorem count_is (y : YardOk hs) (T : Two hs.sum one other) : ((wst hs one other (one.length + other.length)).map fun q => q.2.1).sum = ((goodW hs one other).length : Nat) := by
  have h := (wst_is y T (one.length + other.length)).2.1 fun _ => 1
  unfold wgt at h
  have e1 : (wst hs one other (one.length + other.length)).map (fun q => q.2.1 * 1) = (wst hs one other (one.length + other.length)).map fun q => q.2.1 := List.map_congr_left fun q _ => Int.mul_one _
  have e1' : ((wst hs one other (one.length + other.length)).map fun q => q.2.1 * (fun _ => (1 : Int)) q.1) = (wst hs one other (one.length + other.length)).map fun q => q.2.1 := e1
  rw [e1'] at h
  rw [h, goodW_gbs, List.length_map]
  generalize gbs hs one other (one.length + other.length) = l
  induction l with
  | nil => rfl
  | cons x l ih =>
    rw [List.map_cons, List.sum_cons, ih, List.length_cons]
    omega
theorem some_is (y : YardOk hs) (T : Two hs.sum one other) : (wst hs one other (one.length + other.length) = [] ∧ goodW hs one other = []) ∨ ∃ q rest, wst hs one other (one.length + other.length) = q :: rest ∧ q.2.2 ∈ goodW hs one other := by
  cases h : wst hs one other (one.length + other.length) with
  | nil =>
    refine .inl ⟨rfl, ?_⟩
    have c := count_is y T
    rw [h] at c
    have c' : (0 : Int) = ((goodW hs one other).length : Nat) := c
    exact List.length_eq_zero_iff.mp (by omega)
  | cons q rest =>
    refine .inr ⟨q, rest, rfl, ?_⟩
    obtain ⟨x, hx, _, k2⟩ := (wst_is y T (one.length + other.length)).2.2 q (by rw [h]; exact List.mem_cons_self)
    rw [goodW_gbs]
    exact List.mem_map.mpr ⟨x, hx, k2⟩
theorem every_good (y : YardOk hs) (T : Two hs.sum one other) {res : Option (List Evt)} (h : EveryIs hs one other res) : match res with | some w => w ∈ allW one other ∧ ¬ Good hs w | none => ∀ w ∈ allW one other, Good hs w := by
  cases res with
  | some w =>
    obtain ⟨h1, m, m1, m2, h2⟩ := every_some y T h
    refine ⟨allW_wv.mpr h1, fun g => ?_⟩
    have := g (m - 1) (by omega)
    rw [show m - 1 + 1 = m by omega] at this
    exact this h2
  | none => exact fun w hw j hj => every_none y T h (allW_wv.mp hw) (by omega) (by omega)
end
end W63
end PartM9
section PartLS1
set_option maxRecDepth 100000
set_option maxHeartbeats 4000000
namespace W63
open PySem PySem.Spec PyProof.Rows L2 DL
theorem Tt.evs {n : Int} {evs : List Evt} (t : Tt n evs) : ∀ e ∈ evs, EvOk e := fun e he => ⟨(t.val.words e he).imp id fun z => .inl z, t.names e he⟩
theorem rows_lay : ∀ {L : List (List Evt)}, (∀ w ∈ L, ∀ e ∈ w, EvOk e) → PyData.canLayAll0 (L.map ttD) = true
  | [], _ => rfl
  | w :: L, h => by
    show (PyData.canLayAll0 (w.map evD) && PyData.canLayAll0 (L.map ttD)) = true
    rw [evs_lay (h w List.mem_cons_self), rows_lay fun x hx => h x (List.mem_cons_of_mem _ hx)]
    rfl
theorem rows_depth : ∀ L : List (List Evt), PyData.depthAll (L.map ttD) ≤ 4
  | [] => Nat.zero_le _
  | w :: L => by
    have h1 := rows_depth L
    have h2 := tt_depth w
    simp only [List.map_cons, PyData.depthAll]
    omega
theorem rows_shaped {L : List (List Evt)} (h : ∀ w ∈ L, ∀ e ∈ w, EvOk e) : SeqAt.shaped (.list (L.map ttD)) = true := by
  unfold SeqAt.shaped
  rw [Bool.and_eq_true]
  have := rows_depth L
  refine ⟨rows_lay h, decide_eq_true ?_⟩
  simp only [PyData.depth]
  omega
theorem any_tt (L : List (List Evt)) (w : List Evt) : ((L.map ttD).any fun z => PyData.eqv z (ttD w)) = decide (w ∈ L) := by
  rw [List.any_map, Bool.eq_iff_iff, List.any_eq_true, decide_eq_true_iff]
  have k : ∀ x, ((fun z => PyData.eqv z (ttD w)) ∘ ttD) x = decide (x = w) := fun x => tt_eqv x w
  constructor
  · rintro ⟨x, h1, h2⟩
    rw [k, decide_eq_true_iff] at h2
    exact h2 ▸ h1
  · intro h
    exact ⟨w, h, by rw [k]; simp⟩
theorem stuck_good {hs : List Int} {w : List Evt} {res : Option Nat} (h : StuckIs hs w res) : res = none ↔ Good hs w := by
  cases res with
  | none => exact ⟨fun _ => h, fun _ => rfl⟩
  | some i => exact ⟨fun z => (nomatch z), fun g => absurd h.2 (g i h.1)⟩
theorem isNon_onD (r : Option Nat) : isNon (.d (onD r)) = decide (r = none) := by cases r <;> rfl
theorem isNon_evy (r : Option (List Evt)) : isNon (.d (evyD r)) = decide (r = none) := by cases r <;> rfl
theorem ne_self (x : Str) : decide (x ≠ x) = false := decide_eq_false fun z => z rfl
theorem allW_len (one other : List Evt) : (allW one other).length ≤ 2 ^ (one.length + other.length) := by
  unfold allW
  rw [List.length_map]
  exact bgs_len ..
section
variable {P : Program} {w : World} {K : PySem.W.Frag} {mg : Str → Option Value} {base : Heap} {f : Addr} {fd : FuncData}
abbrev s_lshort : Stmt := top 56
theorem sc_lshort : FnScope ["_law_yard", "_law_heights", "_law_one", "_law_other", "_law_rows", "_law_good", "_law_row", "_law_some", "_law_every"] ["_law_yard", "_law_heights", "_law_one", "_law_other"] (defScope s_lshort) := ⟨rfl, rfl, rfl, by decide +kernel, rfl, by decide +kernel, by decide +kernel⟩
def w_lshort : Wp := fun as Ψ => ∃ (hs : List Int) (one other : List Evt), as = [.yd hs, .d (liD hs), .d (ttD one), .d (ttD other)] ∧ YardOk hs ∧ Two hs.sum one other ∧ one.length + other.length ≤ 10 ∧ Ψ (.d (.bool true))
/-- the three functions, by their places and by their names -/
structure Prog3 (P : Program) (w : World) (K : PySem.W.Frag) (mg : Str → Option Value) (base : Heap) : Prop where
  ct : DefOk P w K mg base (L2.CX P w) "count_weaves" 8 ["yard", "one", "other"] (spX mg K w_count wx_apart)
  sm : DefOk P w K mg base (L2.CX P w) "some_weave" 8 ["yard", "one", "other"] (spX mg K w_some wx_apart)
  ev : DefOk P w K mg base (L2.CX P w) "every_weave" 7 ["yard", "one", "other"] (spX mg K w_every wx_apart)
  ctK : DefOkK P w K mg base (L2.CX P w) "count_weaves" 8 ["yard", "one", "other"] (spX mg K w_count wx_apart)
  smK : DefOkK P w K mg base (L2.CX P w) "some_weave" 8 ["yard", "one", "other"] (spX mg K w_some wx_apart)
  evK : DefOkK P w K mg base (L2.CX P w) "every_weave" 7 ["yard", "one", "other"] (spX mg K w_every wx_apart)
theorem some_opt {hs : List Int} {one other : List Evt} (y : YardOk hs) (T : Two hs.sum one other) : ∃ so : Option (List Evt), someD (wst hs one other (one.length + other.length)) = evyD so ∧ (so = none ↔ goodW hs one other = []) ∧ ∀ x, so = some x → x ∈ goodW hs one other := by
  rcases some_is y T with ⟨e1, e2⟩ | ⟨q, rest, e1, e2⟩
  · exact ⟨none, by rw [e1]; rfl, ⟨fun _ => e2, fun _ => rfl⟩, fun x z => nomatch z⟩
  · refine ⟨some q.2.2, by rw [e1]; rfl, ⟨fun z => (nomatch z), fun z => ?_⟩, fun x z => by cases z; exact e2⟩
    rw [z] at e2
    cases e2
theorem ok_lshort (F : Fun K "_law_short_right" "_law_short_right" s_lshort f fd) (T : Bl mg) (G : Prog3 P w K mg base) (D1 : DefOk P w K mg base CX0 "_law_weaves" 1 ["_law_one", "_law_other"] (spD K w_lweaves)) (D2 : DefOk P w K mg base CX0 "_law_stuck" 3 ["_law_heights", "_law_events"] (spD K w_lstuck)) :
    FnOk P w K mg base CX0 9 f fd ["_law_yard", "_law_heights", "_law_one", "_law_other"] (spD K w_lshort) := by
  refine fnD F sc_lshort (fun as Ψ ⟨_, _, _, e, _⟩ => by rw [e]; rfl) (fun cdv A outer s H E as Ψ hr ⟨hs, one, other, e, yo, tw, hl, q⟩ => ?_)
  subst e
  have nd := sc_lshort.nd
  have al := allW_len one other
  have pw : 2 ^ (one.length + other.length) ≤ 2 ^ 10 := Nat.pow_le_pow_right (by decide) hl
  have al2 : (allW one other).length ≤ 1024 := by omega
  have hl2 : one.length + other.length ≤ 12 := by omega
  have wok : ∀ x ∈ allW one other, ∀ e ∈ x, EvOk e := fun x hx e he => by
    rcases (allW_wv.mp hx).mem e he with z | z
    · exact tw.o.evs e z
    · exact tw.t.evs e z
  have wlen : ∀ x ∈ allW one other, x.length ≤ 100 := fun x hx => by
    have := (allW_wv.mp hx).bd
    omega
  refine ss_cons <| ss_set 4 (EV.ec <| ev_call D1 (hr.mono (by decide)) <| ea_cons <| ev_var 2 rfl <| ea_cons <| ev_var 3 rfl <| ea_nil ⟨one, other, rfl, hl2, ?_⟩) nd
  refine ss_cons <| ss_setLc (ix := [6]) 5 [("_law_row", 6)] rfl nd <| ie_list <| ev_var 4 rfl ⟨_, rfl, rfl, by rw [List.length_map]; omega, fun i acc => acc = (((allW one other).take i).filter fun x => decide (Good hs x)).map ttD, by simp, fun i x acc hx ha B => ?_, fun acc ha => ?_⟩
  · obtain ⟨z, hz, rfl⟩ := map_at hx
    have hzm := List.mem_of_getElem? hz
    have tk : (((allW one other).take (i + 1)).filter fun x => decide (Good hs x)) = (((allW one other).take i).filter fun x => decide (Good hs x)) ++ (if Good hs z then [z] else []) := by
      rw [List.take_add_one, hz, List.filter_append]
      congr 1
      show [z].filter _ = _
      rw [List.filter_cons]
      by_cases c : Good hs z
      · rw [if_pos (by simpa using c), if_pos c]; rfl
      · rw [if_neg (by simpa using c), if_neg c]; rfl
    refine gb_name 6 (fun B => ets_one <| et_isN <| ev_call D2 (hr.mono (by decide)) <| ea_cons <| ev_var 1 rfl <| ea_cons <| ev_var 6 rfl <| ea_nil ⟨hs, z, rfl, yo, wlen z hzm, fun res hres => ⟨rfl, ?_⟩⟩) nd
    rw [isNon_onD]
    refine ite2 (fun c B => ev_var 6 rfl ⟨rfl, _, rfl, ?_⟩) fun c => ?_
    · show acc ++ [ttD z] = (((allW one other).take (i + 1)).filter fun x => decide (Good hs x)).map ttD
      rw [tk, if_pos ((stuck_good hres).mp (of_decide_eq_true c)), List.map_append, ha]
      rfl
    · show acc = (((allW one other).take (i + 1)).filter fun x => decide (Good hs x)).map ttD
      rw [tk, if_neg (fun g => c (decide_eq_true ((stuck_good hres).mpr g))), List.append_nil]
      exact ha
  rw [List.length_map, List.take_length] at ha
  have ha' : acc = (goodW hs one other).map ttD := ha
  subst ha'
  have gsub : ∀ x ∈ goodW hs one other, x ∈ allW one other := fun x hx => (goodW_mem.mp hx).1
  have gl : (goodW hs one other).length ≤ (allW one other).length := List.length_filter_le ..
  have gok : ∀ x ∈ goodW hs one other, ∀ e ∈ x, EvOk e := fun x hx => wok x (gsub x hx)
  have cnt := count_is yo tw
  obtain ⟨so, so1, so2, so3⟩ := some_opt yo tw
  have cl : (((goodW hs one other).length : Nat) : Int).natAbs.log2 < 1920 := by
    rw [Int.natAbs_natCast]
    have := Nat.log2_le_self (goodW hs one other).length
    omega
  -- the counts
  generalize hρ : ([some (.p (.yd hs)), some (.p (.d (liD hs))), some (.p (.d (ttD one))), some (.p (.d (ttD other))), some (.p (.d (.list ((allW one other).map ttD)))), some (.p (.d (.list ((goodW hs one other).map ttD)))), none, none, none] : Ev) = ρ0
  refine ss_cons <| ss_if <| ET.mono (Q := fun b ρ1 => b = false ∧ ρ1 = ρ0) ?_ ?_
  · subst hρ
    refine EW.et <| ew_or <| et_neS <| ev_repr T.repr <| ev_callX G.ct hr <| ea_cons <| ev_var 0 rfl <| ea_cons <| ev_var 2 rfl <| ea_cons <| ev_var 3 rfl <| ea_nil ⟨hs, one, other, rfl, yo, tw, hl2, _, rfl, ?_, ev_repr T.repr <| ev_len T.len <| ev_take 5 rfl ⟨_, ((goodW hs one other).map ttD).length, rfl, rfl, _, rfl, ?_, _, _, rfl, rfl, ?_⟩⟩
    · rw [cnt]
      exact cl
    · rw [List.length_map]
      exact cl
    · rw [cnt, List.length_map, ne_self]
      refine iteF <| ew_or1 <| et_neI <| ev_callXKD G.ctK hr <| ek_cons <| ev_var 0 rfl <| ek_cons <| ev_var 2 rfl <| ek_cons <| ev_var 3 rfl <| ek_nil ⟨hs, one, other, rfl, yo, tw, hl2, ev_len T.len <| ev_var 5 rfl ⟨_, ((goodW hs one other).map ttD).length, rfl, rfl, _, _, rfl, rfl, ?_⟩⟩
      rw [cnt, List.length_map]
      exact ⟨decide_eq_false fun z => z rfl, rfl⟩
  rintro b ρ1 ⟨rfl, rfl⟩
  subst hρ
  refine iteF <| ss_nil <| ss_cons <| ss_par 7 8 (by decide) rfl nd (EV.ec <| ev_callX G.sm hr <| ea_cons <| ev_var 0 rfl <| ea_cons <| ev_var 2 rfl <| ea_cons <| ev_var 3 rfl <| ea_nil ⟨hs, one, other, rfl, yo, tw, hl2, EV.ec <| ev_callX G.ev (hr.mono (by decide)) <| ea_cons <| ev_var 0 rfl <| ea_cons <| ev_var 2 rfl <| ea_cons <| ev_var 3 rfl <| ea_nil ⟨hs, one, other, rfl, yo, tw, fun res hres => ?_⟩⟩)
  have eg := every_good yo tw hres
  rw [so1]
  have r1 : decide (res = none) = decide ((goodW hs one other).length = (allW one other).length) := by
    rw [decide_eq_decide]
    constructor
    · rintro rfl
      have : goodW hs one other = allW one other := List.filter_eq_self.mpr fun x hx => decide_eq_true (eg x hx)
      rw [this]
    · intro z
      cases res with
      | none => rfl
      | some x =>
        exfalso
        have e1 : goodW hs one other = allW one other := List.filter_eq_self.mpr (List.length_filter_eq_length_iff.mp z)
        exact eg.2 (goodW_mem.mp (by rw [e1]; exact eg.1)).2
  have s1 : decide (so = none) = decide (goodW hs one other = []) := by
    rw [decide_eq_decide]
    exact so2
  have shg := rows_shaped gok
  have shr := rows_shaped wok
  generalize hρ : ([some (.p (.yd hs)), some (.p (.d (liD hs))), some (.p (.d (ttD one))), some (.p (.d (ttD other))), some (.p (.d (.list ((allW one other).map ttD)))), some (.p (.d (.list ((goodW hs one other).map ttD)))), none, some (.p (.d (evyD so))), some (.p (.d (evyD res)))] : Ev) = ρ0
  refine ss_cons <| ss_if <| ET.mono (Q := fun b ρ1 => b = false ∧ ρ1 = ρ0) ?_ ?_
  · subst hρ
    refine EW.et <| ew_or <| et_ne hr <| ev_isN <| ev_var 7 rfl <| ev_eq hr <| ev_var 5 rfl <| EN.ev <| en_lst <| ea_nil ⟨[], rfl, by simp, _, _, rfl, rfl, shg, by decide +kernel, _, _, rfl, rfl, rfl, rfl, ?_⟩
    rw [isNon_evy, eqv_nil, s1]
    have e1 : PyData.eqv (.bool (decide (goodW hs one other = []))) (.bool (decide ((goodW hs one other).map ttD = []))) = true := by
      show (decide (goodW hs one other = []) == decide ((goodW hs one other).map ttD = [])) = true
      cases goodW hs one other <;> simp
    rw [e1]
    refine iteF <| ew_or1 <| et_ne hr <| ev_isN <| ev_var 8 rfl <| ev_eqI <| ev_len T.len <| ev_var 5 rfl ⟨_, ((goodW hs one other).map ttD).length, rfl, rfl, ev_len T.len <| ev_var 4 rfl ⟨_, ((allW one other).map ttD).length, rfl, rfl, _, _, rfl, rfl, _, _, rfl, rfl, rfl, rfl, ?_⟩⟩
    rw [isNon_evy, r1, List.length_map, List.length_map]
    have e2 : PyData.eqv (.bool (decide ((goodW hs one other).length = (allW one other).length))) (.bool (decide (((goodW hs one other).length : Int) = (allW one other).length))) = true := by
      show (decide ((goodW hs one other).length = (allW one other).length) == decide (((goodW hs one other).length : Int) = (allW one other).length)) = true
      rw [beq_iff_eq, decide_eq_decide]
      omega
    rw [e2]
    exact ⟨rfl, rfl⟩
  rintro b ρ1 ⟨rfl, rfl⟩
  subst hρ
  generalize hρ : ([some (.p (.yd hs)), some (.p (.d (liD hs))), some (.p (.d (ttD one))), some (.p (.d (ttD other))), some (.p (.d (.list ((allW one other).map ttD)))), some (.p (.d (.list ((goodW hs one other).map ttD)))), none, some (.p (.d (evyD so))), some (.p (.d (evyD res)))] : Ev) = ρ0
  refine iteF <| ss_nil <| ss_cons <| ss_if <| ET.mono (Q := fun b ρ1 => b = false ∧ ρ1 = ρ0) ?_ ?_
  · subst hρ
    refine EW.et <| ew_and <| et_notN <| ev_var 7 rfl ?_
    rw [isNon_evy]
    cases so with
    | none => exact iteF ⟨rfl, rfl⟩
    | some x =>
      have xm := so3 x rfl
      refine iteT <| ew_and1 <| EW.et <| ew_or <| et_ninL hr <| ev_var 7 rfl <| ev_var 5 rfl ⟨ttD x, _, rfl, rfl, tt_shaped (gok x xm), shg, ?_⟩
      rw [any_tt, decide_eq_true xm]
      refine iteF <| ew_or1 <| et_ninL hr <| ev_callXKD G.smK hr <| ek_cons <| ev_var 0 rfl <| ek_cons <| ev_var 2 rfl <| ek_cons <| ev_var 3 rfl <| ek_nil ⟨hs, one, other, rfl, yo, tw, hl2, ev_var 5 rfl ⟨ttD x, _, by rw [so1]; rfl, rfl, tt_shaped (gok x xm), shg, ?_⟩⟩
      rw [any_tt, decide_eq_true xm]
      exact ⟨rfl, rfl⟩
  rintro b ρ1 ⟨rfl, rfl⟩
  subst hρ
  refine iteF <| ss_nil <| ss_one <| ss_ret <| ev_or <| ev_isN <| ev_var 8 rfl ⟨_, rfl, ?_⟩
  rw [isNon_evy]
  cases res with
  | none => exact iteT q
  | some x =>
    have xa := eg.1
    have xn : x ∉ goodW hs one other := fun z => eg.2 (goodW_mem.mp z).2
    refine iteF <| ev_one <| ev_and <| ev_inL hr <| ev_var 8 rfl <| ev_var 4 rfl ⟨ttD x, _, rfl, rfl, tt_shaped (wok x xa), shr, _, rfl, ?_⟩
    rw [any_tt, decide_eq_true xa]
    refine iteT <| ev_one <| ev_ninL hr <| ev_var 8 rfl <| ev_var 5 rfl ⟨ttD x, _, rfl, rfl, tt_shaped (wok x xa), shg, ?_⟩
    rw [any_tt, decide_eq_false xn]
    exact q
end
end W63
end PartLS1
section PartLS2
set_option maxRecDepth 100000
set_option maxHeartbeats 4000000
namespace W63
open PySem PySem.Spec PyProof.Rows L2 DL
section
variable {P : Program} {w : World} {K : PySem.W.Frag} {mg : Str → Option Value} {base : Heap} {f : Addr} {fd : FuncData}
abbrev s_llong : Stmt := top 57
theorem sc_llong : FnScope ["_law_heap_here", "_law_yard", "_law_heights", "_law_one", "_law_other", "_law_every", "_law_turn"] ["_law_heap_here", "_law_yard", "_law_heights", "_law_one", "_law_other"] (defScope s_llong) := ⟨rfl, rfl, rfl, by decide +kernel, rfl, by decide +kernel, by decide +kernel⟩
def w_llong : Wp := fun as Ψ => ∃ (hs : List Int) (one other : List Evt), as = [.yd hs, .d (liD hs), .d (ttD one), .d (ttD other)] ∧ YardOk hs ∧ Two hs.sum one other ∧ Ψ (.d (.bool true))
theorem ok_llong (F : Fun K "_law_long_right" "_law_long_right" s_llong f fd) (T : Bl mg) (G : Prog3 P w K mg base) (D1 : DefOk P w K mg base CX0 "_law_is_weave" 1 ["_law_value", "_law_one", "_law_other"] (spD K w_lis)) (D2 : DefOk P w K mg base CX0 "_law_stuck" 3 ["_law_heights", "_law_events"] (spD K w_lstuck))
    (D3 : DefOk P w K mg base CX0 "_law_some_weave" 2 ["_law_heap_here", "_law_one", "_law_other"] (spR K w_lsome)) :
    FnOk P w K mg base CX0 8 f fd ["_law_heap_here", "_law_yard", "_law_heights", "_law_one", "_law_other"] (spR K w_llong) := by
  refine fnR F sc_llong (fun as Ψ ⟨_, _, _, e, _⟩ => by rw [e]; rfl) (fun cdv A outer s H E as Ψ hh cc hr ⟨hs, one, other, e, yo, tw, q⟩ => ?_)
  subst e
  have nd := sc_llong.nd
  have f1 := tw.o.few
  have f2 := tw.t.few
  have wok : ∀ x, Wv one other x one.length other.length → ∀ e ∈ x, EvOk e := fun x hx e he => by
    rcases hx.mem e he with z | z
    · exact tw.o.evs e z
    · exact tw.t.evs e z
  refine ss_cons <| ss_set 5 (EV.ec <| ev_callXKD G.evK hr <| ek_cons <| ev_var 1 rfl <| ek_cons <| ev_var 3 rfl <| ek_cons <| ev_var 4 rfl <| ek_nil ⟨hs, one, other, rfl, yo, tw, fun res hres => ?_⟩) nd
  refine ss_cons <| ss_if <| et_notN <| ev_var 5 rfl ?_
  rw [isNon_evy]
  cases res with
  | some x =>
    obtain ⟨xw, m, m1, m2, xb⟩ := every_some yo tw hres
    have bd := xw.bd
    refine iteT <| ss_one <| ss_ret <| ev_and <| ev_call D1 (hr.mono (by decide)) <| ea_cons <| ev_var 5 rfl <| ea_cons <| ev_var 3 rfl <| ea_cons <| ev_var 4 rfl <| ea_nil ⟨x, one, other, rfl, wok x xw, tw.o.evs, tw.t.evs, by omega, _, rfl, ?_⟩
    rw [xw.is tw]
    refine iteT <| ev_one <| ev_notN <| ev_call D2 (hr.mono (by decide)) <| ea_cons <| ev_var 2 rfl <| ea_cons <| ev_var 5 rfl <| ea_nil ⟨hs, x, rfl, yo, by omega, fun r hsr => ?_⟩
    have ng : ¬ Good hs x := fun g => by
      have := g (m - 1) (by omega)
      rw [show m - 1 + 1 = m by omega] at this
      exact this xb
    cases r with
    | none => exact absurd ((stuck_good hsr).mp rfl) ng
    | some i => exact ⟨rfl, q⟩
  | none =>
    refine iteF <| ss_nil <| ss_cons <| ss_for (ix := [6]) PassesOwn.never rfl <| ie_range1 T.range <| ev_int ⟨_, rfl, by decide, by decide, fun i ρ => ∃ x6, ρ = [some (.rnd hh cc), some (.p (.yd hs)), some (.p (.d (liD hs))), some (.p (.d (ttD one))), some (.p (.d (ttD other))), some (.p (.d (evyD none))), x6], ⟨none, rfl⟩, ?_, ?_⟩
    · rintro i z ρ hz ⟨x6, rfl⟩
      refine gb_name 6 ?_ nd
      refine ss_one <| ss_if <| et_notN <| ev_call D2 (hr.mono (by decide)) <| ea_cons <| ev_var 2 rfl <| ea_cons <| ev_callR 0 D3 (hr.mono (by decide)) <| ea_cons <| ev_var 3 rfl <| ea_cons <| ev_var 4 rfl <| ea_nil ⟨rfl, one, other, rfl, tw.o.evs, tw.t.evs, by omega, by omega, fun x xw => ea_nil ⟨hs, x, rfl, yo, by have := xw.bd; omega, fun r hsr => ?_⟩⟩
      have g : Good hs x := fun j hj => every_none yo tw hres xw (by omega) (by omega)
      cases r with
      | none => exact iteF <| ss_nil ⟨_, rfl⟩
      | some i => exact (nomatch (stuck_good hsr).mpr g)
    · rintro ρ ⟨x6, rfl⟩
      exact ss_one <| ss_ret <| ev_bool ⟨rfl, q⟩
end
end W63
end PartLS2
section PartDX5
set_option maxRecDepth 100000
set_option maxHeartbeats 4000000
/-! DX5: isinstance of a caught exception that has a field; a try with two clauses that bear names. -/
namespace PySem.W
open PySem PySem.Spec PySem.Calls PyProof.Rows
section
variable {K : Frag} {x t : Value} {H : Heap → Prop}
theorem ans_yes {c : Value} (ty : ∀ (M : Model) (h : Heap), K.In h → H h → Looks M h (typeOf x) t) (e : kitOne K t c = some true) : Answers (fun s => K.In s.heap ∧ H s.heap) x c true := by
  intro dep tk prog w A R s hs
  obtain ⟨hp, gens, dr, tt, os⟩ := s
  obtain ⟨⟨X, p⟩, hq⟩ := hs
  have L0 := ty (model prog w) hp X p
  unfold kitOne at e
  unfold Builtin.«isinstance.nested»
  refine wpAny_bind (L0.at ?_)
  by_cases z : (t == c) = true
  · rw [if_pos z]
    first
      | exact hq tt
      | exact wpAny_bind (wpAny_rule (hq tt))
      | exact wpAny_bind (wpAny_rule (wpAny_pure (hq tt)))
  · rw [if_neg z] at e
    rw [if_neg z]
    obtain ⟨k1, k2, k3⟩ := kit_cls (M := model prog w) X e
    have L1 : Looks (model prog w) hp (isInstance x c) true := L0.andThen k3
    refine wpAny_bind (k1.at ?_)
    rw [if_pos (by decide)]
    k_delta "plainIsInstance"
    refine wpAny_bind (wpAny_bind (k2.at ?_))
    simp only [Bool.not_true, Bool.false_eq_true, if_false]
    refine wpAny_bind (L1.at ?_)
    first
      | exact wpAny_pure (wpAny_pure (hq tt))
      | (simp only [if_true]; first | exact wpAny_pure (wpAny_pure (hq tt)) | exact wpAny_pure (hq tt) | exact wpAny_bind (wpAny_pure (wpAny_pure (hq tt))))
theorem isi_yes {prog : Program} {w : World} {A : Around} {E : Value → Shared → Prop} {s : Shared} {Q : Value → Shared → Prop} {c : Value} (ty : ∀ (M : Model) (h : Heap), K.In h → H h → Looks M h (typeOf x) t) (e : kitOne K t c = some true) (X : K.In s.heap) (p : H s.heap)
    (hx : x ≠ .builtin "__main__.__loader__#opaque") (h : ∀ tk, Q (.bool true) { s with toks := tk }) : wpAny (model prog w) A (call (.builtin "isinstance") [x, c]) Q E s :=
  call_isinstance (S := fun _ R s => (K.In s.heap ∧ H s.heap) ∧ ∀ tk, R (.ok (.ret (.bool true))) { s with toks := tk }) (fun prog w A R s hs => isinstance_outer (ans_yes ty e 0 _ prog w A R s hs) hx) ⟨⟨X, p⟩, h⟩
end
end PySem.W
namespace DL
open PySem PySem.Spec PyProof.Rows L2
/-- isinstance(e, Y): e is caught, of a class under Y -/
theorem call_isY {X : Cx} {a : Addr} {oe : Obj} {cls : Value} {d : Option Addr} {pn : List (Addr × Obj)} (hz : Zc cls d oe) : CallR (X.suite a ((a, oe) :: pn)) (.builtin "isinstance") (fun xs H Q => ∃ Y : Addr, xs = [.ref a, .ref Y] ∧ PySem.W.kitOne X.K cls (.ref Y) = some true ∧ Q (.bl true) H) := by
  intro pins s σ H xs us Q I r h
  obtain ⟨Y, rfl, e, q⟩ := h
  obtain ⟨u1, u2, rfl, r1, r2⟩ := vals2 r
  cases (show u1 = Value.ref a from r1)
  cases (show u2 = Value.ref Y from r2)
  obtain ⟨hget, _⟩ := I.pin (a, oe) (List.mem_append.mpr (.inl List.mem_cons_self))
  exact PySem.W.isi_yes (t := cls) (H := fun h => h.get? a = some oe) (fun M h _ g A Q E s k q => wpAny_typeOf_ref (k _ _ g) (by rw [hz.1]; exact q)) e I.kIn hget (fun z => nomatch z) fun tk => ⟨.bl true, H, I.kept (t' := tk) fun _ _ z => z, rfl, q⟩
/-! ### try with clauses that bear names -/
abbrev Cls3 := Value × Nat × (Addr → Value → Option Addr → TS)
def outD (i : Nat) (D : Ends) : Ends := { nx := fun σ' H' => D.nx (σ'.set i none) H', rt := D.rt, bk := fun σ' H' => D.bk (σ'.set i none) H', ct := fun σ' H' => D.ct (σ'.set i none) H' }
/-- what the clauses wish, one behind another -/
def wNamed (n : Nat) (K : PySem.W.Frag) (Wout : WX) (D : Ends) : List Cls3 → WX
  | [] => Wout
  | (c, i, ts) :: r => fun cls d σ H => ∃ b, PySem.W.exmOne K cls c = some b ∧ (b = true → ∀ a, H a = none → σ.length = n → ts a cls d (outD i D) (σ.set i (some (.ref a))) H) ∧ (b = false → wNamed n K Wout D r cls d σ H)
inductive Named (X : Cx) : List ExceptHandler → List Cls3 → Prop
  | nil : Named X [] []
  | cons {x n : Str} {c : Value} {i : Nat} {ts : Addr → Value → Option Addr → TS} {b₀ : Stmt} {suite : List Stmt} {np pos' : Pos} {hds : List ExceptHandler} {l : List Cls3} (hi : X.N[i]? = some n) (hln : X.env.kindOf n = some .local) (hc : Names X x c)
      (hsu : ∀ (a : Addr) (oe : Obj) (cls : Value) (d : Option Addr) (pn : List (Addr × Obj)), Zc cls d oe → (∃ vs, oe.data = .fields vs) → PSs (X.suite a ((a, oe) :: pn)) (b₀ :: suite) (ts a cls d)) (r : Named X hds l) :
      Named X (.ExceptHandler (some (.Name x np)) (some n) (b₀ :: suite) pos' :: hds) ((c, i, ts) :: l)
section
variable {X : Cx} {body : List Stmt} {h₀ : ExceptHandler} {hds : List ExceptHandler} {l : List Cls3} {pos : Pos} {tb : WX → TS} {Wout : WX}
theorem ps_try_named (hs : X.stack = X.env :: X.outer) (hf : X.env.frame = some X.env.locals) (hN : X.N.Nodup) (tk : Takes X Wout)
    (hb : ∀ (W : WX) (pn : List (Addr × Obj)) (xe : Value → Shared → Prop), Takes (X.tr pn xe) W → PassesOwn (model X.prog X.w) X.A X.env xe → PSs (X.tr pn xe) body (tb W))
    (hh : Named X (h₀ :: hds) l) : PS X (.Try body (h₀ :: hds) [] [] pos) (fun D σ H => tb (wNamed X.N.length X.K Wout D l) D σ H) := by
  refine ⟨fun pins s σ H D I h => ?_⟩
  have ok := I.ok
  have fr1 : X.A.frames = some (X.env :: X.outer) := by rw [ok.frames, hs]
  refine wpAny_Try_except ?_
  refine wpAny_mono ((hb (wNamed X.N.length X.K Wout D l) (X.pn ++ pins) (fun e s₁ => wpAny (model X.prog X.w) X.A (noteFrame e X.env) (fun _ s₂ => wpAny (model X.prog X.w) X.A (setFlight e none) (fun _ s₃ =>
    wpAny (model X.prog X.w) X.A (handleBy e X.env (h₀ :: hds)) (SP X pins D) X.xe s₃) X.xe s₂) X.xe s₁) (fun u s' xx => ?_) PassesOwn.looking).run [] s σ H D (I.toTry _) h) (fun fl s1 hsp => ?_) (fun e s1 he => he)
  · obtain ⟨a, B, sI, pins', σ', H', cls, d, rfl, J', nb, up, sky, na, os, ag, wish⟩ := xx
    have J : Inv X pins σ' H' sI := J'.ofTry ok
    have sky1 : Sky B (X.env :: X.outer) a (Zc cls d) X.env.locals s'.heap := by rw [← hs]; exact sky
    show wpAny (model X.prog X.w) X.A (noteFrame (.ref a) X.env) _ _ _
    refine Sky.land Zc.steady fr1 hf sky1 fun h3 fl3 up3 => ?_
    have J3 : Inv X pins σ' H' { s' with heap := h3 } := J.landed nb fl3.1 (up.trans up3) os ag
    obtain ⟨oe3, vs3, he3, hz3, hd3⟩ := fl3.there
    -- the exception is no frame
    have off : ∀ {h : Heap} {o : Obj} {vs : Array Value}, h.FunFrames B (X.env :: X.outer) → h.get? a = some o → o.data = .fields vs → a ∉ frs (X.env :: X.outer) := fun {h o vs} ff g1 g2 hm => by
      obtain ⟨_, o1, g3, nf⟩ := ff.mem hm
      cases g1.symm.trans g3
      exact nf _ g2
    have off3 := off fl3.2.2.1 he3 hd3
    have nL : a ≠ X.env.locals := fun z => off3 (List.mem_filterMap.mpr ⟨X.env, List.mem_cons_self, by rw [hf, z]⟩)
    have nF : a ∉ X.fs := fun hm => by
      obtain ⟨e, he, q⟩ := List.mem_filterMap.mp hm
      exact off3 (List.mem_filterMap.mpr ⟨e, List.mem_cons_of_mem _ he, q⟩)
    have S3 := J3.suite he3 hd3 na nL nF
    have go : ∀ {hs' : List ExceptHandler} {l' : List Cls3}, Named X hs' l' → wNamed X.N.length X.K Wout D l' cls d σ' H' → wpAny (model X.prog X.w) X.A (handleBy (.ref a) X.env hs') (SP X pins D) X.xe { s' with heap := h3 } := by
      intro hs' l' hk
      induction hk with
      | nil =>
        intro wo
        refine wpAny_handleBy_nil ?_
        obtain ⟨k1, k2, k3, oe, vs, T, oT, ts', he, hz, hd, h1, hr⟩ := id fl3
        unfold PySem.passOn
        refine wpAny_bind (wpAny_field he hd h1 ?_)
        rw [if_neg (show ¬ ((Value.ref T == Value.none) = true) from by simp)]
        have fin : wpAny (model X.prog X.w) X.A (setFlight (.ref a) X.env.frame) (fun _ s4 => wpAny (model X.prog X.w) X.A (throw (.ref a) : Sem Flow) (SP X pins D) X.xe s4) X.xe { s' with heap := h3 } := by
          rw [hf]
          refine HandSPX.setFlight_upZ fl3 fun h4 hh4 up4 => wpAny_throw (tk _ _ ?_)
          exact ⟨a, B, sI, pins, σ', H', cls, d, rfl, J, nb, (up.trans up3).trans up4, .inr (.inr (by rw [hs]; exact hh4)), na, os, ag, wo⟩
        first
          | exact wpAny_bind (wpAny_pure (wpAny_bind fin))
          | exact wpAny_bind fin
      | @cons x n c i ts b₀ suite np pos' hds2 l2 hi hln hc hsu r ih =>
        rintro ⟨b, hb1, yes, no⟩
        refine wpAny_handleBy_cons (codeAny_handlers_test ?_) (by intro q; cases q)
        have LT : PySem.W.Looks (model X.prog X.w) h3 (typeOf (.ref a)) cls := fun A Q E s k q => wpAny_typeOf_ref (k _ _ he3) (by rw [hz3.1]; exact q)
        have LM := PySem.W.exm_one (M := model X.prog X.w) (J3.kIn) LT hb1
        have ask : ∀ {Q : Value → Shared → Prop} {E : Value → Shared → Prop}, Q c { s' with heap := h3 } → wpAny (model X.prog X.w) (X.A.mark (some (.ref a))) (eval (.Name x np) X.env) Q E { s' with heap := h3 } := fun {Q E} q => by
          obtain ⟨hg, hdbg, hm | ⟨hm, hv, hnn⟩⟩ := hc
          · exact ld_glob (X := X.suite a ((a, oe3) :: (X.pn ++ pins))) S3 hg hm q hdbg
          · exact ld_blt (X := X.suite a ((a, oe3) :: (X.pn ++ pins))) S3 hg hm hv q hnn hdbg
        refine ask (LM.here ?_)
        cases b with
        | true =>
          refine codeAny_handlers_suite_as ?_
          refine HandSPX.lands_againZ fl3 fun h4 fl4 up4 => ?_
          have J4 : Inv X pins σ' H' { s' with heap := h4 } := J.landed nb fl4.1 ((up.trans up3).trans up4) os ag
          obtain ⟨oe4, vs4, he4, hz4, hd4⟩ := fl4.there
          have S4 := J4.suite he4 hd4 na nL nF
          refine store_ok (X := X.suite a ((a, oe4) :: (X.pn ++ pins))) (v := .ref a) S4 hN hi (.inl hln) rfl (fun s5 S5 => ?_) (.inr hln)
          refine wpAny_mono ((hsu a oe4 cls d (X.pn ++ pins) hz4 ⟨_, hd4⟩).run [] s5 _ H' _ S5 (yes rfl a na J.len)) (fun f s6 hsp => ?_) (fun _ _ z => False.elim z)
          have end_ : ∀ {σ6 : L2.St} {H6 : Hp} {Q : Shared → Prop}, Inv (X.suite a ((a, oe4) :: (X.pn ++ pins))) [] σ6 H6 s6 → (∀ s7, Inv X pins (σ6.set i none) H6 s7 → Q s7) →
              wpAny (model X.prog X.w) X.A (do bindName X.env n .none; unbindBehindTheSuite X.env n pos') (fun _ s7 => Q s7) X.xe s6 := fun {σ6 H6 Q} S6 hq => gone_ok (S6.unsuite ok) hN hi hln hq
          cases f with
          | next =>
            obtain ⟨σ6, H6, S6, q6⟩ := hsp
            exact end_ S6 fun s7 J7 => ⟨_, _, J7, q6⟩
          | brk =>
            obtain ⟨σ6, H6, S6, q6⟩ := hsp
            exact end_ S6 fun s7 J7 => ⟨_, _, J7, q6⟩
          | cont =>
            obtain ⟨σ6, H6, S6, q6⟩ := hsp
            exact end_ S6 fun s7 J7 => ⟨_, _, J7, q6⟩
          | ret u =>
            obtain ⟨v6, σ6, H6, S6, r6, q6⟩ := hsp
            exact end_ S6 fun s7 J7 => ⟨_, _, _, J7, r6, q6⟩
        | false =>
          show wpAny _ X.A (handleBy (.ref a) X.env hds2) _ _ _
          exact ih (no rfl)
    exact go hh wish
  · cases fl with
    | next =>
      obtain ⟨σ', H', J', q⟩ := hsp
      exact wpAny_execs_nil ⟨σ', H', J'.ofTry ok, q⟩
    | brk =>
      obtain ⟨σ', H', J', q⟩ := hsp
      exact ⟨σ', H', J'.ofTry ok, q⟩
    | cont =>
      obtain ⟨σ', H', J', q⟩ := hsp
      exact ⟨σ', H', J'.ofTry ok, q⟩
    | ret u =>
      obtain ⟨v, σ', H', J', r, q⟩ := hsp
      exact ⟨v, σ', H', J'.ofTry ok, r, q⟩
end
end DL
end PartDX5
section PartDX6
set_option maxRecDepth 100000
set_option maxHeartbeats 4000000
/-! DX6: a lambda handed to a def that calls it and catches what it raises. -/
namespace DL
open PySem PySem.Spec PyProof.Rows L2
open LamX (CodeO TabB LamS lamCx lamEnv)
/-- the table of code objects at P, those it tells fixed -/
def TabF (F H : Hp) (P : Addr) (q : Str) : Prop := ∃ ps : Array Value, H P = some (.tbl ps) ∧ TriplesOk ps.toList ∧ ∀ (pos : Pos) (cv : Value), codeAmong pos ps.toList = some cv → ∃ c, cv = .ref c ∧ F c = some (CodeO c q)
theorem TabF.same {F F' H H' : Hp} {P : Addr} {q : Str} (e : Same F F') (k : H' P = H P) (h : TabF F H P q) : TabF F' H' P q := by
  obtain ⟨ps, h1, h2, h3⟩ := h
  exact ⟨ps, k.trans h1, h2, fun pos cv hc => let ⟨c, a, b⟩ := h3 pos cv hc; ⟨c, a, e _ _ b⟩⟩
def tabC (P : Addr) (q : Str) : CRel where
  ok := fun F H v as => as = [P] ∧ TabF F H P q
  st := fun e k h => by
    obtain ⟨rfl, h2⟩ := h
    exact ⟨rfl, h2.same e (k _ (by simp))⟩
abbrev cT (P : Addr) (q : Str) : Option Cell := some (.cust (tabC P q))
section
variable {K : PySem.W.Frag} {Γ : Anc} {ρ : Ev} {fp : Nat → List Addr} {F H : Hp} {σ : L2.St}
theorem tab_at (t : Stt K Γ ρ fp F σ H) {i : Nat} {P : Addr} {q : Str} (h : ρ[i]? = some (cT P q)) : fp i = [P] ∧ TabF F H P q ∧ i < ρ.length ∧ ∃ v, σ[i]? = some (some v) := by
  obtain ⟨v, hv, has, h1⟩ := t.cells i _ h
  exact ⟨has, h1, (List.getElem?_eq_some_iff.mp h).1, v, hv⟩
/-- a code object more -/
theorem tab_more (t : Stt K Γ ρ fp F σ H) {i : Nat} {P c : Addr} {q : Str} (h : ρ[i]? = some (cT P q)) {ps : Array Value} (hc : H c = none) (ht : TriplesOk ps.toList) (ha : ∀ (pos : Pos) (cv : Value), codeAmong pos ps.toList = some cv → (∃ c, cv = .ref c ∧ F c = some (CodeO c q)) ∨ cv = .ref c) :
    ∃ F', Stt K Γ ρ fp F' σ (upd (upd H P (.tbl ps)) c (CodeO c q)) ∧ Same F F' ∧ F' c = some (CodeO c q) := by
  obtain ⟨has, hT, hl, v, hv⟩ := tab_at t h
  obtain ⟨ps0, hP, _⟩ := hT
  have ne : P ≠ c := fun z => by rw [z, hc] at hP; cases hP
  have hF : F c = none := none_of t.ex hc
  -- first the new object, then the table
  have g := Gr.new (o := CodeO c q) t.ex hc
  have t1 := t.grow g
  have e1 : upd (upd H c (CodeO c q)) P (.tbl ps) = upd (upd H P (.tbl ps)) c (CodeO c q) := by
    funext b
    by_cases z1 : b = c
    · subst z1
      rw [upd_same, upd_ne (Ne.symm ne), upd_same]
    · by_cases z2 : b = P
      · subst z2
        rw [upd_same, upd_ne z1, upd_same]
      · rw [upd_ne z2, upd_ne z1, upd_ne z1, upd_ne z2]
  have t2 := t1.wrAt (i := i) (a := P) (o := .tbl ps) (v := v) (c := .cust (tabC P q)) (by rw [has]; simp) hv hl ⟨has, ps, upd_same, ht, fun pos cv hcv => by
    rcases ha pos cv hcv with ⟨c0, a1, a2⟩ | a1
    · exact ⟨c0, a1, g.f _ _ a2⟩
    · exact ⟨c, a1, upd_same⟩⟩
  have e2 : ρ.set i (some (.cust (tabC P q))) = ρ := by
    apply List.ext_getElem?
    intro j
    by_cases z : i = j
    · subst z
      rw [List.getElem?_set_self hl, h]
    · rw [List.getElem?_set_ne z]
  rw [e1, e2] at t2
  exact ⟨_, t2, g.f, upd_same⟩
end
section
variable {X : Cx} {pins : List (Addr × Obj)} {σ : L2.St} {H F : Hp} {s : Shared}
/-- the lambda's object; its code object is an old one, or new in the table -/
theorem lam_made {c P : Addr} {params : Arguments} {body : Expr} {scope : Scope} {pos : Pos} {E Q : Value → Shared → Prop} {ps : Array Value} (I : Inv X pins σ H s) (TB : TabB X.base X.mg c P) (hcode : X.env.code = .ref c) (hP : H P = some (.tbl ps)) (ht : TriplesOk ps.toList)
    (hdef : defaultsOf params X.env = ([], [])) (hfree : ∀ y ∈ scope.names, y.2 = .free → ∃ c, X.env.cells.lookup y.1 = some c) (hF : ∀ (p : Pos) (cv : Value), codeAmong p ps.toList = some cv → ∃ c, cv = .ref c ∧ F c = some (CodeO c (X.env.qual ++ "<lambda>")))
    (h : ∀ (f c' : Addr) (pm ctv : Value) (H1 : Hp) (s' : Shared), Inv X pins σ H1 s' → s'.heap.get? f = some (PySem.W.kla_obj "<lambda>" (X.env.qual ++ "<lambda>") params body scope (cloFrom X.env.cells scope.names []) pm c' ctv) → H1 f = none → f ∉ frs X.stack →
      ((H1 = H ∧ F c' = some (CodeO c' (X.env.qual ++ "<lambda>"))) ∨ ∃ ps' : Array Value, H c' = none ∧ H1 = upd (upd H P (.tbl ps')) c' (CodeO c' (X.env.qual ++ "<lambda>")) ∧ TriplesOk ps'.toList ∧
        ∀ (p : Pos) (cv : Value), codeAmong p ps'.toList = some cv → (∃ c, cv = .ref c ∧ F c = some (CodeO c (X.env.qual ++ "<lambda>"))) ∨ cv = .ref c') → Q (.ref f) s') :
    wpAny (model X.prog X.w) X.A (eval (.Lambda params body scope pos) X.env) Q E s := by
  refine PySem.W.kla_eval hdef ?_
  have bP : s.heap.BuiltinsAt X.mg P := TB.bm.keeps I.bk
  have gP : s.heap.get? P = some { cls := .none, data := .fields ps } := I.hok P _ hP
  have away : ∀ f, s.heap.objs.size ≤ f → f ∉ frs X.stack := fun f hf z => by
    rcases List.mem_cons.mp (I.stkSub _ z) with e | e
    · have h1 := I.lt
      rw [← e] at h1
      exact Nat.lt_irrefl _ (Nat.lt_of_lt_of_le h1 hf)
    · exact I.nofs hf e
  cases q : codeAmong pos ps.toList with
  | some cv =>
    obtain ⟨c', rfl, hco⟩ := hF pos cv q
    refine PySem.W.kla_makeFunctionHit (mg := X.mg) (c := c) (P := P) (ps := ps) (closure_ok hfree) I.ok.glob (I.mod.glob.keeps I.bk) hcode (TB.code.keeps I.bk) gP ht q bP fun ctv h' tk hx hsz => ?_
    exact h h'.objs.size c' ((X.mg "__name__").getD .none) ctv H _ (I.kept fun b o e => Heap.get?_push_of_some _ (hx b o e)) (Heap.get?_push_size _ rfl) (I.hok.fresh hsz) (away _ hsz) (.inl ⟨rfl, hco⟩)
  | none =>
    refine PySem.W.kla_makeFunction (mg := X.mg) (c := c) (P := P) (ps := ps) (closure_ok hfree) I.ok.glob (I.mod.glob.keeps I.bk) hcode (TB.code.keeps I.bk) gP ht q TB.gP bP fun c' ctv h' tk hx hge hlt hrec htb => ?_
    obtain ⟨c2, oc, vs, t, e2, hoc, hd, hv⟩ := hrec
    cases e2
    have big : s.heap.objs.size ≤ h'.objs.size := Nat.le_trans hge (Nat.le_of_lt hlt)
    have nC : H c' = none := I.hok.fresh hge
    have I1 := LamX.inv_table (t' := tk) (more := #[rawInt pos.line, rawInt pos.col, .ref c']) (h' := h'.push (PySem.W.kla_obj "<lambda>" (X.env.qual ++ "<lambda>") params body scope (cloFrom X.env.cells scope.names []) ((X.mg "__name__").getD .none) c' ctv)) I hP
      (fun b o hb e => Heap.get?_push_of_some _ (hx b o hb e)) (Heap.get?_push_of_some _ htb) hge ⟨oc, vs, t, Heap.get?_push_of_some _ hoc, hd, hv⟩
    have eL : (ps ++ #[rawInt pos.line, rawInt pos.col, .ref c']).toList = ps.toList ++ [rawInt pos.line, rawInt pos.col, .ref c'] := by simp
    have n1 : h'.objs.size ≠ c' := Nat.ne_of_gt hlt
    have n2 : h'.objs.size ≠ P := Nat.ne_of_gt (Nat.lt_of_lt_of_le (Heap.lt_size gP) big)
    refine h h'.objs.size c' ((X.mg "__name__").getD .none) ctv _ _ I1 (Heap.get?_push_size _ rfl) ?_ (away _ big) (.inr ⟨_, nC, rfl, by rw [eL]; exact PySem.TriplesOk_snoc _ _ _ _ ht, fun p cv hcv => ?_⟩)
    · rw [upd_ne n1, upd_ne n2]
      exact I.hok.fresh big
    · rw [eL] at hcv
      rcases LamX.among_app _ ht hcv with z | z
      · exact .inl (hF p cv z)
      · exact .inr z
end
/-! ### raising, the slots told -/
def ER2 (X : Cx) (e : Expr) (ρ : Ev) (Θ : Exn → Ev → Prop) : Prop := ∀ (Γ : Anc) (fp : Nat → List Addr) (F : Hp) (σ : L2.St) (H : Hp) (Φ : VK), Stt X.K Γ ρ fp F σ H →
  (∀ c cls d ρ' fp' F' H', Stt X.K Γ ρ' fp' F' σ H' → Same F F' → ExnRep X.mg F' cls d c → Θ c ρ' → XOk X cls d σ H') → wE X e σ H Φ
section
variable {X : Cx} {ρ : Ev} {pos p lpos : Pos} {e body : Expr} {es : List Expr} {x : Str} {k : Nat} {ps : List Str} {w : Wp} {wx : Wx} {Θ : Exn → Ev → Prop} {Q : P → Ev → Prop}
theorem er2_call (D : DefOk X.prog X.w X.K X.mg X.base (L2.CX X.prog X.w) x k ps (spX X.mg X.K w wx)) (hr : Room k X.A) (h : EA X (e :: es) ρ fun as ρ1 => wx as fun c => Θ c ρ1) (hg : Gl X x := by rfl)
    (hdb : (x == ("__debug__" : Str)) = false := by decide) (he : starEach (e :: es) X.env = (false, eval e X.env) :: starEach es X.env := by rfl) (hpl : (backTo pos (starEach es X.env)).any (·.1) = false := by rfl) : ER2 X (.Call (.Name x p) (e :: es) [] pos) ρ Θ := fun Γ fp F σ H Φ t k pins s I => by
  obtain ⟨f, fd, hm, hk, hb, G⟩ := D
  refine (pe_callS (E := fun σ cls d H => XOk X cls d σ H) G hr hg hm hk hb passX pa_w hdb he hpl).run pins s σ H Φ I (h Γ fp F σ H _ t fun vs F1 H1 as ρ1 fp1 t1 f1 r1 q => ?_)
  exact .inr ⟨F1, as, _, t1.ex, r1, q, fun c cls d F2 H2 g r2 q2 => k c cls d ρ1 fp1 F2 H2 (t1.grow g) (f1.trans g.f) r2 q2⟩
/-- what the def that calls it makes of an exception: E the wish, Q of its value -/
def Tells (TT : (XK → Hp → VK → Prop) → Hp → VK → Prop) (TX : VK → XK) : Prop := ∀ tl H Q, tl (TX Q) H Q → TT tl H Q
/-- x(lambda: body), the body raises -/
theorem ev_lamR {TT : (XK → Hp → VK → Prop) → Hp → VK → Prop} {TX : VK → XK} {x a : Str} {g c P : Addr} {pg : Arguments} {bg : List Stmt} {sg : Scope} {dV kV doc pm cdv ct oc : Value} {an od : Option Addr} {osl : Array (Option Value)} {Ng : List Str}
    {params : Arguments} {scope : Scope} (i : Nat) (hg : Gl X x) (hm : X.mg x = some (.ref g)) (hk : PySem.W.keepIn X.K (.ref g) = true)
    (lk : X.K.lookup g = some ⟨oc, od, .func (PySem.W.fnOf x x pg bg sg dV kV doc pm an cdv ct), osl⟩) (hcg : PySem.W.codeIn X.K cdv x = true) (hb : L2.Binds X.K (PySem.W.fnOf x x pg bg sg dV kV doc pm an cdv ct) [a] []) (Sg : FnScope Ng [a] sg) (hNg : Ng[0]? = some a) (hva : Vis sg a)
    (hG : LamX.GivesTo X Ng x sg g cdv bg a (X.env.qual ++ "<lambda>") TT) (hT : Tells TT TX)
    (TB : TabB X.base X.mg c P) (hcode : X.env.code = .ref c) (hr : Room (k + 2) X.A) (L : LamS X.env.scope scope) (hdef : defaultsOf params X.env = ([], []))
    (hbind : ∀ (q : Str) (cl : List (Str × Addr)) (pm cv ctv : Value), bindArgs (PySem.W.kla_fn "<lambda>" q params body scope cl pm cv ctv) ⟨[], []⟩ = pure [])
    (h0 : ρ[i]? = some (cT P (X.env.qual ++ "<lambda>")))
    (h : ∀ (A : Around) (outer : List Env) (s : Shared) (H : Hp) (E : XK) (f c' : Addr), Room k (A.deeper (lamEnv X scope s.heap.objs.size f c')) → ER2 (lamCx X A outer s H E scope f c') body ρ Θ)
    (hq : ∀ (Γ : Anc) (fp : Nat → List Addr) (F : Hp) (σ : L2.St) (H : Hp) (Φ : VK) (c : Exn) (cls : Value) (d : Option Addr) (ρ' : Ev), Stt X.K Γ ρ' fp F σ H → ExnRep X.mg F cls d c → Θ c ρ' →
      (∀ v F' H' p fp', Stt X.K Γ ρ' fp' F' σ H' → Same F F' → Rep X.K F' v p → Q p ρ' → Φ v H') → TX Φ cls d H)
    (hdb : (x == ("__debug__" : Str)) = false := by decide) (hd : (a == ("__debug__" : Str)) = false := by decide) (hcd : (a == ("__classdict__" : Str)) = false := by decide) :
    EV X (.Call (.Name x p) [.Lambda params body scope lpos] [] pos) ρ Q := fun Γ fp F σ H Φ t kk pins s I => by
  obtain ⟨has, hTab, hl, _⟩ := tab_at t h0
  obtain ⟨tb, hP, htr, hcs⟩ := hTab
  refine wpAny_Call_Name_kw (ld_glob I hg hm ?_ hdb)
  refine PySem.W.callWith_K (h₀ := X.base) I.ok.mod.kin hk ?_ (by rfl) (by rfl)
  show wpAny _ _ (spliced ((false, eval (.Lambda params body scope lpos) X.env) :: backTo pos (starEach [] X.env))) _ _ s
  refine Calls.spliced_cons (lam_made (F := F) I TB hcode hP htr hdef (L.has I.ok) hcs fun f c' pm' ctv H1 s' I1 hf hfn hfr hway => ?_)
  refine Calls.spliced_nil ⟨I1.kIn, ?_⟩
  -- the state behind the making
  obtain ⟨F1, t1, f1, hco⟩ : ∃ F1, Stt X.K Γ ρ fp F1 σ H1 ∧ Same F F1 ∧ F1 c' = some (CodeO c' (X.env.qual ++ "<lambda>")) := by
    rcases hway with ⟨rfl, hco⟩ | ⟨ps', nC, rfl, tr', ha⟩
    · exact ⟨F, t, Same.refl _, hco⟩
    · exact tab_more t h0 nC tr' ha
  have rc : codeAny (model X.prog X.w) X.A (.call (.ref g) ⟨[.ref f], []⟩) (CR C8.CX0 X.stack X.prog X.w H1 s' Φ C8.E0) s' := by
    refine LamX.run_ofS (N := Ng) (ps := [a]) (us := [.ref f]) (vs := [.ref f]) lk hcg Sg hr I1.env0 (hb s' [.ref f] I1.kIn rfl) (.cons rfl .nil) rfl fun hr' => ?_
    have key : TT (fun E H' Q' => ∀ (A : Around) (outer : List Env) (s : Shared) (H : Hp), Room k (A.deeper (lamEnv X scope s.heap.objs.size f c')) → wE (lamCx X A outer s H E scope f c') body σ H' Q') H1 Φ := by
      refine hT _ _ _ fun A outer s0 H0 hr2 => ?_
      refine h A outer s0 H0 _ f c' hr2 Γ fp F1 σ H1 Φ t1 fun ex cls d ρ' fp' F' H' t2 f2 xr th => ⟨fun cls d _ H => TX Φ cls d H, takes_of rfl rfl rfl rfl, ?_⟩
      exact hq Γ fp' F' σ H' Φ ex cls d ρ' t2 xr th fun v F3 H3 pz fp3 t3 f3 rp qq => kk v F3 H3 pz ρ' fp3 t3 ((f1.trans f2).trans f3) rp qq
    obtain ⟨t', ht', hq'⟩ := hG f c' s' H1 Φ _
      (fun W pn xe E p1 p2 tk hW => LamX.pe_act (i := 0) (tb := fun σ1 H' Q' => ∀ (A : Around) (outer : List Env) (s : Shared) (H : Hp), Room k (A.deeper (lamEnv X scope s.heap.objs.size f c')) → wE (lamCx X A outer s H E scope f c') body σ1 H' Q') I1 L hf hfn hfr (hbind _ _ _ _ _) tk hW hr'
        (fun A outer s H hr2 => ⟨fun pins s1 σ1 H2 Q2 I2 hw => hw A outer s H hr2 pins s1 I2⟩) hNg hva hd hcd) (t1.ex _ _ hco) key
    exact ⟨t', ht'.nox, hq'⟩
  refine wpAny_call (codeAny_mono rc fun r s2 hqq => ?_)
  cases r with
  | error e => exact (show False from hqq).elim
  | ok fl =>
    cases fl with
    | ret u => exact I1.after hqq
    | next => exact False.elim hqq
    | brk => exact False.elim hqq
    | cont => exact False.elim hqq
end
end DL
end PartDX6
section PartLT1
set_option maxRecDepth 100000
set_option maxHeartbeats 4000000
namespace W63
open PySem PySem.Spec PyProof.Rows L2 DL
open PySem.XSup (XsTxt)
open LamX (CodeO TabB LamS lamCx lamEnv)
abbrev s_ltold : Stmt := top 52
theorem sc_ltold : FnScope ["_law_work", "wrong", "stop"] ["_law_work"] (defScope s_ltold) := ⟨rfl, rfl, rfl, by decide +kernel, rfl, by decide +kernel, by decide +kernel⟩
/-- what _law_told makes of an exception -/
def tX (K : PySem.W.Frag) (C1 C2 : Addr) (Q : VK) : XK := fun cls d H' => ∃ b, PySem.W.exmOne K cls (.ref C1) = some b ∧
  (b = true → ∃ dd v, cls = .ref C1 ∧ d = some dd ∧ H' dd = some (.xd [("at", v)]) ∧ ∀ p, H' p = none → Q (.ref p) (upd H' p (.tup [.str "events", v]))) ∧
  (b = false → ∃ b2, PySem.W.exmOne K cls (.ref C2) = some b2 ∧ (b2 = true → ∃ dd v, cls = .ref C2 ∧ d = some dd ∧ H' dd = some (.xd [("word", v)]) ∧ ∀ p, H' p = none → Q (.ref p) (upd H' p (.tup [.str "refused", v]))) ∧ (b2 = false → False))
def tTold (K : PySem.W.Frag) (C1 C2 : Addr) : (XK → Hp → VK → Prop) → Hp → VK → Prop := fun tl H Q => tl (tX K C1 C2 Q) H Q
/-- the classes that it asks for -/
structure ToldTxt (P : Program) (K : PySem.W.Frag) (mg : Str → Option Value) (C1 C2 Y : Addr) : Prop where
  x1 : ∃ fI, XsTxt P K mg "InvalidTimetable" "at" C1 Y fI
  x2 : ∃ fI, XsTxt P K mg "Refused" "word" C2 Y fI
  e11 : PySem.W.exmOne K (.ref C1) (.ref C1) = some true
  e21 : PySem.W.exmOne K (.ref C2) (.ref C1) = some false
  e22 : PySem.W.exmOne K (.ref C2) (.ref C2) = some true
  gY : mg "YardError" = some (.ref Y)
  ki : PySem.W.kitOne K (.ref C2) (.ref Y) = some true
  isi : mg "isinstance" = none
theorem two_small : 2 ≤ sizeLine := small5 (by omega)
theorem takes_len {X : Cx} {W : WX} (tk : Takes X W) : Takes X (fun cls d σ H => σ.length = X.N.length → W cls d σ H) := fun u s' ⟨a, B, sI, pins, σ, H, cls, d, e, I, nb, up, sky, na, os, ag, w⟩ => tk u s' ⟨a, B, sI, pins, σ, H, cls, d, e, I, nb, up, sky, na, os, ag, w I.len⟩
theorem told_gives {X : Cx} {g : Addr} {cdg : Value} {q : Str} {C1 C2 Y : Addr} (T : ToldTxt X.prog X.K X.mg C1 C2 Y) : LamX.GivesTo X ["_law_work", "wrong", "stop"] "_law_told" (defScope s_ltold) g cdg (defBody s_ltold) "_law_work" q (tTold X.K C1 C2) := by
  intro f c' s H Q tl act hc h
  obtain ⟨fI1, x1⟩ := T.x1
  obtain ⟨fI2, x2⟩ := T.x2
  refine ⟨_, pss_one (ps_try_named (X := (cxOf C8.CX0 X.prog X.w X.K X.mg X.base ["_law_work", "wrong", "stop"] "_law_told" (defScope s_ltold) g cdg X.A X.stack s H C8.E0).nox)
      (tb := fun W D σ H => ∃ Ech : XK, (∀ cls d σ' H', σ'.length = 3 → Ech cls d H' → W cls d σ' H') ∧ σ[0]? = some (some (.ref f)) ∧ H c' = some (CodeO c' q) ∧ tl Ech H D.rt)
      rfl rfl sc_ltold.nd LamX.takes0 (fun W pn xe tk _ => ?_)
      (.cons (c := .ref C1) (i := 1) rfl rfl ⟨rfl, by decide, .inl x1.gC⟩ (fun a oe cls d pn hz hf => pss_one (ps_ret (pe_tup (pa_cons pe_str (pa_cons (pe_fldX x1 hz hf (pv 1)) pa_nil)))))
        (.cons (c := .ref C2) (i := 2) rfl rfl ⟨rfl, by decide, .inl x2.gC⟩ (fun a oe cls d pn hz hf => pss_one (ps_ret (pe_ifExp (pt_val (pe_callB (call_isY hz) rfl T.isi (by decide +kernel) (pa_cons (pv 2) (pa_cons (pe_glob (v := .ref Y) rfl T.gY rfl) pa_nil)))) (pe_tup (pa_cons pe_str (pa_cons (pe_fldX x2 hz hf (pv 2)) pa_nil))) pe_str))) .nil))), ?_⟩
  · refine ⟨fun pins s' σ H' D I h' => ?_⟩
    obtain ⟨Ech, hW, h1, h2, h3⟩ := h'
    have hp := act (fun cls d σ H => σ.length = 3 → W cls d σ H) pn xe Ech ⟨258, 15, 258, 24⟩ ⟨258, 15, 258, 26⟩ (takes_len tk) fun cls d σ' H' he hl => hW cls d σ' H' hl he
    exact (pss_one (ps_ret hp)).run pins s' σ H' D I ⟨h1, h2, h3⟩
  · refine ⟨tX X.K C1 C2 Q, fun cls d σ' H' hl ⟨b, e1, e2, e3⟩ => ⟨b, e1, fun hb a _ _ => ?_, fun hb => ?_⟩, rfl, hc, h⟩
    · obtain ⟨dd, v, rfl, rfl, k1, k2⟩ := e2 hb
      exact ⟨.ref a, by rw [List.getElem?_set_self (by omega)], rfl, rfl, dd, v, rfl, k1, two_small, k2⟩
    · obtain ⟨b2, g1, g2, g3⟩ := e3 hb
      refine ⟨b2, g1, fun hb2 a _ _ => ?_, fun hb2 => (g3 hb2).elim⟩
      obtain ⟨dd, v, rfl, rfl, k1, k2⟩ := g2 hb2
      have at2 : (σ'.set 2 (some (V.ref a)))[2]? = some (some (V.ref a)) := by rw [List.getElem?_set_self (by omega)]
      exact ⟨.ref a, at2, Y, rfl, T.ki, true, rfl, iteT ⟨.ref a, at2, rfl, rfl, dd, v, rfl, k1, two_small, k2⟩⟩
end W63
end PartLT1
section PartLT2
set_option maxRecDepth 100000
set_option maxHeartbeats 4000000
namespace DL
open PySem PySem.Spec PyProof.Rows L2
open LamX (CodeO TabB LamS lamCx lamEnv)
/-- a def whose code object is told -/
theorem okC {P : Program} {w : World} {K : PySem.W.Frag} {mg : Str → Option Value} {base : Heap} {x qual : Str} {st : Stmt} {f : Addr} {fd : FuncData} {N ps : List Str} {k : Nat} {sp : Sp} {cdv : Value} (F : Fun K x qual st f fd) (hc : fd.code = cdv) (S : FnScope N ps (defScope st)) (len : ∀ vs H Q E, sp vs H Q E → vs.length = ps.length)
    (hbody : ∀ (A : Around) (outer : List Env) (s : Shared) (H : Hp) (vs : List V) (Q : VK) (E : XK), Room k (A.deeper (envOfC qual (defScope st) s.heap.objs.size f cdv)) → sp vs H Q E →
      ∃ t, PSs (cxOf CX0 P w K mg base N qual (defScope st) f cdv A outer s H E).nox (defBody st) t ∧ t { nx := fun _ H' => Q .non H', rt := Q } (start N vs) H) : FnOk P w K mg base CX0 (k + 1) f fd ps sp := by
  obtain ⟨oc, od, kV, doc, pm, an, cdv', ct, osl, rfl, lk, hcd⟩ := F.ex
  have e : cdv' = cdv := hc
  subst e
  refine fn_of lk hcd S len fun A outer s H vs Q E hr hsp => ?_
  obtain ⟨t, h, q⟩ := hbody A outer s H vs Q E hr hsp
  exact ⟨t, h.nox, q⟩
/-- .. two things of the caller's own that may change, and the table -/
structure GrT (h c P : Addr) (F H F' H' : Hp) : Prop where
  f : Same F F'
  s : Same F' H'
  h : ∀ a o, a ≠ h → a ≠ c → a ≠ P → H a = some o → H' a = some o
  n : ∀ a, F a = none → H a ≠ none → F' a = none
/-- the promise of a def that draws, and makes lambdas; its last argument is not looked at -/
def spT (K : PySem.W.Frag) (P : Addr) (q : Str) (w : Wp) : Sp := fun vs H Φ _ => ∃ (F : Hp) (h c : Addr) (ns : List Int) (st : Int) (v1 v2 v3 : V) (p1 p2 : DL.P) (Ψ : DL.P → Prop), vs = [.ref h, v1, v2, v3] ∧ Same F H ∧ F h = none ∧ F c = none ∧ F P = none ∧
  H h = some (.lst [.ref c, .int st]) ∧ H c = some (.lst (ns.map V.int)) ∧ h ≠ c ∧ RndOk ns st ∧ TabF F H P q ∧ Rep K F v1 p1 ∧ Rep K F v2 p2 ∧ w [p1, p2] Ψ ∧
  ∀ v F' H' p ns' st', GrT h c P F H F' H' → H' h = some (.lst [.ref c, .int st']) → H' c = some (.lst (ns'.map V.int)) → RndOk ns' st' → TabF F' H' P q → Rep K F' v p → Ψ p → Φ v H'
section
variable {K : PySem.W.Frag} {ρ : Ev} {fp : Nat → List Addr} {F H : Hp} {σ : L2.St}
/-- one thing more may change: a slot owns it -/
theorem Stt.addOwn {F0 H0 : Hp} {S : Addr → Prop} (t : Stt K ⟨F0, H0, S⟩ ρ fp F σ H) {i : Nat} {a : Addr} {v : V} {c : Cell} (hi : i < ρ.length) (hv : σ[i]? = some (some v)) (hF : F a = none) (hH : H a ≠ none) (hn : ∀ j, a ∉ fp j) (hc : CellOk K F H v c [a]) :
    Stt K ⟨F0, H0, fun b => S b ∨ b = a⟩ (ρ.set i (some c)) (fset fp i [a]) F σ H where
  ex := t.ex
  exF := t.exF
  exH := fun b o n e => t.exH b o (fun z => n (.inl z)) e
  thr := t.thr
  fre := fun b n1 n2 n3 => t.fre b n1 n2 fun z => n3 (.inl z)
  len := by rw [List.length_set]; exact t.len
  cells := fun j c' e => by
    by_cases h : i = j
    · subst h
      rw [List.getElem?_set_self hi] at e
      cases e
      rw [fset_same]
      exact ⟨v, hv, hc⟩
    · rw [List.getElem?_set_ne h] at e
      rw [fset_ne (Ne.symm h)]
      exact t.cells j c' e
  own := fun j b hb => by
    by_cases h : j = i
    · subst h
      rw [fset_same] at hb
      have e : b = a := by simpa using hb
      subst e
      exact ⟨hF, hH, .inl (.inr rfl)⟩
    · rw [fset_ne h] at hb
      obtain ⟨h1, h2, h3⟩ := t.own j b hb
      exact ⟨h1, h2, h3.imp (fun z => .inl z) id⟩
  sep := fun j k b hjk hb hk => by
    by_cases h : j = i
    · subst h
      rw [fset_same] at hb
      rw [fset_ne (Ne.symm hjk)] at hk
      have e : b = a := by simpa using hb
      subst e
      exact hn k hk
    · rw [fset_ne h] at hb
      by_cases h2 : k = i
      · subst h2
        rw [fset_same] at hk
        have e : b = a := by simpa using hk
        subst e
        exact hn j hb
      · rw [fset_ne h2] at hk
        exact t.sep j k b hjk hb hk
/-- behind such a def -/
theorem Stt.rndT {Γ : Anc} (t : Stt K Γ ρ fp F σ H) {i j : Nat} {h c P : Addr} {q : Str} {F' H' : Hp} {ns' : List Int} {st' : Int} (hi : ρ[i]? = some (some (.rnd h c))) (hj : ρ[j]? = some (some (.cust (tabC P q)))) (g : GrT h c P F H F' H')
    (h1 : H' h = some (.lst [.ref c, .int st'])) (h2 : H' c = some (.lst (ns'.map V.int))) (ok : RndOk ns' st') (h3 : TabF F' H' P q) : Stt K Γ ρ fp F' σ H' := by
  obtain ⟨v0, hv0, ns0, st0, hf, rfl, g1, g2, g3, ok0⟩ := t.cells i _ hi
  obtain ⟨vj, hvj, hfj, tj⟩ := t.cells j _ hj
  have mem : ∀ a, a = h ∨ a = c ∨ a = P → (∃ l, a ∈ fp l) ∧ H' a ≠ none := fun a ha => by
    rcases ha with rfl | rfl | rfl
    · exact ⟨⟨i, by rw [hf]; simp⟩, by rw [h1]; simp⟩
    · exact ⟨⟨i, by rw [hf]; simp⟩, by rw [h2]; simp⟩
    · obtain ⟨ps, e, _⟩ := h3
      exact ⟨⟨j, by rw [hfj]; simp⟩, by rw [e]; simp⟩
  have up : ∀ a, H a ≠ none → H' a ≠ none := fun a ha => by
    by_cases z : a = h ∨ a = c ∨ a = P
    · exact (mem a z).2
    · cases q : H a with
      | none => exact absurd q ha
      | some o =>
        rw [g.h a o (fun y => z (.inl y)) (fun y => z (.inr (.inl y))) (fun y => z (.inr (.inr y))) q]
        simp
  refine ⟨g.s, t.exF.trans g.f, fun a o n e => ?_, fun a ha => up a (t.thr a ha), fun a n1 n2 n3 => g.n a (t.fre a n1 n2 n3) (t.thr a n2), t.len, fun l cl e => ?_, fun l a ha => ?_, t.sep⟩
  · have ne : ¬ (a = h ∨ a = c ∨ a = P) := fun z => by
      obtain ⟨⟨l, hl⟩, _⟩ := mem a z
      rcases (t.own l a hl).2.2 with q | q
      · exact n q
      · rw [q] at e; cases e
    exact g.h a o (fun y => ne (.inl y)) (fun y => ne (.inr (.inl y))) (fun y => ne (.inr (.inr y))) (t.exH a o n e)
  · by_cases z : l = i
    · subst z
      rw [hi] at e
      cases e
      exact ⟨.ref h, hv0, ns', st', hf, rfl, h1, h2, g3, ok⟩
    by_cases z2 : l = j
    · subst z2
      rw [hj] at e
      cases e
      exact ⟨vj, hvj, hfj, h3⟩
    · obtain ⟨v, e1, e2⟩ := t.cells l cl e
      refine ⟨v, e1, cell_same g.f (fun a ha => ?_) e2⟩
      have n1 : a ≠ h := fun q => t.sep l i a z ha (by rw [hf, q]; simp)
      have n2 : a ≠ c := fun q => t.sep l i a z ha (by rw [hf, q]; simp)
      have n3 : a ≠ P := fun q => t.sep l j a z2 ha (by rw [hfj, q]; simp)
      cases q : H a with
      | none => exact absurd q (t.own l a ha).2.1
      | some o => exact g.h a o n1 n2 n3 q
  · obtain ⟨n1, n2, n3⟩ := t.own l a ha
    exact ⟨g.n a n1 n2, up a n2, n3⟩
end
section
variable {X : Cx} {ρ : Ev} {Q : P → Ev → Prop} {pos p : Pos} {es : List Expr} {x : Str}
theorem ev_callT {k : Nat} {ps : List Str} {w : Wp} {y : Str} {py : Pos} {hh cc P : Addr} {q : Str} (i j : Nat) (D : DefOk X.prog X.w X.K X.mg X.base CX0 x k ps (spT X.K P q w)) (hr : Room k X.A) (h : EA X es ρ fun as ρ1 => ρ1[i]? = some (some (.rnd hh cc)) ∧ ρ1[j]? = some (cT P q) ∧ ∃ p1 p2 p3, as = [p1, p2, p3] ∧ w [p1, p2] fun z => Q z ρ1) (h0 : ρ[i]? = some (some (.rnd hh cc)) := by rfl)
    (hN : X.N[i]? = some y := by rfl) (hv : Vis X.env.scope y := by first | exact Or.inl rfl | exact Or.inr (Or.inl rfl) | exact Or.inr (Or.inr rfl)) (hd : (y == ("__debug__" : Str)) = false := by decide) (hcd : (y == ("__classdict__" : Str)) = false := by decide) (hg : Gl X x := by rfl)
    (hdb : (x == ("__debug__" : Str)) = false := by decide) (he : starEach (.Name y py :: es) X.env = (false, eval (.Name y py) X.env) :: starEach es X.env := by rfl) (hpl : (backTo pos (starEach es X.env)).any (·.1) = false := by rfl) : EV X (.Call (.Name x p) (.Name y py :: es) [] pos) ρ Q := fun Γ fp F σ H Φ t k pins s I => by
  obtain ⟨f, fd, hm, hk, hb, G⟩ := D
  obtain ⟨v0, ev0, ns0, st0, _, rfl, _⟩ := t.cells i _ h0
  refine (pe_call G hr hg hm hk hb .nil pass0 (pa_cons (pe_var hN hv hd hcd) pa_w he) hdb he hpl).run pins s σ H Φ I ⟨.ref hh, ev0, h Γ fp F σ H _ t fun vs F1 H1 as ρ1 fp1 t1 f1 r1 ⟨h1, hj, p1, p2, p3, ea, qq⟩ => ?_⟩
  show spT X.K P q w ((V.ref hh :: vs) ++ []) H1 Φ E0
  rw [List.append_nil]
  subst ea
  obtain ⟨v1, ev1, ns, st, hf, rfl, g1, g2, g3, ok⟩ := t1.cells i _ h1
  obtain ⟨vj, evj, hfj, tj⟩ := t1.cells j _ hj
  have o1 := t1.own i hh (by rw [hf]; simp)
  have o2 := t1.own i cc (by rw [hf]; simp)
  have o3 := t1.own j P (by rw [hfj]; simp)
  cases r1 with
  | cons a1 r1 =>
    cases r1 with
    | cons a2 r1 =>
      cases r1 with
      | cons a3 r1 =>
        cases r1
        exact ⟨F1, hh, cc, ns, st, _, _, _, p1, p2, _, rfl, t1.ex, o1.1, o2.1, o3.1, g1, g2, g3, ok, tj, a1, a2, qq, fun v F2 H2 z ns' st' g k1 k2 k3 k4 r2 q2 => k v F2 H2 z ρ1 fp1 (t1.rndT h1 hj g k1 k2 k3 k4) (f1.trans g.f) r2 q2⟩
end
/-- a def that keeps such a promise; its code object is at c0 -/
theorem fnT {P : Program} {w : World} {K : PySem.W.Frag} {mg : Str → Option Value} {base : Heap} {x qual : Str} {st : Stmt} {f P0 c0 : Addr} {q : Str} {fd : FuncData} {N ps : List Str} {k : Nat} {wp : Wp} (F : Fun K x qual st f fd) (hc : fd.code = .ref c0) (S : FnScope N ps (defScope st)) (hp : ps.length = 4)
    (body : ∀ (A : Around) (outer : List Env) (s : Shared) (H : Hp) (E : XK) (p1 p2 : DL.P) (Ψ : DL.P → Prop) (h c : Addr), Room k (BX P w K mg base N qual (defScope st) f (.ref c0) A outer s H E).A → wp [p1, p2] Ψ →
      SSs (BX P w K mg base N qual (defScope st) f (.ref c0) A outer s H E) (defBody st) (some (.rnd h c) :: some (.p p1) :: some (.p p2) :: cT P0 q :: List.replicate (N.length - 4) none)
        ⟨fun ρ => ρ[0]? = some (some (.rnd h c)) ∧ ρ[3]? = some (cT P0 q) ∧ Ψ (.d .none), fun p ρ => ρ[0]? = some (some (.rnd h c)) ∧ ρ[3]? = some (cT P0 q) ∧ Ψ p, fun _ => False, fun _ => False, fun _ => False⟩) : FnOk P w K mg base CX0 (k + 1) f fd ps (spT K P0 q wp) := by
  have hNp : 4 ≤ N.length := by
    have e := S.pre
    have q := congrArg List.length e
    rw [List.length_take] at q
    omega
  refine okC F hc S (fun vs H Q E ⟨F0, h, c, ns, st, v1, v2, v3, p1, p2, Ψ, ev, _⟩ => by rw [ev, hp]; rfl) (fun A outer s H vs Φ E hr ⟨F0, h, c, ns, st, v1, v2, v3, p1, p2, Ψ, ev, sm, h1, h2, h3, h4, h5, h6, ok, tb, r1, r2, hw, kk⟩ => ⟨_, pss_w, ?_⟩)
  subst ev
  have hPne : H P0 ≠ none := by
    obtain ⟨tps, e, _⟩ := id tb
    rw [e]; simp
  have hPh : P0 ≠ h := fun z => by
    obtain ⟨tps, e, _⟩ := id tb
    rw [z, h4] at e; cases e
  have hPc : P0 ≠ c := fun z => by
    obtain ⟨tps, e, _⟩ := id tb
    rw [z, h5] at e; cases e
  have t0 := stt_startR (N := N) (ps := [p1, p2, .raw v3]) (vs := [v1, v2, v3]) sm (.cons r1 (.cons r2 (.cons rfl .nil))) h1 h2 h4 h5 h6 ok hNp
  have eN : N.length - ([p1, p2, DL.P.raw v3].length + 1) = N.length - 4 := rfl
  rw [eN] at t0
  have t1 := t0.addOwn (i := 3) (a := P0) (v := v3) (c := .cust (tabC P0 q)) (by show 3 < (_ :: _ :: _ :: _ :: List.replicate (N.length - 4) (none : Option Cell)).length; simp) rfl h3 hPne (fun j hj => by
    by_cases z : j = 0
    · simp only [z, if_true] at hj
      rcases List.mem_cons.mp hj with y | y
      · exact hPh y
      · exact hPc (by simpa using y)
    · simp only [z, if_false] at hj
      cases hj) ⟨rfl, tb⟩
  have fin : ∀ {v : V} {p : DL.P} {ρ' : Ev} {fp' : Nat → List Addr} {F' : Hp} {σ' : L2.St} {H' : Hp}, Stt K ⟨F0, H, fun b => (b = h ∨ b = c) ∨ b = P0⟩ ρ' fp' F' σ' H' → Rep K F' v p → ρ'[0]? = some (some (.rnd h c)) → ρ'[3]? = some (cT P0 q) → Ψ p → Φ v H' := fun {v p ρ' fp' F' σ' H'} t rp e e3 qq => by
    obtain ⟨_, _, ns', st', hf, _, g3, g4, g5, ok'⟩ := t.cells 0 _ e
    obtain ⟨_, _, hf3, tb'⟩ := t.cells 3 _ e3
    have o1 := t.own 0 h (by rw [hf]; simp)
    have o2 := t.own 0 c (by rw [hf]; simp)
    have o3 := t.own 3 P0 (by rw [hf3]; simp)
    refine kk v F' H' p ns' st' ⟨t.exF, t.ex, fun a o n1 n2 n3 e => t.exH a o (fun z => by rcases z with (z | z) | z; exact n1 z; exact n2 z; exact n3 z) e, fun a n1 n2 => ?_⟩ g3 g4 ok' tb' rp qq
    by_cases z1 : a = h
    · rw [z1]; exact o1.1
    by_cases z2 : a = c
    · rw [z2]; exact o2.1
    by_cases z3 : a = P0
    · rw [z3]; exact o3.1
    exact t.fre a n1 n2 fun z => by rcases z with (z | z) | z; exact z1 z; exact z2 z; exact z3 z
  exact body A outer s H E p1 p2 Ψ h c hr hw _ _ F0 _ H _ t1 ⟨fun ρ' fp' F' σ' H' t ⟨e, e3, q⟩ => fin t rpN e e3 q, fun v p ρ' fp' F' σ' H' t rp ⟨e, e3, q⟩ => fin t rp e e3 q, fun _ _ _ _ _ _ q => q, fun _ _ _ _ _ _ q => q, fun _ _ _ _ _ _ _ _ _ _ q => q.elim⟩
end DL
namespace W63
open PySem PySem.Spec PyProof.Rows L2 DL
open LamX (CodeO TabB LamS lamCx lamEnv)
section
variable {X : Cx} {ρ : Ev} {Q : DL.P → Ev → Prop} {pos p lpos : Pos} {body : Expr} {k : Nat}
/-- _law_told(lambda: body), the body raises one of both -/
theorem ev_told {g c P C1 C2 Y : Addr} {fd : FuncData} {params : Arguments} {scope : Scope} (i : Nat) (T : ToldTxt X.prog X.K X.mg C1 C2 Y) (FT : Fun X.K "_law_told" "_law_told" s_ltold g fd) (hm : X.mg "_law_told" = some (.ref g)) (hb : Binds X.K fd ["_law_work"] []) (TB : TabB X.base X.mg c P) (hr : Room (k + 2) X.A)
    (h : ∀ (A : Around) (outer : List Env) (s : Shared) (H : Hp) (E : XK) (f c' : Addr), Room k (A.deeper (lamEnv X scope s.heap.objs.size f c')) → ER2 (lamCx X A outer s H E scope f c') body ρ fun e ρ1 =>
      (e.nm = "InvalidTimetable" ∧ e.fld = "at" ∧ Q (.d (.tuple [.str "events", e.x])) ρ1) ∨ (e.nm = "Refused" ∧ e.fld = "word" ∧ Q (.d (.tuple [.str "refused", e.x])) ρ1))
    (h0 : ρ[i]? = some (cT P (X.env.qual ++ "<lambda>")) := by rfl) (hcode : X.env.code = .ref c := by rfl) (L : LamS X.env.scope scope := by exact LamX.lamS_by (by kernel_rfl)) (hdef : defaultsOf params X.env = ([], []) := by rfl)
    (hbind : ∀ (q : Str) (cl : List (Str × Addr)) (pm cv ctv : Value), bindArgs (PySem.W.kla_fn "<lambda>" q params body scope cl pm cv ctv) ⟨[], []⟩ = pure [] := by intros; rfl) (hg : Gl X "_law_told" := by rfl) : EV X (.Call (.Name "_law_told" p) [.Lambda params body scope lpos] [] pos) ρ Q := by
  obtain ⟨oc, od, kV, doc, pm, an, cdv, ct, osl, rfl, lk, hcd⟩ := FT.ex
  obtain ⟨fI1, x1⟩ := T.x1
  obtain ⟨fI2, x2⟩ := T.x2
  refine ev_lamR (TX := tX X.K C1 C2) i hg hm FT.kp lk hcd hb sc_ltold rfl (Or.inl rfl) (told_gives T) (fun _ _ _ h => h) TB hcode hr L hdef hbind h0 h (fun Γ fp F σ H Φ e cls d ρ' t xr th kk => ?_)
  obtain ⟨nm, fld, ex⟩ := e
  obtain ⟨C, dd, v, rfl, hmg, rfl, hF, hv⟩ := xr
  have new : ∀ (w : Str) (pp : Addr), H pp = none → Q (.d (.tuple [.str w, ex])) ρ' → Φ (.ref pp) (upd H pp (.tup [.str w, v])) := fun w pp hp qq => by
    have gr := Gr.new (o := .tup [.str w, v]) t.ex hp
    exact kk _ _ _ (.d (.tuple [.str w, ex])) fp (t.grow gr) gr.f (Dq.tup upd_same (.cons (.str w) (.cons (dp_same gr.f hv) .nil))) qq
  rcases th with ⟨z1, z2, qq⟩ | ⟨z1, z2, qq⟩
  · have z1 : nm = "InvalidTimetable" := z1
    have z2 : fld = "at" := z2
    subst z1 z2
    have e1 : X.mg "InvalidTimetable" = some (.ref C) := hmg
    rw [x1.gC] at e1
    cases e1
    exact ⟨true, T.e11, fun _ => ⟨dd, v, rfl, rfl, t.ex _ _ hF, fun pp hp => new _ pp hp qq⟩, fun z => nomatch z⟩
  · have z1 : nm = "Refused" := z1
    have z2 : fld = "word" := z2
    subst z1 z2
    have e1 : X.mg "Refused" = some (.ref C) := hmg
    rw [x2.gC] at e1
    cases e1
    exact ⟨false, T.e21, fun z => (nomatch z), fun _ => ⟨true, T.e22, fun _ => ⟨dd, v, rfl, rfl, t.ex _ _ hF, fun pp hp => new _ pp hp qq⟩, fun z => nomatch z⟩⟩
end
end W63
end PartLT2
section PartLT3
set_option maxRecDepth 100000
set_option maxHeartbeats 4000000
namespace W63
open PySem PySem.Spec PyProof.Rows L2 DL
open LamX (CodeO TabB LamS lamCx lamEnv)
/-- what need_timetable says of a thing -/
def BadIs (hs : List Int) (bad : D) (dz : Int) : Prop := ∀ Θ : Exn → Prop, Θ (badAt dz) → wx_need [.yd hs, .d bad] Θ
theorem bad_of {hs : List Int} {evs : List Evt} {i : Nat} (h1 : ∀ e ∈ evs, NameOk e.2) (h2 : evs.length ≤ 1000) (h3 : fault hs.sum evs 0 [] [] = some i) : BadIs hs (ttD evs) (i : Nat) := fun Θ q => ⟨hs, .inr ⟨evs, i, rfl, h1, h2, h3, q⟩⟩
theorem bad_list {hs : List Int} (ds : List D) : BadIs hs (.list ds) (-1) := fun Θ q => ⟨hs, .inl ⟨ds, rfl, q⟩⟩
theorem cut_first (e : Evt) (r : List Evt) : DL.cutD ((e :: r).map evD) none (some 1) = [evD e] := by
  have h1 : (1 : Int) = ((1 : Nat) : Int) := rfl
  unfold DL.cutD
  rw [h1, HT.sIx_nat, List.length_map, List.length_cons]
  show (((e :: r).map evD).drop 0).take (min 1 (r.length + 1) - 0) = _
  rw [List.drop_zero, Nat.sub_zero, Nat.min_eq_left (by omega)]
  rfl
theorem EN.monoN {X : Cx} {e : Expr} {ρ : Ev} {Qn Qn' : List D → Ev → Prop} (h : EN X e ρ Qn) (hq : ∀ ds ρ', Qn ds ρ' → Qn' ds ρ') : EN X e ρ Qn' := fun Γ fp F σ H Φ t k =>
  h Γ fp F σ H Φ t fun a vs F' H' ds ρ' fp' t' f h1 h2 h3 h4 h5 q => k a vs F' H' ds ρ' fp' t' f h1 h2 h3 h4 h5 (hq _ _ q)
theorem iteNe {d e : D} {a b : Prop} (h : PyData.eqv d e = true) (q : b) : if (!PyData.eqv d e) = true then a else b := by
  rw [h]
  exact q
theorem isEvt_in (x : Str) : isEvt (("in", x) : Evt) = true := by
  show decide (("in" : Str) ∈ (["in", "out"] : List Str)) = true
  decide
theorem isEvt_out (x : Str) : isEvt (("out", x) : Evt) = true := by
  show decide (("out" : Str) ∈ (["in", "out"] : List Str)) = true
  decide
theorem isEvt_on (x : Str) : isEvt (("on", x) : Evt) = false := by
  show decide (("on" : Str) ∈ (["in", "out"] : List Str)) = false
  decide
section
variable {n : Int} {x : Str} {rest : List Evt}
theorem one_came (one : List Evt) (h : (("in", x) : Evt) ∈ one) : x ∈ came one := mem_came.mpr h
theorem fault_again {one : List Evt} (T : Tt n one) (h : (("in", x) : Evt) ∈ one) : fault n (one ++ [(("in", x) : Evt)]) 0 [] [] = some one.length := by
  rw [T.flt, fault_cons, if_neg (by rw [isEvt_in]; simp), if_pos ⟨rfl, .inl (one_came one h)⟩]
theorem fault_outs {one : List Evt} (T : Tt n one) (h : (("in", x) : Evt) ∈ one) : fault n (one ++ [(("out", x) : Evt), (("out", x) : Evt)]) 0 [] [] = some (if (("out", x) : Evt) ∈ one then one.length else one.length + 1) := by
  have hc := one_came one h
  have ev := isEvt_out x
  have no : ¬ (("out" : Str) = "in") := ne_out
  rw [T.flt, fault_cons, ev, if_neg (by simp), if_neg (fun z => no z.1)]
  by_cases c : (("out", x) : Evt) ∈ one
  · rw [if_pos ⟨rfl, .inr ((mem_gone T.val).mpr c)⟩, if_pos c]
  · have ng : x ∉ gone one := fun z => c ((mem_gone T.val).mp z)
    rw [if_neg (fun z => z.2.elim (fun y => y hc) ng), if_neg no, fault_cons, ev, if_neg (by simp), if_neg (fun z => no z.1), if_pos ⟨rfl, .inr (by simp)⟩, if_neg c]
theorem fault_on (h : 1 ≤ n) : fault n [(("in", x) : Evt), (("on", x) : Evt)] 0 [] [] = some 1 := by
  rw [fault_cons, isEvt_in, if_neg (by simp), if_neg (fun z => by
    rcases z.2 with y | y
    · cases y
    · have y : n ≤ (([] : List Str).length : Nat) - (([] : List Str).length : Nat) := y
      have e : (([] : List Str).length : Int) = 0 := rfl
      rw [e] at y
      omega), if_neg (fun z => absurd (show ("in" : Str) = "out" from z.1) (by decide)), if_pos rfl, fault_cons, isEvt_on, if_pos rfl]
theorem tt_one (h : 1 ≤ n) (hx : NameOk x) : Tt n [(("in", x) : Evt)] where
  val := .inn (evs := []) .nil (fun z => nomatch z)
  room := fun k => by
    have := thr_len (([(("in", x) : Evt)] : List Evt).take k)
    rw [List.length_take, List.length_singleton] at this
    omega
  names := fun e he => by
    rw [List.mem_singleton.mp he]
    exact hx
  few := by show 1 ≤ 30; decide
end
section
variable {P : Program} {w : World} {K : PySem.W.Frag} {mg : Str → Option Value} {base : Heap} {f : Addr} {fd : FuncData}
abbrev s_lref : Stmt := top 59
theorem sc_lref : FnScope ["_law_heap_here", "_law_yard", "_law_one", "_law_other", "_law_box", "_law_bad_here", "_law_due"] ["_law_heap_here", "_law_yard", "_law_one", "_law_other"] (defScope s_lref) := ⟨rfl, rfl, rfl, by decide +kernel, rfl, by decide +kernel, by decide +kernel⟩
abbrev refQ : Str := (envOfC "_law_refused_right" (defScope s_lref) 0 0 .none).qual ++ "<lambda>"
def w_lref : Wp := fun as Ψ => ∃ (hs : List Int) (one : List Evt), as = [.yd hs, .d (ttD one)] ∧ YardOk hs ∧ Tt hs.sum one ∧ (∃ x rest, one = (("in", x) : Evt) :: rest) ∧ Ψ (.d (.bool true))
theorem ok_lref {P0 c0 C1 C2 Y g : Addr} {fdt : FuncData} (F : Fun K "_law_refused_right" "_law_refused_right" s_lref f fd) (hc : fd.code = .ref c0) (TB : TabB base mg c0 P0) (T : Bl mg) (G : Prog3 P w K mg base) (TT : ToldTxt P K mg C1 C2 Y) (FT : Fun K "_law_told" "_law_told" s_ltold g fdt) (hmt : mg "_law_told" = some (.ref g)) (hbt : Binds K fdt ["_law_work"] [])
    (D2 : DefOk P w K mg base CX0 "_law_pick" 2 ["_law_heap_here", "_law_some"] (spR K w_pick)) :
    FnOk P w K mg base CX0 11 f fd ["_law_heap_here", "_law_yard", "_law_one", "_law_other"] (spT K P0 refQ w_lref) := by
  refine fnT F hc sc_lref rfl (fun A outer s H E p1 p2 Ψ hh cc hr ⟨hs, one, e, yo, tt, ⟨x, rest, h1⟩, q⟩ => ?_)
  cases e
  have nd := sc_lref.nd
  have m1 : (("in", x) : Evt) ∈ one := by rw [h1]; simp
  have xn : NameOk x := tt.names _ m1
  have n1 : 1 ≤ hs.sum := by have := yo.mxs; have := yo.mx; omega
  have few := tt.few
  refine ss_cons <| ss_set 4 (EV.ec <| ev_ix <| ev_ix <| ev_var 2 rfl <| ev_int ⟨_, _, evD ("in", x), rfl, rfl, .inr (.inl ⟨_, rfl, atI_of (i := 0) (by rw [h1]; rfl)⟩), ev_int ⟨_, _, .str x, rfl, rfl, .inr (.inl ⟨_, rfl, rfl⟩), ?_⟩⟩) nd
  have eqB : PyData.eqv (.tuple [.str "refused", .str "boxes"]) (.tuple [.str "refused", .str "boxes"]) = true := by decide +kernel
  refine ss_cons <| ss_if <| et_ne hr <| ev_told (P := P0) 3 TT FT hmt hbt TB hr (fun A' outer' s' H' E' f' c' hr2 => er2_call G.ev (hr2.mono (by decide)) <| ea_cons <| ev_var 1 rfl <| ea_cons <| ev_var 2 rfl <| ea_cons <| ev_tup <| ea_cons <| ev_tup <| ea_cons <| ev_str <| ea_cons <| ev_var 4 rfl <| ea_nil ⟨[.str "in", .str x], rfl, by simp, ea_nil ⟨[evD ("in", x)], rfl, by simp, ea_nil ⟨hs, .inr (.inr ⟨one, [("in", x)], x, rfl, tt, tt_one n1 xn, one_came one m1, by simp [came], .inr ⟨rfl, rfl, ?_⟩⟩)⟩⟩⟩)
  refine ev_tup <| ea_cons <| ev_str <| ea_cons <| ev_str <| ea_nil ⟨[.str "refused", .str "boxes"], rfl, by simp, _, _, rfl, rfl, by decide +kernel, by decide +kernel, ?_⟩
  refine iteNe eqB <| ss_nil <| ss_cons <| ss_if <| et_ne hr <| ev_told (P := P0) 3 TT FT hmt hbt TB hr (fun A' outer' s' H' E' f' c' hr2 => er2_call G.ct hr2 <| ea_cons <| ev_var 1 rfl <| ea_cons <| ev_tup <| ea_cons <| ev_tup <| ea_cons <| ev_str <| ea_cons <| ev_var 4 rfl <| ea_nil ⟨[.str "in", .str x], rfl, by simp, ea_nil ⟨[evD ("in", x)], rfl, by simp, ea_cons <| ev_var 2 rfl <| ea_nil ⟨hs, .inr (.inr ⟨[("in", x)], one, x, rfl, tt_one n1 xn, tt, by simp [came], one_came one m1, .inr ⟨rfl, rfl, ?_⟩⟩)⟩⟩⟩)
  refine ev_tup <| ea_cons <| ev_str <| ea_cons <| ev_str <| ea_nil ⟨[.str "refused", .str "boxes"], rfl, by simp, _, _, rfl, rfl, by decide +kernel, by decide +kernel, ?_⟩
  refine iteNe eqB <| ss_nil <| ss_cons <| ss_asg (ix := [5] ++ ([6] ++ [])) <| ev_callR (hh := hh) (cc := cc) 0 D2 (hr.mono (by decide)) <| ea_cons <| EN.ev <| EN.monoN (Qn := fun ds ρ1 => ds = [.tuple [.tuple (one.map evD ++ [evD ("in", x)]), .int (one.length : Nat)], .tuple [.list (one.map evD), .int (-1)], .tuple [.tuple (one.map evD ++ [evD ("out", x), evD ("out", x)]), .none], .tuple [.tuple [evD ("in", x), evD ("on", x)], .int 1]] ∧ ρ1 = [some (.rnd hh cc), some (.p (.yd hs)), some (.p (.d (ttD one))), cT P0 refQ, some (.p (.d (.str x))), none, none]) ?_ ?_
  · refine en_lst <| ea_cons <| ev_tup <| ea_cons <| ev_cat_tup <| ev_var 2 rfl <| ev_slT <| ev_var 2 rfl <| eo_none <| eo_some <| ev_int ⟨_, rfl, one.map evD, rfl, one.map evD, [evD ("in", x)], rfl, by rw [h1, cut_first], by rw [List.length_map]; simp; omega, ?_⟩
    refine ea_cons <| ev_len T.len <| ev_var 2 rfl ⟨_, (one.map evD).length, rfl, rfl, ea_nil ⟨[.tuple (one.map evD ++ [evD ("in", x)]), .int ((one.map evD).length : Nat)], rfl, by simp, ?_⟩⟩
    refine ea_cons <| ev_tup <| ea_cons <| EN.ev <| en_list T.list <| ev_var 2 rfl ⟨one.map evD, .inr rfl, ea_cons <| ev_neg <| ev_int ⟨1, rfl, ea_nil ⟨[.list (one.map evD), .int (-1)], rfl, by simp, ?_⟩⟩⟩
    refine ea_cons <| ev_tup <| ea_cons <| ev_cat_tup <| ev_var 2 rfl <| ev_tup <| ea_cons <| ev_tup <| ea_cons <| ev_str <| ea_cons <| ev_var 4 rfl <| ea_nil ⟨[.str "out", .str x], rfl, by simp, ea_cons <| ev_tup <| ea_cons <| ev_str <| ea_cons <| ev_var 4 rfl <| ea_nil ⟨[.str "out", .str x], rfl, by simp, ea_nil ⟨[evD ("out", x), evD ("out", x)], rfl, by simp, one.map evD, [evD ("out", x), evD ("out", x)], rfl, rfl, by rw [List.length_map]; simp; omega, ?_⟩⟩⟩
    refine ea_cons <| ev_none <| ea_nil ⟨[.tuple (one.map evD ++ [evD ("out", x), evD ("out", x)]), .none], rfl, by simp, ?_⟩
    refine ea_cons <| ev_tup <| ea_cons <| ev_tup <| ea_cons <| ev_tup <| ea_cons <| ev_str <| ea_cons <| ev_var 4 rfl <| ea_nil ⟨[.str "in", .str x], rfl, by simp, ea_cons <| ev_tup <| ea_cons <| ev_str <| ea_cons <| ev_var 4 rfl <| ea_nil ⟨[.str "on", .str x], rfl, by simp, ea_nil ⟨[evD ("in", x), evD ("on", x)], rfl, by simp, ?_⟩⟩⟩
    refine ea_cons <| ev_int <| ea_nil ⟨[.tuple [evD ("in", x), evD ("on", x)], .int 1], rfl, by simp, ?_⟩
    rw [List.length_map]
    exact ea_nil ⟨[.tuple [.tuple (one.map evD ++ [evD ("in", x)]), .int (one.length : Nat)], .tuple [.list (one.map evD), .int (-1)], .tuple [.tuple (one.map evD ++ [evD ("out", x), evD ("out", x)]), .none], .tuple [.tuple [evD ("in", x), evD ("on", x)], .int 1]], rfl, by simp, rfl, rfl⟩
  rintro ds ρ1 ⟨rfl, rfl⟩
  refine ea_nil ⟨rfl, .inl ⟨_, rfl, by simp, by simp, fun d hd => ?_⟩⟩
  have key : ∃ (bad due : D) (dz : Int), d = .tuple [bad, due] ∧ BadIs hs bad dz ∧ (due = .int dz ∨ (due = .none ∧ dz = if (("out", x) : Evt) ∈ one then (one.length : Int) else one.length + 1)) := by
    simp only [List.mem_cons, List.not_mem_nil, or_false] at hd
    rcases hd with rfl | rfl | rfl | rfl
    · refine ⟨_, _, (one.length : Nat), rfl, ?_, .inl rfl⟩
      have b := bad_of (hs := hs) (evs := one ++ [(("in", x) : Evt)]) (fun e he => by
        rcases List.mem_append.mp he with z | z
        · exact tt.names e z
        · rw [List.mem_singleton.mp z]; exact xn) (by rw [List.length_append, List.length_singleton]; omega) (fault_again tt m1)
      unfold ttD at b
      rw [List.map_append] at b
      exact b
    · exact ⟨_, _, -1, rfl, bad_list _, .inl rfl⟩
    · refine ⟨_, _, _, rfl, ?_, .inr ⟨rfl, rfl⟩⟩
      have b := bad_of (hs := hs) (evs := one ++ [(("out", x) : Evt), (("out", x) : Evt)]) (fun e he => by
        rcases List.mem_append.mp he with z | z
        · exact tt.names e z
        · have : e = (("out", x) : Evt) := by simpa using z
          rw [this]; exact xn) (by rw [List.length_append]; show one.length + 2 ≤ 1000; omega) (fault_outs tt m1)
      unfold ttD at b
      rw [List.map_append] at b
      have e1 : ((if (("out", x) : Evt) ∈ one then one.length else one.length + 1 : Nat) : Int) = if (("out", x) : Evt) ∈ one then (one.length : Int) else one.length + 1 := by split <;> simp
      rw [e1] at b
      exact b
    · refine ⟨_, _, 1, rfl, ?_, .inl rfl⟩
      exact bad_of (hs := hs) (evs := [(("in", x) : Evt), (("on", x) : Evt)]) (fun e he => by
        have : e.2 = x := by
          simp only [List.mem_cons, List.not_mem_nil, or_false] at he
          rcases he with rfl | rfl <;> rfl
        rw [this]; exact xn) (by show 2 ≤ 1000; decide) (fault_on n1)
  obtain ⟨bad, due, dz, rfl, hbad, hdue⟩ := key
  refine ⟨_, rfl, gb_tup rfl <| gbs_cons <| gb_name 5 (gbs_cons <| gb_name 6 (gbs_nil ?_) nd) nd⟩
  refine ss_cons <| ss_ifJ <| et_isN <| ev_var 6 rfl ⟨isNon (.d due) = true, inferInstance, [some (.rnd hh cc), some (.p (.yd hs)), some (.p (.d (ttD one))), cT P0 refQ, some (.p (.d (.str x))), some (.p (.d bad)), some (.p (.d (.int dz)))], by simp, fun c => ?_, fun c => ?_, ?_⟩
  · rcases hdue with rfl | ⟨rfl, rfl⟩
    · cases c
    · refine ss_one <| ss_set 6 (EV.ec <| ev_ifExp <| et_inT hr <| ev_tup <| ea_cons <| ev_str <| ea_cons <| ev_var 4 rfl <| ea_nil ⟨[.str "out", .str x], rfl, by simp, ev_var 2 rfl ⟨evD ("out", x), one.map evD, rfl, rfl, ev_shaped ⟨.inr (.inl rfl), xn⟩, tt_shaped tt.evs, ?_⟩⟩) nd
      rw [any_eqv]
      refine ite2 (fun d => ?_) fun d => ?_
      · have d' : (("out", x) : Evt) ∈ one := of_decide_eq_true d
        rw [if_pos d']
        refine ev_len T.len <| ev_var 2 rfl ⟨_, (one.map evD).length, rfl, rfl, ?_⟩
        rw [List.length_map]
        rfl
      · have d' : ¬ (("out", x) : Evt) ∈ one := fun z => d (decide_eq_true z)
        rw [if_neg d']
        refine ev_add <| ev_len T.len <| ev_var 2 rfl ⟨_, (one.map evD).length, rfl, rfl, ev_int ⟨_, _, rfl, rfl, ?_⟩⟩
        rw [List.length_map]
        rfl
  · rcases hdue with rfl | ⟨rfl, _⟩
    · exact ss_nil rfl
    · exact absurd rfl c
  have shE : SeqAt.shaped (.tuple [.str "events", .int dz]) = true := by kernel_rfl
  have eqE : PyData.eqv (.tuple [.str "events", .int dz]) (.tuple [.str "events", .int dz]) = true := by simp [PyData.eqv, PyData.eqvAll]
  refine ss_cons <| ss_if <| et_ne hr <| ev_told (P := P0) 3 TT FT hmt hbt TB hr (fun A' outer' s' H' E' f' c' hr2 => er2_call G.sm hr2 <| ea_cons <| ev_var 1 rfl <| ea_cons <| ev_var 2 rfl <| ea_cons <| ev_var 5 rfl <| ea_nil ⟨hs, .inr (.inl ⟨one, _, rfl, tt, hbad _ (.inl ⟨rfl, rfl, ?_⟩)⟩)⟩)
  refine ev_tup <| ea_cons <| ev_str <| ea_cons <| ev_var 6 rfl <| ea_nil ⟨[.str "events", .int dz], rfl, by simp, _, _, rfl, rfl, shE, shE, ?_⟩
  refine iteNe eqE <| ss_nil <| ss_cons <| ss_if <| et_ne hr <| ev_told (P := P0) 3 TT FT hmt hbt TB hr (fun A' outer' s' H' E' f' c' hr2 => er2_call G.ev (hr2.mono (by decide)) <| ea_cons <| ev_var 1 rfl <| ea_cons <| ev_var 5 rfl <| ea_cons <| ev_var 2 rfl <| ea_nil ⟨hs, .inl ⟨_, _, rfl, hbad _ (.inl ⟨rfl, rfl, ?_⟩)⟩⟩)
  refine ev_tup <| ea_cons <| ev_str <| ea_cons <| ev_var 6 rfl <| ea_nil ⟨[.str "events", .int dz], rfl, by simp, _, _, rfl, rfl, shE, shE, ?_⟩
  refine iteNe eqE <| ss_nil <| ss_one <| ss_ret <| ev_eq hr <| ev_told (P := P0) 3 TT FT hmt hbt TB hr (fun A' outer' s' H' E' f' c' hr2 => er2_call G.ct hr2 <| ea_cons <| ev_var 1 rfl <| ea_cons <| ev_var 5 rfl <| ea_cons <| ev_none <| ea_nil ⟨hs, .inl ⟨_, _, rfl, hbad _ (.inl ⟨rfl, rfl, ?_⟩)⟩⟩)
  refine ev_tup <| ea_cons <| ev_str <| ea_cons <| ev_var 6 rfl <| ea_nil ⟨[.str "events", .int dz], rfl, by simp, _, _, rfl, rfl, shE, shE, rfl, rfl, ?_⟩
  have q' : Ψ (.d (.bool (PyData.eqv (.tuple [.str "events", .int dz]) (.tuple [.str "events", .int dz])))) := by rw [eqE]; exact q
  exact q'
end
end W63
end PartLT3
section PartLL1
set_option maxRecDepth 100000
set_option maxHeartbeats 4000000
namespace DL
open PySem PySem.Spec PyProof.Rows L2
/-- the script, and the table -/
def scrT (K : PySem.W.Frag) (P : Addr) (q : Str) (ns : List Int) : CRel where
  ok := fun F H v as => as = [P] ∧ TabF F H P q ∧ ∃ a, v = .ref a ∧ SqL K F a (ns.map V.int)
  st := fun e k h => by
    obtain ⟨rfl, h2, a, h3, h4⟩ := h
    exact ⟨rfl, h2.same e (k _ (by simp)), a, h3, e.seq h4⟩
section
variable {X : Cx} {ρ : Ev} {pos : Pos} {x : Str} {R : Rt} {sts : List Stmt} {Q : P → Ev → Prop} {P0 : Addr} {q : Str} {ns : List Int}
theorem ev_scrT (i : Nat) (qq : Q (.scr ns) ρ) (h0 : ρ[i]? = some (some (.cust (scrT X.K P0 q ns))) := by rfl) (hN : X.N[i]? = some x := by rfl) (hv : Vis X.env.scope x := by first | exact Or.inl rfl | exact Or.inr (Or.inl rfl) | exact Or.inr (Or.inr rfl))
    (hd : (x == ("__debug__" : Str)) = false := by decide) (hcd : (x == ("__classdict__" : Str)) = false := by decide) : EV X (.Name x pos) ρ Q := fun Γ fp F σ H Φ t k pins s I => by
  obtain ⟨v, hw, has, tb, a, rfl, hS⟩ := t.cells i _ h0
  exact (pe_var hN hv hd hcd).run pins s σ H Φ I ⟨.ref a, hw, k (.ref a) F H (.scr ns) ρ fp t (Same.refl _) ⟨a, rfl, hS⟩ qq⟩
theorem sss_scrT (i : Nat) (h : SSs X sts (ρ.set i (cT P0 q)) R) (h0 : ρ[i]? = some (some (.cust (scrT X.K P0 q ns))) := by rfl) : SSs X sts ρ R := fun Γ fp F σ H D t k => by
  obtain ⟨v, hw, has, tb, _⟩ := t.cells i _ h0
  exact h Γ fp F σ H D (t.recell (c := .cust (tabC P0 q)) (List.getElem?_eq_some_iff.mp h0).1 hw ⟨has, tb⟩) k
/-- a list of one's own becomes fixed data -/
theorem Stt.takeOwn {K : PySem.W.Frag} {Γ : Anc} {fp : Nat → List Addr} {F H : Hp} {σ : L2.St} (t : Stt K Γ ρ fp F σ H) {i : Nat} {ds : List D} (h : ρ[i]? = some (some (.own ds))) : ∃ F', Stt K Γ (ρ.set i (some (.p (.d (.list ds))))) (fset fp i []) F' σ H ∧ Same F F' := by
  obtain ⟨a, vs, hf, hv, ha, hd, hl⟩ := own_at t h
  obtain ⟨o1, o2, o3⟩ := t.own i a (by rw [hf]; simp)
  have hn : ∀ j, a ∉ fset fp i [] j := fun j hj => by
    by_cases z : j = i
    · subst z
      rw [fset_same] at hj; cases hj
    · rw [fset_ne z] at hj
      exact t.sep j i a z hj (by rw [hf]; simp)
  have t2 := (t.drop i).freeze ha o1 o3 hn
  have s1 : Same F (upd F a (.lst vs)) := same_new o1
  have rp : Rep K (upd F a (.lst vs)) (.ref a) (.d (.list ds)) := rpL upd_same (dpAll_same s1 hd)
  have t3 := t2.setP i (v := .ref a) rp
  have e1 : (ρ.set i none).set i (some (Cell.p (.d (.list ds)))) = ρ.set i (some (.p (.d (.list ds)))) := by rw [List.set_set]
  have e2 : σ.set i (some (V.ref a)) = σ := by
    apply List.ext_getElem?
    intro j
    by_cases z : i = j
    · subst z
      rw [List.getElem?_set_self (by rw [t.len]; exact hl), hv]
    · rw [List.getElem?_set_ne z]
  have e3 : fset (fset fp i []) i [] = fset fp i [] := by
    funext j
    by_cases z : j = i
    · subst z
      rw [fset_same, fset_same]
    · rw [fset_ne z]
  rw [e1, e2, e3] at t3
  exact ⟨_, t3, s1⟩
theorem sss_fix (i : Nat) (h : SSs X sts ρ { R with nx := fun ρ1 => ∃ ds, ρ1[i]? = some (some (.own ds)) ∧ R.nx (ρ1.set i (some (.p (.d (.list ds))))) }) : SSs X sts ρ R := fun Γ fp F σ H D t k =>
  h Γ fp F σ H D t ⟨fun ρ' fp' F' σ' H' t' ⟨ds, h1, q⟩ => by
    obtain ⟨F2, t2, _⟩ := t'.takeOwn h1
    exact k.nx _ _ F2 σ' H' t2 q, k.rt, k.bk, k.ct, k.xc⟩
end
/-- the law's promise: true, whatever the script -/
def spL (K : PySem.W.Frag) (P0 : Addr) : Sp := fun vs H Φ _ => ∃ (a : Addr) (ns : List Int), vs = [.ref a] ∧ SqL K H a (ns.map V.int) ∧ H P0 = some (.tbl #[]) ∧ ∀ H', Φ (.bl true) H'
theorem fnL {P : Program} {w : World} {K : PySem.W.Frag} {mg : Str → Option Value} {base : Heap} {x qual : Str} {st : Stmt} {f P0 : Addr} {q : Str} {fd : FuncData} {N ps : List Str} {k : Nat} (F : Fun K x qual st f fd) (S : FnScope N ps (defScope st)) (hp : ps.length = 1)
    (body : ∀ (cdv : Value) (A : Around) (outer : List Env) (s : Shared) (H : Hp) (E : XK) (ns : List Int), Room k (BX P w K mg base N qual (defScope st) f cdv A outer s H E).A →
      SSs (BX P w K mg base N qual (defScope st) f cdv A outer s H E) (defBody st) (some (.cust (scrT K P0 q ns)) :: List.replicate (N.length - 1) none)
        ⟨fun _ => False, fun p _ => p = .d (.bool true), fun _ => False, fun _ => False, fun _ => False⟩) : FnOk P w K mg base CX0 (k + 1) f fd ps (spL K P0) := by
  refine F.ok S (fun vs H Q E ⟨a, ns, ev, _⟩ => by rw [ev, hp]; rfl) (fun cdv A outer s H vs Φ E hr ⟨a, ns, ev, hS, hP, kk⟩ => ⟨_, pss_w, ?_⟩)
  subst ev
  have sm : Same (fun b => if b = P0 then none else H b) H := fun b o e => by
    by_cases z : b = P0
    · have e' : (if b = P0 then none else H b) = some o := e
      rw [if_pos z] at e'; cases e'
    · have e' : (if b = P0 then none else H b) = some o := e
      rw [if_neg z] at e'
      exact e'
  have hF : (fun b => if b = P0 then none else H b) P0 = none := if_pos rfl
  have hS' : SqL K (fun b => if b = P0 then none else H b) a (ns.map V.int) := by
    rcases hS with hS | hS
    · have na : a ≠ P0 := fun z => by
        subst z
        rcases hS with hS | ⟨o, hS⟩
        · rw [hP] at hS; cases hS
        · rw [hP] at hS; cases hS
      refine .inl ?_
      rcases hS with hS | ⟨o, hS⟩
      · exact .inl ((if_neg na).trans hS)
      · exact .inr ⟨o, (if_neg na).trans hS⟩
    · exact .inr hS
  have t0 := stt_start (K := K) (N := N) (vs := [.ref a]) (ps := [.scr ns]) sm (.cons ⟨a, rfl, hS'⟩ .nil) fun _ => False
  have tb : TabF (fun b => if b = P0 then none else H b) H P0 q := ⟨#[], hP, True.intro, fun pos cv hc => by
    have z : codeAmong pos [] = some cv := hc
    simp [codeAmong] at z⟩
  have t1 := t0.addOwn (i := 0) (a := P0) (v := .ref a) (c := .cust (scrT K P0 q ns)) (by show 0 < (_ :: _).length; simp) rfl hF (by rw [hP]; simp) (fun j hj => nomatch hj) ⟨rfl, tb, a, rfl, hS'⟩
  refine body cdv A outer s H E ns hr _ _ _ _ H _ t1 ⟨fun _ _ _ _ _ _ q => q.elim, fun v p ρ' fp' F' σ' H' t rp q => ?_, fun _ _ _ _ _ _ q => q, fun _ _ _ _ _ _ q => q, fun _ _ _ _ _ _ _ _ _ _ q => q.elim⟩
  subst q
  rw [rep_bool rp]
  exact kk H'
end DL
namespace W63
open PySem PySem.Spec PyProof.Rows L2 DL
theorem PartIs.tt {L : List Str} {most room n : Int} {evs : List Evt} (p : PartIs L most room evs) (h1 : ∀ x ∈ L, NameOk x) (h2 : room ≤ n) (h3 : most ≤ 30) : Tt n evs :=
  ⟨p.val, fun k => by have := p.room k; omega, fun e he => h1 _ (p.mem e he), by have := p.len; omega⟩
theorem parts_two {L : List Str} {m1 r1 m2 r2 n : Int} {one other : List Evt} (nd : L.Nodup) (ok : ∀ x ∈ L, NameOk x) (p1 : PartIs (L.take 10) m1 r1 one) (p2 : PartIs (L.drop 10) m2 r2 other) (h1 : r1 ≤ n) (h2 : r2 ≤ n) (h3 : m1 ≤ 30) (h4 : m2 ≤ 30) : Two n one other where
  o := p1.tt (fun x hx => ok x (List.mem_of_mem_take hx)) h1 h3
  t := p2.tt (fun x hx => ok x (List.mem_of_mem_drop hx)) h2 h4
  ap := fun b hb hb2 => by
    have a1 := p1.mem _ (mem_came.mp hb)
    have a2 := p2.mem _ (mem_came.mp hb2)
    have e : L.take 10 ++ L.drop 10 = L := List.take_append_drop 10 L
    rw [← e, List.nodup_append] at nd
    exact nd.2.2 b a1 b a2 rfl
theorem Two.symm {n : Int} {one other : List Evt} (T : Two n one other) : Two n other one := ⟨T.t, T.o, fun b h1 h2 => T.ap b h2 h1⟩
/-- the heights that the law goes on with -/
def lowH (hs : List Int) : List Int := if 12 < hs.sum then (hs.take 3).map fun h => min h 4 else hs
theorem lowH_ok {hs : List Int} (y : YardOk hs) : YardOk (lowH hs) ∧ (lowH hs).sum ≤ 12 := by
  unfold lowH
  by_cases c : 12 < hs.sum
  · rw [if_pos c]
    have lo := y.lo
    have l3 : ((hs.take 3).map fun h => min h 4).length = 3 := by rw [List.length_map, List.length_take]; omega
    have ps : ∀ h ∈ (hs.take 3).map (fun h => min h 4), 1 ≤ h ∧ h ≤ 4 := fun h hm => by
      obtain ⟨g, hg, rfl⟩ := List.mem_map.mp hm
      have := y.pos g (List.mem_of_mem_take hg)
      omega
    refine ⟨⟨by omega, by omega, fun h hm => by have := ps h hm; omega⟩, ?_⟩
    generalize (hs.take 3).map (fun h => min h 4) = l at l3 ps
    match l, l3, ps with
    | [a, b, c], _, ps =>
      have h1 := ps a (by simp)
      have h2 := ps b (by simp)
      have h3 := ps c (by simp)
      simp only [List.sum_cons, List.sum_nil]
      omega
  · rw [if_neg c]
    exact ⟨y, by omega⟩
section
variable {P : Program} {w : World} {K : PySem.W.Frag} {mg : Str → Option Value} {base : Heap} {f : Addr} {fd : FuncData}
abbrev s_law : Stmt := top 60
theorem sc_law : FnScope ["_law_script", "_law_heap_here", "_law_turn", "_law_heights", "_law_height", "_law_yard", "_law_names_here", "_law_total", "_law_room", "_law_rest", "_law_one", "_law_other"] ["_law_script"] (defScope s_law) := ⟨rfl, rfl, rfl, by decide +kernel, rfl, by decide +kernel, by decide +kernel⟩
/-- what the law calls -/
structure LawFns (P : Program) (w : World) (K : PySem.W.Frag) (mg : Str → Option Value) (base : Heap) (P0 : Addr) : Prop where
  heap : DefOk P w K mg base CX0 "_law_heap" 1 ["_law_script", "_law_base"] (spC K w_heap)
  draw : DefOk P w K mg base CX0 "_law_draw" 1 ["_law_heap_here", "_law_many"] (spR K w_draw)
  pick : DefOk P w K mg base CX0 "_law_pick" 2 ["_law_heap_here", "_law_some"] (spR K w_pick)
  tall : DefOk P w K mg base CX0 "_law_tall" 3 ["_law_heap_here"] (spR K w_tall)
  names : DefOk P w K mg base CX0 "_law_names" 3 ["_law_heap_here", "_law_many"] (spR K w_names)
  part : DefOk P w K mg base CX0 "_law_part" 3 ["_law_heap_here", "_law_names_here", "_law_most", "_law_room"] (spR K w_part)
  short : DefOk P w K mg base CX0 "_law_short_right" 9 ["_law_yard", "_law_heights", "_law_one", "_law_other"] (spD K w_lshort)
  long : DefOk P w K mg base CX0 "_law_long_right" 8 ["_law_heap_here", "_law_yard", "_law_heights", "_law_one", "_law_other"] (spR K w_llong)
  ref : DefOk P w K mg base CX0 "_law_refused_right" 11 ["_law_heap_here", "_law_yard", "_law_one", "_law_other"] (spT K P0 refQ w_lref)
  yard : YdOk P w K mg base "Yard" 3 w_yinit
theorem ok_law {P0 : Addr} (F : Fun K "law" "law" s_law f fd) (T : Bl mg) (G : LawFns P w K mg base P0) : FnOk P w K mg base CX0 12 f fd ["_law_script"] (spL K P0) := by
  refine fnL (q := refQ) F sc_law rfl (fun cdv A outer s H E ns hr => ?_)
  have nd := sc_law.nd
  refine ss_cons <| ss_set 1 (ec_callC G.heap (hr.mono (by decide)) <| ea_cons <| ev_scrT (P0 := P0) (q := refQ) (ns := ns) 0 <| ea_cons <| ev_int <| ea_nil ⟨ns, 63, rfl, by decide, by decide, fun hh cc => ?_⟩) nd
  refine sss_scrT (P0 := P0) (q := refQ) (ns := ns) 0 ?_
  refine ss_cons <| ss_for (ix := [2]) PassesOwn.never rfl <| ie_range1 T.range <| ev_int ⟨_, rfl, by decide, by decide, fun i ρ => ∃ x2 x3 x5 x6 x7 x8 x9 x10 x11, ρ = [cT P0 refQ, some (.rnd hh cc), x2, x3, none, x5, x6, x7, x8, x9, x10, x11], ⟨none, none, none, none, none, none, none, none, none, rfl⟩, ?_, ?_⟩
  · rintro i x ρ hx ⟨x2, x3, x5, x6, x7, x8, x9, x10, x11, rfl⟩
    refine gb_name 2 ?_ nd
    refine ss_cons <| ss_set 3 (EV.ec <| ev_callR 1 G.tall (hr.mono (by decide)) <| ea_nil ⟨rfl, rfl, fun hs0 yo0 => ?_⟩) nd
    obtain ⟨yo, s12⟩ := lowH_ok yo0
    have yl0 := yo0.lo
    -- low heights
    refine ss_cons <| ss_ifJ <| et_gt <| ev_sum rfl T.sum <| ev_var 3 rfl ⟨hs0, .inl rfl, ev_int ⟨_, _, rfl, rfl, 12 < hs0.sum, inferInstance, [cT P0 refQ, some (.rnd hh cc), some (.p (.d x)), some (.p (.d (liD (lowH hs0)))), none, x5, x6, x7, x8, x9, x10, x11], rfl, fun c => ?_, fun c => ?_, ?_⟩⟩
    · refine sss_fix 3 <| ss_one <| ss_setMp (ix := [4]) 3 .int [("_law_height", 4)] rfl nd <| ie_list <| EN.ev <| en_slL <| ev_var 3 rfl <| eo_none <| eo_some <| ev_int ⟨_, rfl, _, rfl, ?_⟩
      rw [show ((3 : Int)) = ((3 : Nat) : Int) from rfl, cutD_pre _ _ _ (by omega)]
      refine ⟨_, rfl, hs0.take 3, fun h => .int (min h 4), rfl, rfl, by rw [List.length_take]; omega, fun h _ B => gb_name 4 (fun B => ev_min2 rfl T.min <| ev_var 4 rfl <| ev_int ⟨_, _, rfl, rfl, rfl, rfl⟩) nd, _, rfl, ?_⟩
      unfold lowH
      rw [if_pos c]
      show _ = [_, _, _, some (Cell.p (.d (.list (((hs0.take 3).map fun h => min h 4).map .int)))), _, _, _, _, _, _, _, _]
      rw [List.map_map]
      rfl
    · refine ss_nil ?_
      unfold lowH
      rw [if_neg c]
      rfl
    generalize lowH hs0 = hs at yo s12
    have ms := yo.mxs
    have my := yo.mx
    refine ss_cons <| ss_par3 5 6 7 (by decide) (by decide) (by decide) rfl nd (EV.ec <| ev_yard G.yard (hr.mono (by decide)) <| ea_cons <| ev_var 3 rfl <| ea_nil ⟨hs, rfl, yo, EV.ec <| ev_callR (hh := hh) (cc := cc) 1 G.names (hr.mono (by decide)) <| ea_cons <| ev_int <| ea_nil ⟨rfl, rfl, fun L l20 lok lnd => EV.ec <| ev_sum rfl T.sum <| ev_var 3 rfl ⟨hs, .inl rfl, ?_⟩⟩⟩)
    refine ss_cons <| ss_set 8 (EV.ec <| ev_add <| ev_int <| ev_callR 1 G.draw (hr.mono (by decide)) <| ea_cons <| ev_var 7 rfl <| ea_nil ⟨rfl, hs.sum, rfl, by omega, by omega, fun r hr2 => ⟨_, _, rfl, rfl, ?_⟩⟩) nd
    have hroom : 1 ≤ (1 : Int) + (r : Nat) ∧ (1 : Int) + (r : Nat) ≤ hs.sum := by omega
    generalize (1 : Int) + ((r : Nat) : Int) = room at hroom
    refine ss_cons <| ss_set 9 (EV.ec <| ev_max2 rfl T.max <| ev_int <| ev_add <| ev_sub <| ev_var 7 rfl <| ev_var 8 rfl ⟨_, _, rfl, rfl, ev_callR 1 G.pick (hr.mono (by decide)) <| ea_cons <| EN.ev <| en_lst <| ea_cons <| ev_int <| ea_cons <| ev_int <| ea_cons <| ev_int <| ea_cons <| ev_int <| ea_cons <| ev_int <| ea_nil ⟨[.int 0, .int 0, .int 0, .int 0, .int 1], rfl, by simp, ea_nil ⟨rfl, .inl ⟨_, rfl, by simp, by simp, fun d hd => ?_⟩⟩⟩⟩) nd
    have hd' : ∃ m : Int, d = .int m ∧ 0 ≤ m ∧ m ≤ 1 := by
      simp only [List.mem_cons, List.not_mem_nil, or_false] at hd
      rcases hd with rfl | rfl | rfl | rfl | rfl
      · exact ⟨0, rfl, by decide, by decide⟩
      · exact ⟨0, rfl, by decide, by decide⟩
      · exact ⟨0, rfl, by decide, by decide⟩
      · exact ⟨0, rfl, by decide, by decide⟩
      · exact ⟨1, rfl, by decide, by decide⟩
    obtain ⟨m, rfl, m0, m1⟩ := hd'
    refine ⟨_, _, rfl, rfl, _, _, rfl, rfl, ?_⟩
    have hrest : 1 ≤ max 1 (hs.sum - room + m) ∧ max 1 (hs.sum - room + m) ≤ hs.sum := by omega
    generalize max 1 (hs.sum - room + m) = rst at hrest
    have lt : L.take 10 ≠ [] := fun z => by
      have := congrArg List.length z
      rw [List.length_take, l20] at this
      cases this
    have ld : L.drop 10 ≠ [] := fun z => by
      have := congrArg List.length z
      rw [List.length_drop, l20] at this
      cases this
    have ndt : (L.take 10).Nodup := lnd.sublist (List.take_sublist ..)
    have ndd : (L.drop 10).Nodup := lnd.sublist (List.drop_sublist ..)
    have okt : ∀ x ∈ L.take 10, NameOk x := fun x hx => lok x (List.mem_of_mem_take hx)
    have okd : ∀ x ∈ L.drop 10, NameOk x := fun x hx => lok x (List.mem_of_mem_drop hx)
    have lt2 : (L.take 10).length ≤ 1000 := by rw [List.length_take]; omega
    have ld2 : (L.drop 10).length ≤ 1000 := by rw [List.length_drop]; omega
    have c1 : DL.cutD (L.map PyData.str) none (some 10) = (L.take 10).map .str := cutD_pre _ _ 10 (by omega)
    have c2 : DL.cutD (L.map PyData.str) (some 10) none = (L.drop 10).map .str := by
      unfold DL.cutD
      rw [show (10 : Int) = ((10 : Nat) : Int) from rfl, HT.sIx_nat, List.length_map, l20]
      show ((L.map PyData.str).drop (min 10 20)).take (20 - min 10 20) = _
      rw [← List.map_drop, List.take_of_length_le (by rw [List.length_map, List.length_drop]; omega)]
      rfl
    -- the first two
    refine ss_cons <| ss_par 10 11 (by decide) rfl nd (EV.ec <| ev_callR (hh := hh) (cc := cc) 1 G.part (hr.mono (by decide)) <| ea_cons <| EN.ev <| en_slL <| ev_var 6 rfl <| eo_none <| eo_some <| ev_int ⟨_, rfl, L.map .str, rfl, ?_⟩)
    rw [c1]
    refine ea_cons <| ev_callR (hh := hh) (cc := cc) 1 G.pick (hr.mono (by decide)) <| ea_cons <| EN.ev <| en_lst <| ea_cons <| ev_int <| ea_cons <| ev_int <| ea_cons <| ev_int <| ea_nil ⟨[.int 3, .int 4, .int 5], rfl, by simp, ea_nil ⟨rfl, .inl ⟨_, rfl, by simp, by simp, fun d hd => ?_⟩⟩⟩
    have hd' : ∃ m : Int, d = .int m ∧ 3 ≤ m ∧ m ≤ 5 := by
      simp only [List.mem_cons, List.not_mem_nil, or_false] at hd
      rcases hd with rfl | rfl | rfl
      · exact ⟨3, rfl, by decide, by decide⟩
      · exact ⟨4, rfl, by decide, by decide⟩
      · exact ⟨5, rfl, by decide, by decide⟩
    obtain ⟨ma, rfl, ma0, ma1⟩ := hd'
    refine ea_cons <| ev_var 8 rfl <| ea_nil ⟨rfl, L.take 10, ma, room, rfl, lt, ndt, okt, lt2, by omega, by omega, hroom.1, fun one pa => ?_⟩
    refine EV.ec <| ev_callR (hh := hh) (cc := cc) 1 G.part (hr.mono (by decide)) <| ea_cons <| EN.ev <| en_slL <| ev_var 6 rfl <| eo_some <| ev_int ⟨_, rfl, eo_none ⟨L.map .str, rfl, ?_⟩⟩
    rw [c2]
    refine ea_cons <| ev_callR (hh := hh) (cc := cc) 1 G.pick (hr.mono (by decide)) <| ea_cons <| EN.ev <| en_lst <| ea_cons <| ev_int <| ea_cons <| ev_int <| ea_cons <| ev_int <| ea_cons <| ev_int <| ea_nil ⟨[.int 0, .int 3, .int 4, .int 4], rfl, by simp, ea_nil ⟨rfl, .inl ⟨_, rfl, by simp, by simp, fun d hd => ?_⟩⟩⟩
    have hd' : ∃ m : Int, d = .int m ∧ 0 ≤ m ∧ m ≤ 4 := by
      simp only [List.mem_cons, List.not_mem_nil, or_false] at hd
      rcases hd with rfl | rfl | rfl | rfl
      · exact ⟨0, rfl, by decide, by decide⟩
      · exact ⟨3, rfl, by decide, by decide⟩
      · exact ⟨4, rfl, by decide, by decide⟩
      · exact ⟨4, rfl, by decide, by decide⟩
    obtain ⟨mb, rfl, mb0, mb1⟩ := hd'
    refine ea_cons <| ev_var 9 rfl <| ea_nil ⟨rfl, L.drop 10, mb, rst, rfl, ld, ndd, okd, ld2, by omega, by omega, hrest.1, fun other pb => ?_⟩
    have tw : Two hs.sum one other := parts_two lnd lok pa pb hroom.2 hrest.2 (by omega) (by omega)
    have la := pa.len
    have lb := pb.len
    have f1 := pa.fst (by omega)
    refine ss_cons <| ss_if <| EW.et <| ew_or <| et_not <| et_val <| ev_call G.short (hr.mono (by decide)) <| ea_cons <| ev_var 5 rfl <| ea_cons <| ev_var 3 rfl <| ea_cons <| ev_var 10 rfl <| ea_cons <| ev_var 11 rfl <| ea_nil ⟨hs, one, other, rfl, yo, tw, by omega, true, rfl, iteF ?_⟩
    refine ew_or1 <| et_not <| et_val <| ev_callT (hh := hh) (cc := cc) (P := P0) (q := refQ) 1 0 G.ref hr <| ea_cons <| ev_var 5 rfl <| ea_cons <| ev_var 10 rfl <| ea_cons <| ev_var 11 rfl <| ea_nil ⟨rfl, rfl, _, _, _, rfl, hs, one, rfl, yo, tw.o, f1, true, rfl, iteF <| ss_nil ?_⟩
    clear pa pb tw la lb f1
    -- the longer ones
    refine ss_cons <| ss_par 10 11 (by decide) rfl nd (EV.ec <| ev_callR (hh := hh) (cc := cc) 1 G.part (hr.mono (by decide)) <| ea_cons <| EN.ev <| en_slL <| ev_var 6 rfl <| eo_none <| eo_some <| ev_int ⟨_, rfl, L.map .str, rfl, ?_⟩)
    rw [c1]
    refine ea_cons <| ev_int <| ea_cons <| ev_var 8 rfl <| ea_nil ⟨rfl, L.take 10, 10, room, rfl, lt, ndt, okt, lt2, by omega, by omega, hroom.1, fun one pa => ?_⟩
    refine EV.ec <| ev_callR (hh := hh) (cc := cc) 1 G.part (hr.mono (by decide)) <| ea_cons <| EN.ev <| en_slL <| ev_var 6 rfl <| eo_some <| ev_int ⟨_, rfl, eo_none ⟨L.map .str, rfl, ?_⟩⟩
    rw [c2]
    refine ea_cons <| ev_int <| ea_cons <| ev_var 9 rfl <| ea_nil ⟨rfl, L.drop 10, 9, rst, rfl, ld, ndd, okd, ld2, by omega, by omega, hrest.1, fun other pb => ?_⟩
    have tw : Two hs.sum one other := parts_two lnd lok pa pb hroom.2 hrest.2 (by omega) (by omega)
    refine ss_one <| ss_if <| EW.et <| ew_or <| et_not <| et_val <| ev_callR (hh := hh) (cc := cc) 1 G.long (hr.mono (by decide)) <| ea_cons <| ev_var 5 rfl <| ea_cons <| ev_var 3 rfl <| ea_cons <| ev_var 10 rfl <| ea_cons <| ev_var 11 rfl <| ea_nil ⟨rfl, hs, one, other, rfl, yo, tw, true, rfl, iteF ?_⟩
    refine ew_or1 <| et_not <| et_val <| ev_callR (hh := hh) (cc := cc) 1 G.long (hr.mono (by decide)) <| ea_cons <| ev_var 5 rfl <| ea_cons <| ev_var 3 rfl <| ea_cons <| ev_var 11 rfl <| ea_cons <| ev_var 10 rfl <| ea_nil ⟨rfl, hs, other, one, rfl, yo, tw.symm, true, rfl, iteF <| ss_nil ?_⟩
    exact ⟨_, _, _, _, _, _, _, _, _, rfl⟩
  · rintro ρ ⟨x2, x3, x5, x6, x7, x8, x9, x10, x11, rfl⟩
    exact ss_one <| ss_ret <| ev_bool rfl
end
end W63
end PartLL1
section PartA1
set_option maxRecDepth 100000
set_option maxHeartbeats 4000000
/-! A1: the end, generic part: the walk with the tables of code objects told, a def as the top has written it. -/
namespace LamX
open PySem PySem.Spec PyProof.Rows L2
theorem walk_ofTab {l : PySem.W.OpenLaw} {n k : Nat} {q : Program} {loose : List Str} {XP : (Str → Option Value) → Heap → Prop} {YP : World → Heap → Prop} {d : DefRec} {K : Params → PySem.W.Frag} {CX : World → CXT} {x : Str}
    (hn : l.most = some n) (hn2 : n ≤ sizeLine) (hdf : d.params.defaults = []) (hr : Room k callerA) (hY : ∀ (w : World) (h : Heap), YP w h → (K w.params).In h)
    (F : ∀ (w : World) (mg : Str → Option Value) (fa : Addr) (h : Heap), YP w h → (K w.params).In h → h.Ns mainGlobals mg → mg d.name = some (.ref fa) →
      (∀ (y : Str) (dd : DefRec) (c P : Addr), (recsOf q).find? (fun e => e.name == y) = some dd → PySem.W.tabIn (K w.params) y = some (c, P) → PySem.W.CodeHd h c P ∧ h.get? P = some { cls := .none, data := .fields #[] }) → LawAtS l w (K w.params) (CX w) k n x mg fa h)
    (hCX : ∀ (w : World) (H : Hp) (s : Shared) (e : Value) (s' : Shared), CX w [] H s (fun _ _ _ => False) e s' → False) :
    PySem.W.WalkO q loose XP YP l.row.toRowW d [] (fun f vs => PySem.call f vs) := by
  refine Att.attach_callB hn hdf fun w s₀ s₁ mg mb fa o pm cd doc a vs ns G Y ho hd hcd hmg hobj hints hlen hbits hg => ?_
  have KX := hY w _ Y
  obtain ⟨fd, cs, sp, hT, nT, C, hb, hsp, hF⟩ := F w mg fa _ Y KX G.T.g hmg fun y dd c P hr ht => PySem.W.tab_of G.T KX hr ht
  exact law_callTs KX G.T.g G.T.b G.T.builtins G.T.nolimit hg hT nT C G.T.bmain hobj hints (Nat.le_trans hlen hn2) hr hF hb (fun H hH hS => hsp H a ns hlen hbits hH hS) fun H e s' => hCX w H s₁ e s'
/-- the table of a def, from what is written of it -/
theorem tab_mk {K : PySem.W.Frag} {x : Str} {f c P : Addr} {oc : Value} {od dd : Option Addr} {fd : FuncData} {sl sl2 : Array (Option Value)} {e : Value} {vs : Array Value} (a : PySem.W.nsIn K mainGlobals x = some (some (.ref f))) (l : K.lookup f = some ⟨oc, od, .func fd, sl⟩) (hc : fd.code = .ref c)
    (lc : K.lookup c = some ⟨e, dd, .fields vs, sl2⟩) (hv : (vs[11]? : Option Value) = some (.ref P)) : PySem.W.tabIn K x = some (c, P) := by
  unfold PySem.W.tabIn
  rw [a]
  show (match K.lookup f with
    | some ⟨_, _, .func fd, _⟩ => (match fd.code with
      | .ref c => (match K.lookup c with
        | some ⟨_, _, .fields vs, _⟩ => (match (vs[11]? : Option Value) with
          | some (.ref P) => some (c, P)
          | _ => none)
        | _ => none)
      | _ => none)
    | _ => none) = some (c, P)
  rw [l]
  show (match fd.code with
      | .ref c => (match K.lookup c with
        | some ⟨_, _, .fields vs, _⟩ => (match (vs[11]? : Option Value) with
          | some (.ref P) => some (c, P)
          | _ => none)
        | _ => none)
      | _ => none) = some (c, P)
  rw [hc]
  show (match K.lookup c with
        | some ⟨_, _, .fields vs, _⟩ => (match (vs[11]? : Option Value) with
          | some (.ref P) => some (c, P)
          | _ => none)
        | _ => none) = some (c, P)
  rw [lc]
  show (match (vs[11]? : Option Value) with
          | some (.ref P) => some (c, P)
          | _ => none) = some (c, P)
  rw [hv]
end LamX
namespace W63
open PySem PySem.Spec PyProof.Rows L2 DL
open PySem.XSup (XsTxt)
/-- a def as the top has written it -/
def Df (K : PySem.W.Frag) (mg : Str → Option Value) (x : Str) (st : Stmt) : Prop := ∃ f fd, mg x = some (.ref f) ∧ Fun K x x st f fd
section
variable {P : Program} {w : World} {K : PySem.W.Frag} {mg : Str → Option Value} {base : Heap} {h : Heap} {x : Str} {st : Stmt}
theorem df_mk {f : Addr} {oc kV doc pm cdv ct : Value} {od an : Option Addr} {sl : Array (Option Value)} (X : K.In h) (G : h.Ns mainGlobals mg) (a : PySem.W.nsIn K mainGlobals x = some (some (.ref f)))
    (l : K.lookup f = some ⟨oc, od, .func (PySem.W.fnOf x x (defArgs st) (defBody st) (defScope st) .none kV doc pm an cdv ct), sl⟩) (c : PySem.W.codeIn K cdv x = true) (k : PySem.W.keepIn K (.ref f) = true) : Df K mg x st :=
  ⟨f, _, PySem.W.mg_of X G a, fun_mk l c k⟩
theorem Df.ok {CX : CXT} {k : Nat} {ps : List Str} {sp : Sp} (D : Df K mg x st)
    (hb : ∀ (kV doc pm : Value) (an : Option Addr) (cdv ct : Value) (us : List Value), us.length = ps.length → bindArgs (PySem.W.fnOf x x (defArgs st) (defBody st) (defScope st) .none kV doc pm an cdv ct) ⟨us, []⟩ = pure (ps.zip us))
    (h : ∀ f fd, Fun K x x st f fd → FnOk P w K mg base CX k f fd ps sp) : DefOk P w K mg base CX x k ps sp := by
  obtain ⟨f, fd, hm, F⟩ := D
  exact ⟨f, fd, hm, F.kp, F.binds hb, h f fd F⟩
theorem Df.okK {CX : CXT} {k : Nat} {a b c : Str} {sp : Sp} (D : Df K mg x st)
    (hb : ∀ (kV doc pm : Value) (an : Option Addr) (cdv ct : Value) (u v z : Value), bindArgs (PySem.W.fnOf x x (defArgs st) (defBody st) (defScope st) .none kV doc pm an cdv ct) ⟨[], [(a, u), (b, v), (c, z)]⟩ = pure [(a, u), (b, v), (c, z)])
    (h : ∀ f fd, Fun K x x st f fd → FnOk P w K mg base CX k f fd [a, b, c] sp) : DefOkK P w K mg base CX x k [a, b, c] sp := by
  obtain ⟨f, fd, hm, F⟩ := D
  exact ⟨f, fd, hm, F.kp, kbinds3 F hb, h f fd F⟩
end
end W63
end PartA1
section PartA2
set_option maxRecDepth 100000
set_option maxHeartbeats 4000000
/-! A2: what the top has written, taken together, and from it every def's promise. Printed by mk_a2.py. -/
namespace W63
open PySem PySem.Spec PyProof.Rows L2 DL
open PySem.XSup (XsTxt)
open LamX (CodeO TabB LamS lamCx lamEnv)
structure AllTxt (P : Program) (K : PySem.W.Frag) (mg : Str → Option Value) (c0 : Addr) : Prop where
  bl : Bl mg
  cn : Cn mg
  d_is_integer : Df K mg "is_integer" s_is_integer
  d_is_below : Df K mg "is_below" s_is_below
  d_is_text : Df K mg "is_text" s_is_text
  d_is_sequence : Df K mg "is_sequence" s_is_sequence
  d_is_pair : Df K mg "is_pair" s_is_pair
  d_is_name : Df K mg "is_name" s_is_name
  d_lot_of : Df K mg "lot_of" s_lot_of
  d_places : Df K mg "places" s_places
  d_is_event : Df K mg "is_event" s_is_event
  d_event_fault : Df K mg "event_fault" s_event_fault
  d_need_timetable : Df K mg "need_timetable" s_need_timetable
  d_timetable_boxes : Df K mg "timetable_boxes" s_timetable_boxes
  d_free_counts : Df K mg "free_counts" s_free_counts
  d_presence_table : Df K mg "presence_table" s_presence_table
  d_owed : Df K mg "owed" s_owed
  d_above : Df K mg "above" s_above
  d_enough : Df K mg "enough" s_enough
  d_after_event : Df K mg "after_event" s_after_event
  d_need_apart : Df K mg "need_apart" s_need_apart
  d_woven : Df K mg "woven" s_woven
  d_staying_counts : Df K mg "staying_counts" s_staying_counts
  d_short_way : Df K mg "short_way" s_short_way
  d_every_weave : Df K mg "every_weave" s_every_weave
  d_weave_states : Df K mg "weave_states" s_weave_states
  d_some_weave : Df K mg "some_weave" s_some_weave
  d_count_weaves : Df K mg "count_weaves" s_count_weaves
  d__law_heap : Df K mg "_law_heap" s_lheap
  d__law_draw : Df K mg "_law_draw" s_ldraw
  d__law_pick : Df K mg "_law_pick" s_lpick
  d__law_mixed : Df K mg "_law_mixed" s_lmixed
  d__law_names : Df K mg "_law_names" s_lnames
  d__law_tall : Df K mg "_law_tall" s_ltall
  d__law_owed : Df K mg "_law_owed" s_lowed
  d__law_states : Df K mg "_law_states" s_lstates
  d__law_bad : Df K mg "_law_bad" s_lbad
  d__law_stuck : Df K mg "_law_stuck" s_lstuck
  d__law_weaves : Df K mg "_law_weaves" s_lweaves
  d__law_some_weave : Df K mg "_law_some_weave" s_lsome
  d__law_is_weave : Df K mg "_law_is_weave" s_lis
  d__law_part : Df K mg "_law_part" s_lpart
  d__law_short_right : Df K mg "_law_short_right" s_lshort
  d__law_long_right : Df K mg "_law_long_right" s_llong
  d__law_told : Df K mg "_law_told" s_ltold
  d_law : Df K mg "law" s_law
  rr : ∃ f fd, mg "_law_refused_right" = some (.ref f) ∧ Fun K "_law_refused_right" "_law_refused_right" s_lref f fd ∧ fd.code = .ref c0
  yd : ∃ C f fd, Mk K C f ∧ Cls K C ∧ NoAttr K C "heights" ∧ Fun K "__init__" "Yard.__init__" s_yinit f fd ∧ mg "Yard" = some (.ref C)
  td : ∃ C1 C2 Y, ToldTxt P K mg C1 C2 Y
section
variable {P : Program} {w : World} {K : PySem.W.Frag} {mg : Str → Option Value} {base : Heap} {c0 P0 : Addr}
theorem all_ok (A : AllTxt P K mg c0) (TB : TabB base mg c0 P0) : LawFns P w K mg base P0 := by
  obtain ⟨C1, C2, Y, TT⟩ := A.td
  obtain ⟨fI1, X1⟩ := TT.x1
  obtain ⟨fI2, X2⟩ := TT.x2
  have o_is_integer : DefOk P w K mg base CX0 "is_integer" 1 ["value"] (spD K w_is_integer) := A.d_is_integer.ok (fun _ _ _ _ _ _ us hl => match us, hl with | [_], _ => rfl) fun f fd F => ok_is_integer F A.bl
  have o_is_below : DefOk P w K mg base CX0 "is_below" 2 ["value", "bound"] (spD K w_is_below) := A.d_is_below.ok (fun _ _ _ _ _ _ us hl => match us, hl with | [_, _], _ => rfl) fun f fd F => ok_is_below F A.bl o_is_integer
  have o_is_text : DefOk P w K mg base CX0 "is_text" 1 ["value"] (spD K w_is_text) := A.d_is_text.ok (fun _ _ _ _ _ _ us hl => match us, hl with | [_], _ => rfl) fun f fd F => ok_is_text F A.bl
  have o_is_sequence : DefOk P w K mg base CX0 "is_sequence" 1 ["value"] (spD K w_is_sequence) := A.d_is_sequence.ok (fun _ _ _ _ _ _ us hl => match us, hl with | [_], _ => rfl) fun f fd F => ok_is_sequence F A.bl
  have o_is_pair : DefOk P w K mg base CX0 "is_pair" 1 ["value"] (spD K w_is_pair) := A.d_is_pair.ok (fun _ _ _ _ _ _ us hl => match us, hl with | [_], _ => rfl) fun f fd F => ok_is_pair F A.bl
  have o_is_name : DefOk P w K mg base CX0 "is_name" 2 ["value"] (spD K w_is_name) := A.d_is_name.ok (fun _ _ _ _ _ _ us hl => match us, hl with | [_], _ => rfl) fun f fd F => ok_is_name F A.bl A.cn o_is_text
  have o_lot_of : DefOk P w K mg base CX0 "lot_of" 1 ["things"] (spD K w_lot_of) := A.d_lot_of.ok (fun _ _ _ _ _ _ us hl => match us, hl with | [_], _ => rfl) fun f fd F => ok_lot_of F A.bl
  have o_places : DefOk P w K mg base CX0 "places" 1 ["yard"] (spD K w_places) := A.d_places.ok (fun _ _ _ _ _ _ us hl => match us, hl with | [_], _ => rfl) fun f fd F => ok_places F A.bl
  have o_is_event : DefOk P w K mg base CX0 "is_event" 3 ["value"] (spD K w_is_event) := A.d_is_event.ok (fun _ _ _ _ _ _ us hl => match us, hl with | [_], _ => rfl) fun f fd F => ok_is_event F A.bl o_is_pair o_is_name
  have o_event_fault : DefOk P w K mg base CX0 "event_fault" 4 ["events", "most"] (spD K w_event_fault) := A.d_event_fault.ok (fun _ _ _ _ _ _ us hl => match us, hl with | [_, _], _ => rfl) fun f fd F => ok_event_fault F A.bl o_is_event
  have o_need_timetable : DefOk P w K mg base (L2.CX P w) "need_timetable" 5 ["yard", "value"] (spX mg K w_need wx_need) := A.d_need_timetable.ok (fun _ _ _ _ _ _ us hl => match us, hl with | [_, _], _ => rfl) fun f fd F => ok_need F A.bl X1 o_event_fault o_places
  have o_timetable_boxes : DefOk P w K mg base CX0 "timetable_boxes" 2 ["timetable"] (spD K w_timetable_boxes) := A.d_timetable_boxes.ok (fun _ _ _ _ _ _ us hl => match us, hl with | [_], _ => rfl) fun f fd F => ok_timetable_boxes F A.bl o_lot_of
  have o_free_counts : DefOk P w K mg base CX0 "free_counts" 6 ["yard", "timetable"] (spD K w_free_counts) := A.d_free_counts.ok (fun _ _ _ _ _ _ us hl => match us, hl with | [_, _], _ => rfl) fun f fd F => ok_free_counts F A.bl o_need_timetable o_places
  have o_presence_table : DefOk P w K mg base CX0 "presence_table" 1 ["timetable"] (spC K w_pres) := A.d_presence_table.ok (fun _ _ _ _ _ _ us hl => match us, hl with | [_], _ => rfl) fun f fd F => ok_presence F A.bl
  have o_owed : DefOk P w K mg base CX0 "owed" 1 ["yard", "cover"] (spD K w_owed) := A.d_owed.ok (fun _ _ _ _ _ _ us hl => match us, hl with | [_, _], _ => rfl) fun f fd F => ok_owed F A.bl
  have o_above : DefOk P w K mg base CX0 "above" 1 ["table", "cover"] (spD K w_above) := A.d_above.ok (fun _ _ _ _ _ _ us hl => match us, hl with | [_, _], _ => rfl) fun f fd F => ok_above F A.bl
  have o_enough : DefOk P w K mg base CX0 "enough" 2 ["yard", "table"] (spD K w_enough) := A.d_enough.ok (fun _ _ _ _ _ _ us hl => match us, hl with | [_, _], _ => rfl) fun f fd F => ok_enough F A.bl o_places o_above o_owed
  have o_after_event : DefOk P w K mg base CX0 "after_event" 2 ["yard", "table", "event"] (spD K w_after) := A.d_after_event.ok (fun _ _ _ _ _ _ us hl => match us, hl with | [_, _, _], _ => rfl) fun f fd F => ok_after F A.bl o_places
  have o_need_apart : DefOk P w K mg base (L2.CX P w) "need_apart" 6 ["yard", "one", "other"] (spX mg K w_apart wx_apart) := A.d_need_apart.ok (fun _ _ _ _ _ _ us hl => match us, hl with | [_, _, _], _ => rfl) fun f fd F => ok_apart F A.bl X2 o_need_timetable o_timetable_boxes
  have o_woven : DefOk P w K mg base CX0 "woven" 1 ["one", "other", "way"] (spD K w_woven) := A.d_woven.ok (fun _ _ _ _ _ _ us hl => match us, hl with | [_, _, _], _ => rfl) fun f fd F => ok_woven F A.bl
  have o_staying_counts : DefOk P w K mg base CX0 "staying_counts" 2 ["timetable"] (spD K w_stay) := A.d_staying_counts.ok (fun _ _ _ _ _ _ us hl => match us, hl with | [_], _ => rfl) fun f fd F => ok_stay F A.bl o_presence_table
  have o_short_way : DefOk P w K mg base CX0 "short_way" 1 ["here", "there", "kept", "start"] (spD K w_short) := A.d_short_way.ok (fun _ _ _ _ _ _ us hl => match us, hl with | [_, _, _, _], _ => rfl) fun f fd F => ok_short F A.bl
  have o_every_weave : DefOk P w K mg base (L2.CX P w) "every_weave" 7 ["yard", "one", "other"] (spX mg K w_every wx_apart) := A.d_every_weave.ok (fun _ _ _ _ _ _ us hl => match us, hl with | [_, _, _], _ => rfl) fun f fd F => ok_every F A.bl o_need_apart o_places o_free_counts o_woven o_staying_counts o_owed o_short_way
  have o_weave_states : DefOk P w K mg base (L2.CX P w) "weave_states" 7 ["yard", "one", "other"] (spX mg K w_states wx_apart) := A.d_weave_states.ok (fun _ _ _ _ _ _ us hl => match us, hl with | [_, _, _], _ => rfl) fun f fd F => ok_states F A.bl o_need_apart o_places o_after_event o_enough
  have o_some_weave : DefOk P w K mg base (L2.CX P w) "some_weave" 8 ["yard", "one", "other"] (spX mg K w_some wx_apart) := A.d_some_weave.ok (fun _ _ _ _ _ _ us hl => match us, hl with | [_, _, _], _ => rfl) fun f fd F => ok_some F A.bl o_weave_states
  have o_count_weaves : DefOk P w K mg base (L2.CX P w) "count_weaves" 8 ["yard", "one", "other"] (spX mg K w_count wx_apart) := A.d_count_weaves.ok (fun _ _ _ _ _ _ us hl => match us, hl with | [_, _, _], _ => rfl) fun f fd F => ok_count F A.bl o_weave_states
  have o__law_heap : DefOk P w K mg base CX0 "_law_heap" 1 ["_law_script", "_law_base"] (spC K w_heap) := A.d__law_heap.ok (fun _ _ _ _ _ _ us hl => match us, hl with | [_, _], _ => rfl) fun f fd F => ok_heap F A.bl
  have o__law_draw : DefOk P w K mg base CX0 "_law_draw" 1 ["_law_heap_here", "_law_many"] (spR K w_draw) := A.d__law_draw.ok (fun _ _ _ _ _ _ us hl => match us, hl with | [_, _], _ => rfl) fun f fd F => ok_draw F A.bl
  have o__law_pick : DefOk P w K mg base CX0 "_law_pick" 2 ["_law_heap_here", "_law_some"] (spR K w_pick) := A.d__law_pick.ok (fun _ _ _ _ _ _ us hl => match us, hl with | [_, _], _ => rfl) fun f fd F => ok_pick F A.bl o__law_draw
  have o__law_mixed : DefOk P w K mg base CX0 "_law_mixed" 2 ["_law_heap_here", "_law_some"] (spR K w_mixed) := A.d__law_mixed.ok (fun _ _ _ _ _ _ us hl => match us, hl with | [_, _], _ => rfl) fun f fd F => ok_mixed F A.bl o__law_draw
  have o__law_names : DefOk P w K mg base CX0 "_law_names" 3 ["_law_heap_here", "_law_many"] (spR K w_names) := A.d__law_names.ok (fun _ _ _ _ _ _ us hl => match us, hl with | [_, _], _ => rfl) fun f fd F => ok_names F A.bl o__law_draw o__law_pick o__law_mixed
  have o__law_tall : DefOk P w K mg base CX0 "_law_tall" 3 ["_law_heap_here"] (spR K w_tall) := A.d__law_tall.ok (fun _ _ _ _ _ _ us hl => match us, hl with | [_], _ => rfl) fun f fd F => ok_tall F A.bl o__law_draw o__law_pick o__law_mixed
  have o__law_owed : DefOk P w K mg base CX0 "_law_owed" 1 ["_law_heights", "_law_cover"] (spD K w_lowed) := A.d__law_owed.ok (fun _ _ _ _ _ _ us hl => match us, hl with | [_, _], _ => rfl) fun f fd F => ok_lowed F A.bl
  have o__law_states : DefOk P w K mg base CX0 "_law_states" 1 ["_law_heights", "_law_events"] (spD K w_lstates) := A.d__law_states.ok (fun _ _ _ _ _ _ us hl => match us, hl with | [_, _], _ => rfl) fun f fd F => ok_lstates F A.bl
  have o__law_bad : DefOk P w K mg base CX0 "_law_bad" 2 ["_law_heights", "_law_states_here"] (spD K w_lbad) := A.d__law_bad.ok (fun _ _ _ _ _ _ us hl => match us, hl with | [_, _], _ => rfl) fun f fd F => ok_lbad F A.bl o__law_owed
  have o__law_stuck : DefOk P w K mg base CX0 "_law_stuck" 3 ["_law_heights", "_law_events"] (spD K w_lstuck) := A.d__law_stuck.ok (fun _ _ _ _ _ _ us hl => match us, hl with | [_, _], _ => rfl) fun f fd F => ok_lstuck F A.bl o__law_states o__law_bad
  have o__law_weaves : DefOk P w K mg base CX0 "_law_weaves" 1 ["_law_one", "_law_other"] (spD K w_lweaves) := A.d__law_weaves.ok (fun _ _ _ _ _ _ us hl => match us, hl with | [_, _], _ => rfl) fun f fd F => ok_lweaves F A.bl
  have o__law_some_weave : DefOk P w K mg base CX0 "_law_some_weave" 2 ["_law_heap_here", "_law_one", "_law_other"] (spR K w_lsome) := A.d__law_some_weave.ok (fun _ _ _ _ _ _ us hl => match us, hl with | [_, _, _], _ => rfl) fun f fd F => ok_lsome F A.bl o__law_draw
  have o__law_is_weave : DefOk P w K mg base CX0 "_law_is_weave" 1 ["_law_value", "_law_one", "_law_other"] (spD K w_lis) := A.d__law_is_weave.ok (fun _ _ _ _ _ _ us hl => match us, hl with | [_, _, _], _ => rfl) fun f fd F => ok_lis F A.bl
  have o__law_part : DefOk P w K mg base CX0 "_law_part" 3 ["_law_heap_here", "_law_names_here", "_law_most", "_law_room"] (spR K w_part) := A.d__law_part.ok (fun _ _ _ _ _ _ us hl => match us, hl with | [_, _, _, _], _ => rfl) fun f fd F => ok_part F A.bl o__law_draw o__law_pick
  have G3 : Prog3 P w K mg base := ⟨o_count_weaves, o_some_weave, o_every_weave,
    A.d_count_weaves.okK (fun _ _ _ _ _ _ _ _ _ => rfl) fun f fd F => ok_count F A.bl o_weave_states,
    A.d_some_weave.okK (fun _ _ _ _ _ _ _ _ _ => rfl) fun f fd F => ok_some F A.bl o_weave_states,
    A.d_every_weave.okK (fun _ _ _ _ _ _ _ _ _ => rfl) fun f fd F => ok_every F A.bl o_need_apart o_places o_free_counts o_woven o_staying_counts o_owed o_short_way⟩
  have o__law_short_right : DefOk P w K mg base CX0 "_law_short_right" 9 ["_law_yard", "_law_heights", "_law_one", "_law_other"] (spD K w_lshort) := A.d__law_short_right.ok (fun _ _ _ _ _ _ us hl => match us, hl with | [_, _, _, _], _ => rfl) fun f fd F => ok_lshort F A.bl G3 o__law_weaves o__law_stuck
  have o__law_long_right : DefOk P w K mg base CX0 "_law_long_right" 8 ["_law_heap_here", "_law_yard", "_law_heights", "_law_one", "_law_other"] (spR K w_llong) := A.d__law_long_right.ok (fun _ _ _ _ _ _ us hl => match us, hl with | [_, _, _, _, _], _ => rfl) fun f fd F => ok_llong F A.bl G3 o__law_is_weave o__law_stuck o__law_some_weave
  have o_ref : DefOk P w K mg base CX0 "_law_refused_right" 11 ["_law_heap_here", "_law_yard", "_law_one", "_law_other"] (spT K P0 refQ w_lref) := by
    obtain ⟨f, fd, hm, F, hc⟩ := A.rr
    obtain ⟨g, fdt, hmt, FT⟩ := A.d__law_told
    exact ⟨f, fd, hm, F.kp, F.binds (fun _ _ _ _ _ _ us hl => match us, hl with | [_, _, _, _], _ => rfl), ok_lref F hc TB A.bl G3 TT FT hmt (FT.binds fun _ _ _ _ _ _ us hl => match us, hl with | [_], _ => rfl) o__law_pick⟩
  have o_yd : YdOk P w K mg base "Yard" 3 w_yinit := by
    obtain ⟨C, f, fd, M, hc, hna, F, hm⟩ := A.yd
    exact ⟨C, f, fd, ["self", "heights"], M, hc, hna, ok_yinit F A.bl A.cn hc hna o_is_sequence o_is_below, hm, F.binds fun _ _ _ _ _ _ us hl => match us, hl with | [_, _], _ => rfl⟩
  exact ⟨o__law_heap, o__law_draw, o__law_pick, o__law_tall, o__law_names, o__law_part, o__law_short_right, o__law_long_right, o_ref, o_yd⟩
/-- the law stands -/
theorem law_at {l : PySem.W.OpenLaw} {fa : Addr} {h : Heap} (A : AllTxt l.prog K mg c0) (hfa : mg "law" = some (.ref fa)) (nT : K.lookup P0 = none) (tb : PySem.W.CodeHd h c0 P0 ∧ h.get? P0 = some { cls := .none, data := .fields #[] }) : LamX.LawAtS l w K CX0 12 63 "_law_script" mg fa h := by
  obtain ⟨f, fd, hm, F⟩ := A.d_law
  rw [hfa] at hm
  cases hm
  have one : ∀ p ∈ [(c0, P0)], p = (c0, P0) := fun p hp => List.mem_singleton.mp hp
  refine ⟨fd, [(c0, P0)], spL K P0, fun p hp => ?_, fun p hp => ?_, fun p hp => ?_, fun s u => ?_, fun H a ns hl hb hH hS => ?_, fun base hK hG hT => ?_⟩
  · rw [one p hp]; exact tb.2
  · rw [one p hp]; exact nT
  · rw [one p hp]; exact tb.1
  · obtain ⟨oc, od, kV, doc, pm, an, cdv, ct, osl, rfl, lk, hcd⟩ := F.ex
    exact .of_eq rfl
  · exact ⟨a, ns, rfl, hS, hH _ (List.mem_singleton.mpr rfl), fun _ => rfl⟩
  · exact ok_law F A.bl (all_ok A (hT _ (List.mem_singleton.mpr rfl)))
end
end W63
end PartA2
section PartA3
set_option maxRecDepth 100000
set_option maxHeartbeats 4000000
/-! A3: the top's facts, one after the other. -/
namespace W63
open PySem PySem.Spec PyProof.Rows L2 DL
open PySem.XSup (XsTxt ScOk iA iB)
section
variable {P : Program} {K : PySem.W.Frag} {mg : Str → Option Value} {h : Heap} {Q : Prop}
theorem df_then {x : Str} {st : Stmt} {f : Addr} {oc kV doc pm cdv ct : Value} {od an : Option Addr} {sl : Array (Option Value)} (X : K.In h) (G : h.Ns mainGlobals mg) (a : PySem.W.nsIn K mainGlobals x = some (some (.ref f)))
    (l : K.lookup f = some ⟨oc, od, .func (PySem.W.fnOf x x (defArgs st) (defBody st) (defScope st) .none kV doc pm an cdv ct), sl⟩) (c : PySem.W.codeIn K cdv x = true) (k : PySem.W.keepIn K (.ref f) = true) (n : Df K mg x st → Q) : Q :=
  n (df_mk X G a l c k)
theorem bl_then (X : K.In h) (G : h.Ns mainGlobals mg)
    (z1 : PySem.W.nsIn K mainGlobals "sum" = some none) (z2 : PySem.W.nsIn K mainGlobals "max" = some none) (z3 : PySem.W.nsIn K mainGlobals "min" = some none) (z4 : PySem.W.nsIn K mainGlobals "len" = some none)
    (z5 : PySem.W.nsIn K mainGlobals "range" = some none) (z6 : PySem.W.nsIn K mainGlobals "tuple" = some none) (z7 : PySem.W.nsIn K mainGlobals "list" = some none) (z8 : PySem.W.nsIn K mainGlobals "sorted" = some none)
    (z9 : PySem.W.nsIn K mainGlobals "set" = some none) (z10 : PySem.W.nsIn K mainGlobals "isinstance" = some none) (z11 : PySem.W.nsIn K mainGlobals "abs" = some none) (z12 : PySem.W.nsIn K mainGlobals "int" = some none)
    (z13 : PySem.W.nsIn K mainGlobals "str" = some none) (z14 : PySem.W.nsIn K mainGlobals "bool" = some none) (z15 : PySem.W.nsIn K mainGlobals "repr" = some none) (z16 : PySem.W.nsIn K mainGlobals "all" = some none)
    (z17 : PySem.W.nsIn K mainGlobals "any" = some none) (z18 : PySem.W.nsIn K mainGlobals "enumerate" = some none) (z19 : PySem.W.nsIn K mainGlobals "super" = some none) (n : Bl mg → Q) : Q :=
  n ⟨PySem.W.mg_none_of X G z1, PySem.W.mg_none_of X G z2, PySem.W.mg_none_of X G z3, PySem.W.mg_none_of X G z4, PySem.W.mg_none_of X G z5, PySem.W.mg_none_of X G z6, PySem.W.mg_none_of X G z7, PySem.W.mg_none_of X G z8, PySem.W.mg_none_of X G z9, PySem.W.mg_none_of X G z10,
    PySem.W.mg_none_of X G z11, PySem.W.mg_none_of X G z12, PySem.W.mg_none_of X G z13, PySem.W.mg_none_of X G z14, PySem.W.mg_none_of X G z15, PySem.W.mg_none_of X G z16, PySem.W.mg_none_of X G z17, PySem.W.mg_none_of X G z18, PySem.W.mg_none_of X G z19⟩
theorem cn_then {t1 t2 t3 t4 : Tok} (X : K.In h) (G : h.Ns mainGlobals mg) (z1 : PySem.W.nsIn K mainGlobals "LETTERS" = some (some (.str "abcdefghijklmnopqrstuvwxyz" t1))) (z2 : PySem.W.nsIn K mainGlobals "LONGEST" = some (some (.int 8 t2)))
    (z3 : PySem.W.nsIn K mainGlobals "FEWEST" = some (some (.int 3 t3))) (z4 : PySem.W.nsIn K mainGlobals "MOST" = some (some (.int 12 t4))) (n : Cn mg → Q) : Q :=
  n ⟨⟨_, PySem.W.mg_of X G z1⟩, ⟨_, PySem.W.mg_of X G z2⟩, ⟨_, PySem.W.mg_of X G z3⟩, ⟨_, PySem.W.mg_of X G z4⟩⟩
/-- the class Yard -/
theorem yd_then {C f : Addr} {oc kV doc pm cdv ct : Value} {od an : Option Addr} {sl : Array (Option Value)} (X : K.In h) (G : h.Ns mainGlobals mg) (aC : PySem.W.nsIn K mainGlobals "Yard" = some (some (.ref C)))
    (a : PySem.W.findIn K (.ref C) "__init__" = some (some (.ref f))) (i : PySem.W.isFn K (.ref f) = true) (l : K.lookup f = some ⟨oc, od, .func (PySem.W.fnOf "__init__" "Yard.__init__" (defArgs s_yinit) (defBody s_yinit) (defScope s_yinit) .none kV doc pm an cdv ct), sl⟩)
    (c : PySem.W.codeIn K cdv "Yard.__init__" = true) (k : PySem.W.keepIn K (.ref f) = true) (pg : PySem.W.plainGet K C Str.empty = true) (hd : PySem.W.hasDictIn K C = true) (po : PySem.W.plainOver K C = true) (sa : PySem.W.findIn K (.ref C) "__setattr__" = some (some (.builtin "object.__setattr__")))
    (mk : PySem.W.makesIn K C = true) (kc : PySem.W.keepIn K (.ref C) = true) (nH : PySem.W.findIn K (.ref C) "heights" = some none)
    (n : (∃ C f fd, Mk K C f ∧ Cls K C ∧ NoAttr K C "heights" ∧ Fun K "__init__" "Yard.__init__" s_yinit f fd ∧ mg "Yard" = some (.ref C)) → Q) : Q :=
  n ⟨C, f, _, ⟨mk, a, i, kc⟩, ⟨pg, hd, po, sa⟩, nH, fun_mk l c k, PySem.W.mg_of X G aC⟩
/-- the def that makes lambdas -/
theorem rr_then {f c0 P0 : Addr} {oc kV doc pm ct e : Value} {od an dd : Option Addr} {sl sl2 : Array (Option Value)} {vs : Array Value} (X : K.In h) (G : h.Ns mainGlobals mg) (a : PySem.W.nsIn K mainGlobals "_law_refused_right" = some (some (.ref f)))
    (l : K.lookup f = some ⟨oc, od, .func (PySem.W.fnOf "_law_refused_right" "_law_refused_right" (defArgs s_lref) (defBody s_lref) (defScope s_lref) .none kV doc pm an (.ref c0) ct), sl⟩) (c : PySem.W.codeIn K (.ref c0) "_law_refused_right" = true) (k : PySem.W.keepIn K (.ref f) = true)
    (lc : K.lookup c0 = some ⟨e, dd, .fields vs, sl2⟩) (hv : (vs[11]? : Option Value) = some (.ref P0)) (nT : K.lookup P0 = none)
    (n : (∃ f fd, mg "_law_refused_right" = some (.ref f) ∧ Fun K "_law_refused_right" "_law_refused_right" s_lref f fd ∧ fd.code = .ref c0) → PySem.W.tabIn K "_law_refused_right" = some (c0, P0) → K.lookup P0 = none → Q) : Q :=
  n ⟨f, _, PySem.W.mg_of X G a, fun_mk l c k, rfl⟩ (LamX.tab_mk a l rfl lc hv) nT
/-- an error's class -/
theorem xs_then {nm fld : Str} {C Y fI : Addr} {nm2 q : Str} {N : Addr} {bs : List Value} {sn : List Str} {sub : List Value} {ab : Bool} {col : Option Bool} {dd : Option Addr} {k0 k1 k2 k3 k5 : Option Value}
    {oc : Value} {od : Option Addr} {doc pm : Value} {an : Option Addr} {cda cc : Addr} {ct : Value} {osl : Array (Option Value)} {qual msg : Str} {sc : Scope} {p1 p2 a1 a2 a3 a4 a5 a6 q1 q2 q3 q4 : Pos} {j : Nat} {ccl cl : Value} {cdd cld : Option Addr} {vs : Array Value} {ccs csl : Array (Option Value)} {file : Str} {tf : Tok}
    (X : K.In h) (G : h.Ns mainGlobals mg) (T : Bl mg) (aC : PySem.W.nsIn K mainGlobals nm = some (some (.ref C)))
    (xL : K.lookup C = some (excClassObj nm2 q C N bs (.ref Y :: ESX.exTail) true sn sub ab col dd k0 k1 k2 k3 k5 "Exception.__new__"))
    (sa : PySem.W.findIn K (.ref C) "__setattr__" = some (some (.builtin "object.__setattr__"))) (ga : PySem.W.findIn K (.ref C) "__getattribute__" = some (some (.builtin "BaseException.__getattribute__"))) (gg : PySem.W.findIn K (.ref C) "__getattr__" = some none) (noN : PySem.W.findIn K (.ref C) fld = some none)
    (iC : PySem.W.findIn K (.ref C) "__init__" = some (some (.ref fI))) (tC : PySem.W.typeIn K (.ref fI) = some (.type "function")) (kC : PySem.W.keepIn K (.ref C) = true) (exC : PySem.W.subIn K (.ref C) (.type "BaseException") = some true) (tyC : PySem.W.typeIn K (.ref C) = some (.type "type"))
    (hdC : PySem.W.hasDictIn K C = true) (isC : PySem.W.isClsIn K C = true) (al : PySem.W.alongIn K "__init__" (.ref Y :: ESX.exTail) = some (some (.builtin "Exception.__init__"))) (ho : PySem.W.nsIn K cStatics "thirdparty.any" = some none)
    (lI : K.lookup fI = some ⟨oc, od, .func (PySem.W.ksFn "__init__" qual (iA fld p1 p2) (iB fld msg a1 a2 a3 a4 a5 a6 q1 q2 q3 q4 j) sc .none .none doc pm an (.ref cda) ct cc), osl⟩) (cI : PySem.W.codeIn K (.ref cda) qual = true) (hsc : ScOk fld sc)
    (lc : K.lookup cda = some ⟨ccl, cdd, .fields vs, ccs⟩) (hv : (vs[2]? : Option Value) = some (.str file tf)) (fe : ((P.main.file : Str) == file) = true) (lcc : K.lookup cc = some ⟨cl, cld, .cell (some (.ref C)), csl⟩)
    (hn : (P.main.scope.names.lookup ("super" : Str)).isSome = false) (hl : (a3.endLine == a5.line) = true)
    (hb : ∀ (s : Shared) (x v : Value), BindsTo s (PySem.W.ksFn "__init__" qual (iA fld p1 p2) (iB fld msg a1 a2 a3 a4 a5 a6 q1 q2 q3 q4 j) sc .none .none doc pm an (.ref cda) ct cc) ⟨[x, v], []⟩ [("self", x), (fld, v)]) (n : XsTxt P K mg nm fld C Y fI → Q) : Q :=
  n { gC := PySem.W.mg_of X G aC, cls := ⟨_, _, _, _, _, _, _, _, _, _, _, _, _, _, xL⟩, sa := sa, ga := ga, gg := gg, noN := noN, iC := iC, tC := tC, kC := kC, exC := exC, tyC := tyC, hdC := hdC, isC := isC, al := al, ho := ho, su := T.super,
      fn := ⟨_, _, _, _, _, _, _, _, _, _, _, _, _, _, _, _, _, _, _, _, _, _, _, _, _, _, _, _, _, _, _, _, _, _, lI, cI, hsc, lc, hv, fe, lcc, hn, hl, hb⟩ }
theorem kit_cls {t : Value} {C : Addr} {b : Bool} (h2 : PySem.W.isClsIn K C = true) (h3 : PySem.W.typeIn K (.ref C) = some (.type "type")) (h4 : PySem.W.subIn K t (.ref C) = some b) : PySem.W.kitCls K t (.ref C) = some b := by
  have e2 : ((PySem.W.clsIn K C).isSome && PySem.W.typeIn K (.ref C) == some (.type "type")) = true := by
    have h2' : (PySem.W.clsIn K C).isSome = true := h2
    rw [h2', h3] <;> rfl
  show (if ((PySem.W.clsIn K C).isSome && PySem.W.typeIn K (.ref C) == some (.type "type")) = true then PySem.W.subIn K t (.ref C) else none) = some b
  rw [if_pos e2]
  exact h4
theorem exm_cls {S C : Addr} {b : Bool} (h1 : PySem.W.subIn K (.ref C) (.type "BaseException") = some true) (h2 : PySem.W.isClsIn K C = true) (h3 : PySem.W.typeIn K (.ref C) = some (.type "type")) (h4 : PySem.W.subIn K (.ref S) (.ref C) = some b) : PySem.W.exmOne K (.ref S) (.ref C) = some b := by
  have e1 : (PySem.W.subIn K (.ref C) (.type "BaseException") == some true) = true := by rw [h1] <;> rfl
  show (if (PySem.W.subIn K (.ref C) (.type "BaseException") == some true) = true then PySem.W.kitCls K (.ref S) (.ref C) else none) = some b
  rw [if_pos e1]
  exact kit_cls h2 h3 h4
theorem td_then {C1 C2 Y f1 f2 : Addr} (X : K.In h) (G : h.Ns mainGlobals mg) (T : Bl mg) (x1 : XsTxt P K mg "InvalidTimetable" "at" C1 Y f1) (x2 : XsTxt P K mg "Refused" "word" C2 Y f2) (aY : PySem.W.nsIn K mainGlobals "YardError" = some (some (.ref Y)))
    (s11 : PySem.W.subIn K (.ref C1) (.ref C1) = some true) (s21 : PySem.W.subIn K (.ref C2) (.ref C1) = some false) (s22 : PySem.W.subIn K (.ref C2) (.ref C2) = some true) (s2Y : PySem.W.subIn K (.ref C2) (.ref Y) = some true) (iY : PySem.W.isClsIn K Y = true) (tY : PySem.W.typeIn K (.ref Y) = some (.type "type"))
    (n : (∃ C1 C2 Y, ToldTxt P K mg C1 C2 Y) → Q) : Q := by
  refine n ⟨C1, C2, Y, ⟨⟨f1, x1⟩, ⟨f2, x2⟩, exm_cls x1.exC x1.isC x1.tyC s11, exm_cls x1.exC x1.isC x1.tyC s21, exm_cls x2.exC x2.isC x2.tyC s22, PySem.W.mg_of X G aY, ?_, T.isinstance⟩⟩
  show (if ((Value.ref C2 : Value) == .ref Y) = true then some true else PySem.W.kitCls K (.ref C2) (.ref Y)) = some true
  rw [kit_cls iY tY s2Y]
  split <;> rfl
end
end W63
end PartA3
section PartHD
set_option maxRecDepth 100000
set_option maxHeartbeats 0
open PySem PySem.W PyProof.Rows
open_top hd for PySem.Challenge.rw_staysdeep_k63_whole_weaves_of_two_timeta
end PartHD
open PySem PySem.W PyProof.Rows
set_option maxRecDepth 100000 in
set_option maxHeartbeats 0 in
theorem PySem.Challenge.cw_staysdeep_k63_whole_weaves_of_two_timeta_holds : PySem.Challenge.rw_staysdeep_k63_whole_weaves_of_two_timeta.Holds := by
  refine hd ?walk
  k_fill
  refine LamX.walk_ofTab (l := PySem.Challenge.rw_staysdeep_k63_whole_weaves_of_two_timeta) (n := 63) (k := 12) (CX := fun _ => L2.CX0) (x := "_law_script") rfl (by decide) rfl ⟨rfl, by decide, by decide⟩ (fun w h Y => PySem.W.km_in_of Y) ?F (fun _ _ _ _ _ z => z)
  case F =>
    intro w mg fa h Y KX G hmg tabs
    refine' W63.bl_then KX G ?z1_1 ?z2_1 ?z3_1 ?z4_1 ?z5_1 ?z6_1 ?z7_1 ?z8_1 ?z9_1 ?z10_1 ?z11_1 ?z12_1 ?z13_1 ?z14_1 ?z15_1 ?z16_1 ?z17_1 ?z18_1 ?z19_1 ?n_1
    (case z1_1 => k_is)
    (case z2_1 => k_is)
    (case z3_1 => k_is)
    (case z4_1 => k_is)
    (case z5_1 => k_is)
    (case z6_1 => k_is)
    (case z7_1 => k_is)
    (case z8_1 => k_is)
    (case z9_1 => k_is)
    (case z10_1 => k_is)
    (case z11_1 => k_is)
    (case z12_1 => k_is)
    (case z13_1 => k_is)
    (case z14_1 => k_is)
    (case z15_1 => k_is)
    (case z16_1 => k_is)
    (case z17_1 => k_is)
    (case z18_1 => k_is)
    (case z19_1 => k_is)
    intro bl
    refine' W63.cn_then KX G ?z1_2 ?z2_2 ?z3_2 ?z4_2 ?n_2
    (case z1_2 => k_is)
    (case z2_2 => k_is)
    (case z3_2 => k_is)
    (case z4_2 => k_is)
    intro cn
    refine' W63.df_then (x := "is_integer") (st := W63.s_is_integer) KX G ?a_3 ?l_3 ?c_3 ?k_3 ?n_3
    (case a_3 => k_is)
    (case l_3 => k_is)
    (case c_3 => k_is)
    (case k_3 => k_is)
    intro d_is_integer
    refine' W63.df_then (x := "is_below") (st := W63.s_is_below) KX G ?a_4 ?l_4 ?c_4 ?k_4 ?n_4
    (case a_4 => k_is)
    (case l_4 => k_is)
    (case c_4 => k_is)
    (case k_4 => k_is)
    intro d_is_below
    refine' W63.df_then (x := "is_text") (st := W63.s_is_text) KX G ?a_5 ?l_5 ?c_5 ?k_5 ?n_5
    (case a_5 => k_is)
    (case l_5 => k_is)
    (case c_5 => k_is)
    (case k_5 => k_is)
    intro d_is_text
    refine' W63.df_then (x := "is_sequence") (st := W63.s_is_sequence) KX G ?a_6 ?l_6 ?c_6 ?k_6 ?n_6
    (case a_6 => k_is)
    (case l_6 => k_is)
    (case c_6 => k_is)
    (case k_6 => k_is)
    intro d_is_sequence
    refine' W63.df_then (x := "is_pair") (st := W63.s_is_pair) KX G ?a_7 ?l_7 ?c_7 ?k_7 ?n_7
    (case a_7 => k_is)
    (case l_7 => k_is)
    (case c_7 => k_is)
    (case k_7 => k_is)
    intro d_is_pair
    refine' W63.df_then (x := "is_name") (st := W63.s_is_name) KX G ?a_8 ?l_8 ?c_8 ?k_8 ?n_8
    (case a_8 => k_is)
    (case l_8 => k_is)
    (case c_8 => k_is)
    (case k_8 => k_is)
    intro d_is_name
    refine' W63.df_then (x := "lot_of") (st := W63.s_lot_of) KX G ?a_9 ?l_9 ?c_9 ?k_9 ?n_9
    (case a_9 => k_is)
    (case l_9 => k_is)
    (case c_9 => k_is)
    (case k_9 => k_is)
    intro d_lot_of
    refine' W63.df_then (x := "places") (st := W63.s_places) KX G ?a_10 ?l_10 ?c_10 ?k_10 ?n_10
    (case a_10 => k_is)
    (case l_10 => k_is)
    (case c_10 => k_is)
    (case k_10 => k_is)
    intro d_places
    refine' W63.df_then (x := "is_event") (st := W63.s_is_event) KX G ?a_11 ?l_11 ?c_11 ?k_11 ?n_11
    (case a_11 => k_is)
    (case l_11 => k_is)
    (case c_11 => k_is)
    (case k_11 => k_is)
    intro d_is_event
    refine' W63.df_then (x := "event_fault") (st := W63.s_event_fault) KX G ?a_12 ?l_12 ?c_12 ?k_12 ?n_12
    (case a_12 => k_is)
    (case l_12 => k_is)
    (case c_12 => k_is)
    (case k_12 => k_is)
    intro d_event_fault
    refine' W63.df_then (x := "need_timetable") (st := W63.s_need_timetable) KX G ?a_13 ?l_13 ?c_13 ?k_13 ?n_13
    (case a_13 => k_is)
    (case l_13 => k_is)
    (case c_13 => k_is)
    (case k_13 => k_is)
    intro d_need_timetable
    refine' W63.df_then (x := "timetable_boxes") (st := W63.s_timetable_boxes) KX G ?a_14 ?l_14 ?c_14 ?k_14 ?n_14
    (case a_14 => k_is)
    (case l_14 => k_is)
    (case c_14 => k_is)
    (case k_14 => k_is)
    intro d_timetable_boxes
    refine' W63.df_then (x := "free_counts") (st := W63.s_free_counts) KX G ?a_15 ?l_15 ?c_15 ?k_15 ?n_15
    (case a_15 => k_is)
    (case l_15 => k_is)
    (case c_15 => k_is)
    (case k_15 => k_is)
    intro d_free_counts
    refine' W63.df_then (x := "presence_table") (st := W63.s_presence_table) KX G ?a_16 ?l_16 ?c_16 ?k_16 ?n_16
    (case a_16 => k_is)
    (case l_16 => k_is)
    (case c_16 => k_is)
    (case k_16 => k_is)
    intro d_presence_table
    refine' W63.df_then (x := "owed") (st := W63.s_owed) KX G ?a_17 ?l_17 ?c_17 ?k_17 ?n_17
    (case a_17 => k_is)
    (case l_17 => k_is)
    (case c_17 => k_is)
    (case k_17 => k_is)
    intro d_owed
    refine' W63.df_then (x := "above") (st := W63.s_above) KX G ?a_18 ?l_18 ?c_18 ?k_18 ?n_18
    (case a_18 => k_is)
    (case l_18 => k_is)
    (case c_18 => k_is)
    (case k_18 => k_is)
    intro d_above
    refine' W63.df_then (x := "enough") (st := W63.s_enough) KX G ?a_19 ?l_19 ?c_19 ?k_19 ?n_19
    (case a_19 => k_is)
    (case l_19 => k_is)
    (case c_19 => k_is)
    (case k_19 => k_is)
    intro d_enough
    refine' W63.df_then (x := "after_event") (st := W63.s_after_event) KX G ?a_20 ?l_20 ?c_20 ?k_20 ?n_20
    (case a_20 => k_is)
    (case l_20 => k_is)
    (case c_20 => k_is)
    (case k_20 => k_is)
    intro d_after_event
    refine' W63.df_then (x := "need_apart") (st := W63.s_need_apart) KX G ?a_21 ?l_21 ?c_21 ?k_21 ?n_21
    (case a_21 => k_is)
    (case l_21 => k_is)
    (case c_21 => k_is)
    (case k_21 => k_is)
    intro d_need_apart
    refine' W63.df_then (x := "woven") (st := W63.s_woven) KX G ?a_22 ?l_22 ?c_22 ?k_22 ?n_22
    (case a_22 => k_is)
    (case l_22 => k_is)
    (case c_22 => k_is)
    (case k_22 => k_is)
    intro d_woven
    refine' W63.df_then (x := "staying_counts") (st := W63.s_staying_counts) KX G ?a_23 ?l_23 ?c_23 ?k_23 ?n_23
    (case a_23 => k_is)
    (case l_23 => k_is)
    (case c_23 => k_is)
    (case k_23 => k_is)
    intro d_staying_counts
    refine' W63.df_then (x := "short_way") (st := W63.s_short_way) KX G ?a_24 ?l_24 ?c_24 ?k_24 ?n_24
    (case a_24 => k_is)
    (case l_24 => k_is)
    (case c_24 => k_is)
    (case k_24 => k_is)
    intro d_short_way
    refine' W63.df_then (x := "every_weave") (st := W63.s_every_weave) KX G ?a_25 ?l_25 ?c_25 ?k_25 ?n_25
    (case a_25 => k_is)
    (case l_25 => k_is)
    (case c_25 => k_is)
    (case k_25 => k_is)
    intro d_every_weave
    refine' W63.df_then (x := "weave_states") (st := W63.s_weave_states) KX G ?a_26 ?l_26 ?c_26 ?k_26 ?n_26
    (case a_26 => k_is)
    (case l_26 => k_is)
    (case c_26 => k_is)
    (case k_26 => k_is)
    intro d_weave_states
    refine' W63.df_then (x := "some_weave") (st := W63.s_some_weave) KX G ?a_27 ?l_27 ?c_27 ?k_27 ?n_27
    (case a_27 => k_is)
    (case l_27 => k_is)
    (case c_27 => k_is)
    (case k_27 => k_is)
    intro d_some_weave
    refine' W63.df_then (x := "count_weaves") (st := W63.s_count_weaves) KX G ?a_28 ?l_28 ?c_28 ?k_28 ?n_28
    (case a_28 => k_is)
    (case l_28 => k_is)
    (case c_28 => k_is)
    (case k_28 => k_is)
    intro d_count_weaves
    refine' W63.df_then (x := "_law_heap") (st := W63.s_lheap) KX G ?a_29 ?l_29 ?c_29 ?k_29 ?n_29
    (case a_29 => k_is)
    (case l_29 => k_is)
    (case c_29 => k_is)
    (case k_29 => k_is)
    intro d__law_heap
    refine' W63.df_then (x := "_law_draw") (st := W63.s_ldraw) KX G ?a_30 ?l_30 ?c_30 ?k_30 ?n_30
    (case a_30 => k_is)
    (case l_30 => k_is)
    (case c_30 => k_is)
    (case k_30 => k_is)
    intro d__law_draw
    refine' W63.df_then (x := "_law_pick") (st := W63.s_lpick) KX G ?a_31 ?l_31 ?c_31 ?k_31 ?n_31
    (case a_31 => k_is)
    (case l_31 => k_is)
    (case c_31 => k_is)
    (case k_31 => k_is)
    intro d__law_pick
    refine' W63.df_then (x := "_law_mixed") (st := W63.s_lmixed) KX G ?a_32 ?l_32 ?c_32 ?k_32 ?n_32
    (case a_32 => k_is)
    (case l_32 => k_is)
    (case c_32 => k_is)
    (case k_32 => k_is)
    intro d__law_mixed
    refine' W63.df_then (x := "_law_names") (st := W63.s_lnames) KX G ?a_33 ?l_33 ?c_33 ?k_33 ?n_33
    (case a_33 => k_is)
    (case l_33 => k_is)
    (case c_33 => k_is)
    (case k_33 => k_is)
    intro d__law_names
    refine' W63.df_then (x := "_law_tall") (st := W63.s_ltall) KX G ?a_34 ?l_34 ?c_34 ?k_34 ?n_34
    (case a_34 => k_is)
    (case l_34 => k_is)
    (case c_34 => k_is)
    (case k_34 => k_is)
    intro d__law_tall
    refine' W63.df_then (x := "_law_owed") (st := W63.s_lowed) KX G ?a_35 ?l_35 ?c_35 ?k_35 ?n_35
    (case a_35 => k_is)
    (case l_35 => k_is)
    (case c_35 => k_is)
    (case k_35 => k_is)
    intro d__law_owed
    refine' W63.df_then (x := "_law_states") (st := W63.s_lstates) KX G ?a_36 ?l_36 ?c_36 ?k_36 ?n_36
    (case a_36 => k_is)
    (case l_36 => k_is)
    (case c_36 => k_is)
    (case k_36 => k_is)
    intro d__law_states
    refine' W63.df_then (x := "_law_bad") (st := W63.s_lbad) KX G ?a_37 ?l_37 ?c_37 ?k_37 ?n_37
    (case a_37 => k_is)
    (case l_37 => k_is)
    (case c_37 => k_is)
    (case k_37 => k_is)
    intro d__law_bad
    refine' W63.df_then (x := "_law_stuck") (st := W63.s_lstuck) KX G ?a_38 ?l_38 ?c_38 ?k_38 ?n_38
    (case a_38 => k_is)
    (case l_38 => k_is)
    (case c_38 => k_is)
    (case k_38 => k_is)
    intro d__law_stuck
    refine' W63.df_then (x := "_law_weaves") (st := W63.s_lweaves) KX G ?a_39 ?l_39 ?c_39 ?k_39 ?n_39
    (case a_39 => k_is)
    (case l_39 => k_is)
    (case c_39 => k_is)
    (case k_39 => k_is)
    intro d__law_weaves
    refine' W63.df_then (x := "_law_some_weave") (st := W63.s_lsome) KX G ?a_40 ?l_40 ?c_40 ?k_40 ?n_40
    (case a_40 => k_is)
    (case l_40 => k_is)
    (case c_40 => k_is)
    (case k_40 => k_is)
    intro d__law_some_weave
    refine' W63.df_then (x := "_law_is_weave") (st := W63.s_lis) KX G ?a_41 ?l_41 ?c_41 ?k_41 ?n_41
    (case a_41 => k_is)
    (case l_41 => k_is)
    (case c_41 => k_is)
    (case k_41 => k_is)
    intro d__law_is_weave
    refine' W63.df_then (x := "_law_part") (st := W63.s_lpart) KX G ?a_42 ?l_42 ?c_42 ?k_42 ?n_42
    (case a_42 => k_is)
    (case l_42 => k_is)
    (case c_42 => k_is)
    (case k_42 => k_is)
    intro d__law_part
    refine' W63.df_then (x := "_law_short_right") (st := W63.s_lshort) KX G ?a_43 ?l_43 ?c_43 ?k_43 ?n_43
    (case a_43 => k_is)
    (case l_43 => k_is)
    (case c_43 => k_is)
    (case k_43 => k_is)
    intro d__law_short_right
    refine' W63.df_then (x := "_law_long_right") (st := W63.s_llong) KX G ?a_44 ?l_44 ?c_44 ?k_44 ?n_44
    (case a_44 => k_is)
    (case l_44 => k_is)
    (case c_44 => k_is)
    (case k_44 => k_is)
    intro d__law_long_right
    refine' W63.df_then (x := "_law_told") (st := W63.s_ltold) KX G ?a_45 ?l_45 ?c_45 ?k_45 ?n_45
    (case a_45 => k_is)
    (case l_45 => k_is)
    (case c_45 => k_is)
    (case k_45 => k_is)
    intro d__law_told
    refine' W63.df_then (x := "law") (st := W63.s_law) KX G ?a_46 ?l_46 ?c_46 ?k_46 ?n_46
    (case a_46 => k_is)
    (case l_46 => k_is)
    (case c_46 => k_is)
    (case k_46 => k_is)
    intro d_law
    refine' W63.yd_then KX G ?aC_47 ?a_47 ?i_47 ?l_47 ?c_47 ?k_47 ?pg_47 ?hd_47 ?po_47 ?sa_47 ?mk_47 ?kc_47 ?nH_47 ?n_47
    (case aC_47 => k_is)
    (case a_47 => k_is)
    (case i_47 => k_is)
    (case l_47 => k_is)
    (case c_47 => k_is)
    (case k_47 => k_is)
    (case pg_47 => k_is)
    (case hd_47 => k_is)
    (case po_47 => k_is)
    (case sa_47 => k_is)
    (case mk_47 => k_is)
    (case kc_47 => k_is)
    (case nH_47 => k_is)
    intro yd
    refine' W63.rr_then KX G ?a_48 ?l_48 ?c_48 ?k_48 ?lc_48 ?hv_48 ?nT_48 ?n_48
    (case a_48 => k_is)
    (case l_48 => k_is)
    (case c_48 => k_is)
    (case k_48 => k_is)
    (case lc_48 => k_is)
    (case hv_48 => rfl)
    (case nT_48 => kernel_rfl)
    intro rr tb nT
    refine' W63.xs_then (P := PySem.Challenge.rw_staysdeep_k63_whole_weaves_of_two_timeta.prog) (nm := "InvalidTimetable") (fld := "at") KX G bl ?aC_49 ?xL_49 ?sa_49 ?ga_49 ?gg_49 ?noN_49 ?iC_49 ?tC_49 ?kC_49 ?exC_49 ?tyC_49 ?hdC_49 ?isC_49 ?al_49 ?ho_49 ?lI_49 ?cI_49 ?hsc_49 ?lc_49 ?hv_49 ?fe_49 ?lcc_49 ?hn_49 ?hl_49 ?hb_49 ?n_49
    (case aC_49 => k_is)
    (case xL_49 => k_is)
    (case sa_49 => k_is)
    (case ga_49 => k_is)
    (case gg_49 => k_is)
    (case noN_49 => k_is)
    (case iC_49 => k_is)
    (case tC_49 => k_is)
    (case kC_49 => k_is)
    (case exC_49 => k_is)
    (case tyC_49 => k_is)
    (case hdC_49 => k_is)
    (case isC_49 => k_is)
    (case lI_49 => k_is)
    (case al_49 => kernel_rfl)
    (case ho_49 => k_is)
    (case cI_49 => k_is)
    (case hsc_49 => exact ⟨rfl, rfl, rfl, by decide, rfl, rfl, rfl, rfl, by decide, rfl⟩)
    (case lc_49 => k_is)
    (case hv_49 => rfl)
    (case fe_49 => first | kernel_rfl | decide +kernel)
    (case lcc_49 => k_is)
    (case hn_49 => first | kernel_rfl | decide +kernel)
    (case hl_49 => rfl)
    (case hb_49 => exact fun _ _ _ => .of_eq rfl)
    intro x1
    refine' W63.xs_then (P := PySem.Challenge.rw_staysdeep_k63_whole_weaves_of_two_timeta.prog) (nm := "Refused") (fld := "word") KX G bl ?aC_50 ?xL_50 ?sa_50 ?ga_50 ?gg_50 ?noN_50 ?iC_50 ?tC_50 ?kC_50 ?exC_50 ?tyC_50 ?hdC_50 ?isC_50 ?al_50 ?ho_50 ?lI_50 ?cI_50 ?hsc_50 ?lc_50 ?hv_50 ?fe_50 ?lcc_50 ?hn_50 ?hl_50 ?hb_50 ?n_50
    (case aC_50 => k_is)
    (case xL_50 => k_is)
    (case sa_50 => k_is)
    (case ga_50 => k_is)
    (case gg_50 => k_is)
    (case noN_50 => k_is)
    (case iC_50 => k_is)
    (case tC_50 => k_is)
    (case kC_50 => k_is)
    (case exC_50 => k_is)
    (case tyC_50 => k_is)
    (case hdC_50 => k_is)
    (case isC_50 => k_is)
    (case lI_50 => k_is)
    (case al_50 => kernel_rfl)
    (case ho_50 => k_is)
    (case cI_50 => k_is)
    (case hsc_50 => exact ⟨rfl, rfl, rfl, by decide, rfl, rfl, rfl, rfl, by decide, rfl⟩)
    (case lc_50 => k_is)
    (case hv_50 => rfl)
    (case fe_50 => first | kernel_rfl | decide +kernel)
    (case lcc_50 => k_is)
    (case hn_50 => first | kernel_rfl | decide +kernel)
    (case hl_50 => rfl)
    (case hb_50 => exact fun _ _ _ => .of_eq rfl)
    intro x2
    refine' W63.td_then KX G bl x1 x2 ?aY_51 ?s11_51 ?s21_51 ?s22_51 ?s2Y_51 ?iY_51 ?tY_51 ?n_51
    (case aY_51 => k_is)
    (case s11_51 => k_is)
    (case s21_51 => k_is)
    (case s22_51 => k_is)
    (case s2Y_51 => k_is)
    (case iY_51 => k_is)
    (case tY_51 => k_is)
    intro td
    exact W63.law_at ⟨bl, cn, d_is_integer, d_is_below, d_is_text, d_is_sequence, d_is_pair, d_is_name, d_lot_of, d_places, d_is_event, d_event_fault, d_need_timetable, d_timetable_boxes, d_free_counts, d_presence_table, d_owed, d_above, d_enough, d_after_event, d_need_apart, d_woven, d_staying_counts, d_short_way, d_every_weave, d_weave_states, d_some_weave, d_count_weaves, d__law_heap, d__law_draw, d__law_pick, d__law_mixed, d__law_names, d__law_tall, d__law_owed, d__law_states, d__law_bad, d__law_stuck, d__law_weaves, d__law_some_weave, d__law_is_weave, d__law_part, d__law_short_right, d__law_long_right, d__law_told, d_law, rr, yd, td⟩ hmg nT (tabs _ _ _ _ rfl tb)
