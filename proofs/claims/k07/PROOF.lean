import PyProof.Rows.All
import Wide.All
import OpenK.AllK
import Wide.FinOn
import HandS.ForMost
import HandS.ForExc
import HandS.Deep
import HandS.Wide
import HandS.Gcd
import HandS.TupAny
import HandS.TupMul
import HandS.IsInst
import HandS.Conv
import HandS.Star
import HandS.Zip
import HandS.SetFor
import HandS.SortInts
import HandS.TupLen
import HandS.DictTup
import PyProof.ReprRoads
import HandS.Style
import KE.GoesEnum
import HandS.NoneIn
import HandS.Sort
import HandS.DictSubView
import HandS.Dict
import HandS.Small
import HandS.Codes
import HandS.Ends
import PyProof.ReprLen
import PyProof.StrLaws
import PySem.Challenge.RW_seedtables_k07_likenesses_by_own_pairs
set_option Elab.async false
set_option linter.all false
set_option maxRecDepth 100000
section
set_option Elab.async false
set_option linter.all false
set_option maxRecDepth 100000
/-! Pv.A: data (PyData) as it stands in a region R of the abstract heap; how regions grow; the state of a def's slots. -/
namespace Pv
open PySem PySem.Spec L2

abbrev Dt := PyData

/-- a dict's key as data -/
def kD : Key → Dt
  | .inl i => .int i
  | .inr x => .str x

/-- the written part, and whether its tuples are data too -/
structure Kc where
  f : PySem.W.Frag
  kt : Bool
/-- a tuple that is read: of the region, or a constant of the module -/
def Tq (K : Kc) (R : Hp) (a : Addr) (xs : List V) : Prop := R a = some (.tup xs) ∨ (K.kt = true ∧ SqT K.f R a xs)
theorem Tq.sq {K : Kc} {R : Hp} {a : Addr} {xs : List V} (h : Tq K R a xs) : SqT K.f R a xs := by
  rcases h with h | h
  · exact SqT.of h
  · exact h.2
/-! ### data in a region -/
mutual
inductive Rp (K : Kc) (R : Hp) : V → Dt → Prop
  | non : Rp K R .non .none
  | bl (b : Bool) : Rp K R (.bl b) (.bool b)
  | int (i : Int) : Rp K R (.int i) (.int i)
  | str (x : Str) : Rp K R (.str x) (.str x)
  | lst {a : Addr} {xs : List V} {ds : List Dt} : Rd R a (.lst xs) → RpL K R xs ds → Rp K R (.ref a) (.list ds)
  | tup {a : Addr} {xs : List V} {ds : List Dt} : Tq K R a xs → RpL K R xs ds → Rp K R (.ref a) (.tuple ds)
  | dK {a : Addr} {o : Obj} {kvs : List (Key × V)} {ds : List Dt} : R a = some (.frz o (.dK kvs)) → RpL K R (kvs.map (·.2)) ds → Rp K R (.ref a) (.dict ((kvs.map fun p => kD p.1).zip ds))
  | dT {a : Addr} {o : Obj} {kvs : List (List Key × V)} {ds : List Dt} : R a = some (.frz o (.dT kvs)) → RpL K R (kvs.map (·.2)) ds → Rp K R (.ref a) (.dict ((kvs.map fun p => PyData.tuple (p.1.map kD)).zip ds))
inductive RpL (K : Kc) (R : Hp) : List V → List Dt → Prop
  | nil : RpL K R [] []
  | cons {v : V} {vs : List V} {d : Dt} {ds : List Dt} : Rp K R v d → RpL K R vs ds → RpL K R (v :: vs) (d :: ds)
end

section
variable {K : Kc} {R R' H : Hp}

theorem rd_mono (e : Same R R') {a : Addr} {o : HO} (h : Rd R a o) : Rd R' a o := by
  rcases h with h | ⟨q, h⟩
  · exact .inl (e _ _ h)
  · exact .inr ⟨q, e _ _ h⟩
theorem sqT_mono (e : Same R R') {a : Addr} {xs : List V} (h : SqT K.f R a xs) : SqT K.f R' a xs := by
  rcases h with (h | ⟨o, h⟩) | h
  · exact .inl (.inl (e _ _ h))
  · exact .inl (.inr ⟨o, e _ _ h⟩)
  · exact .inr h

theorem tq_mono (e : Same R R') {a : Addr} {xs : List V} (h : Tq K R a xs) : Tq K R' a xs := by
  rcases h with h | ⟨q, h⟩
  · exact .inl (e _ _ h)
  · exact .inr ⟨q, sqT_mono e h⟩
mutual
theorem Rp.mono (e : Same R R') : ∀ {v : V} {d : Dt}, Rp K R v d → Rp K R' v d
  | _, _, .non => .non
  | _, _, .bl b => .bl b
  | _, _, .int i => .int i
  | _, _, .str x => .str x
  | _, _, .lst h1 h2 => .lst (rd_mono e h1) (RpL.mono e h2)
  | _, _, .tup h1 h2 => .tup (tq_mono e h1) (RpL.mono e h2)
  | _, _, .dK h1 h2 => .dK (e _ _ h1) (RpL.mono e h2)
  | _, _, .dT h1 h2 => .dT (e _ _ h1) (RpL.mono e h2)
theorem RpL.mono (e : Same R R') : ∀ {vs : List V} {ds : List Dt}, RpL K R vs ds → RpL K R' vs ds
  | _, _, .nil => .nil
  | _, _, .cons h1 h2 => .cons (Rp.mono e h1) (RpL.mono e h2)
end

theorem RpL.length : ∀ {vs : List V} {ds : List Dt}, RpL K R vs ds → vs.length = ds.length
  | _, _, .nil => rfl
  | _, _, .cons _ h => by rw [List.length_cons, List.length_cons, h.length]
theorem RpL.append : ∀ {vs ws : List V} {ds es : List Dt}, RpL K R vs ds → RpL K R ws es → RpL K R (vs ++ ws) (ds ++ es)
  | _, _, _, _, .nil, h => h
  | _, _, _, _, .cons a b, h => .cons a (b.append h)
theorem RpL.get : ∀ {vs : List V} {ds : List Dt} {i : Nat} {d : Dt}, RpL K R vs ds → ds[i]? = some d → ∃ v, vs[i]? = some v ∧ Rp K R v d
  | _, _, _, _, .nil, e => by simp at e
  | _, _, 0, _, .cons a _, e => by simp at e; subst e; exact ⟨_, rfl, a⟩
  | _, _, i + 1, d, .cons _ b, e => by
    obtain ⟨v, h1, h2⟩ := RpL.get (i := i) (d := d) b (by simpa using e)
    exact ⟨v, by simpa using h1, h2⟩
theorem RpL.getV : ∀ {vs : List V} {ds : List Dt} {i : Nat} {v : V}, RpL K R vs ds → vs[i]? = some v → ∃ d, ds[i]? = some d ∧ Rp K R v d
  | _, _, _, _, .nil, e => by simp at e
  | _, _, 0, _, .cons a _, e => by simp at e; subst e; exact ⟨_, rfl, a⟩
  | _, _, i + 1, d, .cons _ b, e => by
    obtain ⟨v, h1, h2⟩ := RpL.getV (i := i) (v := d) b (by simpa using e)
    exact ⟨v, by simpa using h1, h2⟩
theorem RpL.set {v : V} {d : Dt} (r : Rp K R v d) : ∀ {vs : List V} {ds : List Dt} (i : Nat), RpL K R vs ds → RpL K R (vs.set i v) (ds.set i d)
  | _, _, _, .nil => .nil
  | _, _, 0, .cons _ b => .cons r b
  | _, _, i + 1, .cons a b => .cons a (RpL.set r i b)
theorem RpL.take : ∀ {vs : List V} {ds : List Dt} (n : Nat), RpL K R vs ds → RpL K R (vs.take n) (ds.take n)
  | _, _, 0, _ => .nil
  | _, _, _ + 1, .nil => .nil
  | _, _, n + 1, .cons r t => .cons r (RpL.take n t)
theorem RpL.drop : ∀ {vs : List V} {ds : List Dt} (n : Nat), RpL K R vs ds → RpL K R (vs.drop n) (ds.drop n)
  | _, _, 0, r => r
  | _, _, _ + 1, .nil => .nil
  | _, _, n + 1, .cons _ t => RpL.drop n t
theorem RpL.reverse : ∀ {vs : List V} {ds : List Dt}, RpL K R vs ds → RpL K R vs.reverse ds.reverse
  | _, _, .nil => .nil
  | _, _, .cons r t => by rw [List.reverse_cons, List.reverse_cons]; exact (RpL.reverse t).append (.cons r .nil)
theorem RpL.rep {vs : List V} {ds : List Dt} (h : RpL K R vs ds) : ∀ n : Nat, RpL K R (List.replicate n vs).flatten (List.replicate n ds).flatten
  | 0 => .nil
  | n + 1 => by
    rw [List.replicate_succ, List.replicate_succ, List.flatten_cons, List.flatten_cons]
    exact h.append (RpL.rep h n)
theorem RpL.nil_iff {vs : List V} {ds : List Dt} (h : RpL K R vs ds) : vs = [] ↔ ds = [] := by
  cases h <;> simp
theorem RpL.ints : ∀ {vs : List V} {ns : List Int}, RpL K R vs (ns.map PyData.int) → vs = ns.map V.int
  | _, [], h => by cases h; rfl
  | _, n :: ns, h => by
    cases h with
    | cons a b => cases a; rw [RpL.ints b]; rfl
theorem RpL.of_ints : ∀ (ns : List Int), RpL K R (ns.map V.int) (ns.map PyData.int)
  | [] => .nil
  | n :: ns => .cons (.int n) (RpL.of_ints ns)
theorem RpL.bools : ∀ {vs : List V} {ns : List Bool}, RpL K R vs (ns.map PyData.bool) → vs = ns.map V.bl
  | _, [], h => by cases h; rfl
  | _, n :: ns, h => by
    cases h with
    | cons a b => cases a; rw [RpL.bools b]; rfl
end

/-- no dict within -/
abbrev plainD (d : Dt) : Bool := SeqAt.shaped d

section
variable {K : Kc} {R H : Hp}
mutual
theorem Rp.dp : ∀ {v : V} {d : Dt}, Rp K R v d → PyData.canLay0 d = true → Dp K.f R v d
  | _, _, .non, _ => .non
  | _, _, .bl b, _ => .bl b
  | _, _, .int i, _ => .int i
  | _, _, .str x, _ => .str x
  | _, _, .lst h1 h2, c => .lst (.inl h1) (RpL.dp h2 (by simpa [PyData.canLay0] using c))
  | _, _, .tup h1 h2, c => .tup h1.sq (RpL.dp h2 (by simpa [PyData.canLay0] using c))
  | _, _, .dK _ _, c => by simp [PyData.canLay0] at c
  | _, _, .dT _ _, c => by simp [PyData.canLay0] at c
theorem RpL.dp : ∀ {vs : List V} {ds : List Dt}, RpL K R vs ds → PyData.canLayAll0 ds = true → DpAll K.f R vs ds
  | _, _, .nil, _ => .nil
  | _, _, .cons h1 h2, c => by
    simp only [PyData.canLayAll0, Bool.and_eq_true] at c
    exact .cons (Rp.dp h1 c.1) (RpL.dp h2 c.2)
end
end

/-! ### data whose uppermost object may stand outside the region -/
/-- at a in H stand the data d, its parts in R -/
inductive Ob (K : Kc) (R H : Hp) (a : Addr) : Dt → Prop
  | lst {xs : List V} {ds : List Dt} : H a = some (.lst xs) → RpL K R xs ds → Ob K R H a (.list ds)
  | dK {kvs : List (Key × V)} {ds : List Dt} : H a = some (.dK kvs) → RpL K R (kvs.map (·.2)) ds → Ob K R H a (.dict ((kvs.map fun p => kD p.1).zip ds))
  | dT {kvs : List (List Key × V)} {ds : List Dt} : H a = some (.dT kvs) → RpL K R (kvs.map (·.2)) ds → Ob K R H a (.dict ((kvs.map fun p => PyData.tuple (p.1.map kD)).zip ds))
theorem Ob.mono {K : Kc} {R R' H H' : Hp} {a : Addr} {d : Dt} (e : Same R R') (h : ∀ o, H a = some o → H' a = some o) : Ob K R H a d → Ob K R' H' a d
  | .lst h1 h2 => .lst (h _ h1) (h2.mono e)
  | .dK h1 h2 => .dK (h _ h1) (h2.mono e)
  | .dT h1 h2 => .dT (h _ h1) (h2.mono e)
theorem Ob.there {K : Kc} {R H : Hp} {a : Addr} {d : Dt} : Ob K R H a d → ∃ o, H a = some o
  | .lst h _ => ⟨_, h⟩
  | .dK h _ => ⟨_, h⟩
  | .dT h _ => ⟨_, h⟩

/-- read in H: in the region, or an object of one's own -/
inductive Rb (K : Kc) (R H : Hp) (v : V) (d : Dt) : Prop
  | sh : Rp K R v d → Rb K R H v d
  | ow {a : Addr} : v = .ref a → Ob K R H a d → Rb K R H v d

section
variable {K : Kc} {R H : Hp} {v : V}
/-- as a list, a tuple -/
theorem Rb.list {ds : List Dt} (e : Same R H) : Rb K R H v (.list ds) → ∃ a xs, v = .ref a ∧ Rd H a (.lst xs) ∧ RpL K R xs ds
  | .sh h => by
    cases h with
    | lst h1 h2 => exact ⟨_, _, rfl, rd_mono e h1, h2⟩
  | .ow hv h => by
    cases h with
    | lst h1 h2 => exact ⟨_, _, hv, .inl h1, h2⟩
theorem Rb.tuple {ds : List Dt} (e : Same R H) : Rb K R H v (.tuple ds) → ∃ a xs, v = .ref a ∧ Tq K H a xs ∧ RpL K R xs ds
  | .sh h => by
    cases h with
    | tup h1 h2 => exact ⟨_, _, rfl, tq_mono e h1, h2⟩
  | .ow hv h => by cases h
theorem Rb.int {i : Int} : Rb K R H v (.int i) → v = .int i
  | .sh h => by cases h; rfl
  | .ow _ h => by cases h
theorem Rb.bool {i : Bool} : Rb K R H v (.bool i) → v = .bl i
  | .sh h => by cases h; rfl
  | .ow _ h => by cases h
theorem Rb.str {i : Str} : Rb K R H v (.str i) → v = .str i
  | .sh h => by cases h; rfl
  | .ow _ h => by cases h
theorem Rb.non : Rb K R H v .none → v = .non
  | .sh h => by cases h; rfl
  | .ow _ h => by cases h
theorem Rp.isInt {i : Int} (h : Rp K R v (.int i)) : v = .int i := by cases h; rfl
theorem Rp.isBool {i : Bool} (h : Rp K R v (.bool i)) : v = .bl i := by cases h; rfl
theorem Rb.dp {d : Dt} (e : Same R H) (c : PyData.canLay0 d = true) : Rb K R H v d → Dp K.f H v d
  | .sh h => (h.mono e).dp c
  | .ow hv h => by
    subst hv
    cases h with
    | lst h1 h2 => exact .lst (SqL.of h1) ((h2.mono e).dp (by simpa [PyData.canLay0] using c))
    | dK h1 h2 => simp [PyData.canLay0] at c
    | dT h1 h2 => simp [PyData.canLay0] at c
end

/-! ### how regions grow -/
structure Ext (sp : Option Addr) (R H R' H' : Hp) : Prop where
  r : Same R R'
  le : Same R' H'
  fresh : ∀ a o, R' a = some o → R a = some o ∨ H a = none ∨ (sp ≠ some a ∧ ∃ xs, H a = some (.tup xs))
  keep : ∀ a o, H a = some o → sp ≠ some a → H' a = some o
  dom : ∀ a o, H a = some o → ∃ o', H' a = some o'
theorem Ext.refl {sp : Option Addr} {R H : Hp} (e : Same R H) : Ext sp R H R H := ⟨Same.refl _, e, fun _ _ h => .inl h, fun _ _ h _ => h, fun _ o h => ⟨o, h⟩⟩
theorem Ext.trans {sp : Option Addr} {R H R1 H1 R2 H2 : Hp} (a : Ext sp R H R1 H1) (b : Ext sp R1 H1 R2 H2) : Ext sp R H R2 H2 := by
  refine ⟨a.r.trans b.r, b.le, fun c o h => ?_, fun c o h n => b.keep c o (a.keep c o h n) n, fun c o h => ?_⟩
  · rcases b.fresh c o h with q | q | ⟨n, xs, q⟩
    · exact a.fresh c o q
    · right; left
      cases z : H c with
      | none => rfl
      | some u =>
        obtain ⟨o', h'⟩ := a.dom c u z
        rw [q] at h'; cases h'
    · right
      cases z : H c with
      | none => exact .inl rfl
      | some u =>
        have := a.keep c u z n
        rw [q] at this; cases this
        exact .inr ⟨n, xs, rfl⟩
  · obtain ⟨o', h'⟩ := a.dom c o h
    exact b.dom c o' h'
theorem Ext.stay {K : Kc} {sp : Option Addr} {R H R' H' : Hp} {a : Addr} {d : Dt} (e : Ext sp R H R' H') (h1 : R a = none) (h2 : Ob K R H a d) : R' a = none := by
  cases q : R' a with
  | none => rfl
  | some u =>
    rcases e.fresh a u q with z | z | ⟨_, xs, z⟩
    · rw [h1] at z; cases z
    · obtain ⟨o, h2⟩ := h2.there
      rw [h2] at z; cases z
    · cases h2 with
      | lst h _ => rw [h] at z; cases z
      | dK h _ => rw [h] at z; cases z
      | dT h _ => rw [h] at z; cases z
/-- a new object that joins the region -/
theorem Ext.new {sp : Option Addr} {R H : Hp} {p : Addr} {o : HO} (e : Same R H) (hp : H p = none) : Ext sp R H (upd R p o) (upd H p o) := by
  have hr : R p = none := e.free hp
  refine ⟨fun a u h => ?_, fun a u h => ?_, fun a u h => ?_, fun a u h _ => ?_, fun a u h => ?_⟩
  · rw [upd_ne (ne_of_none h hr)]; exact h
  · by_cases q : a = p
    · subst q; rw [upd_same] at h ⊢; exact h
    · rw [upd_ne q] at h ⊢; exact e _ _ h
  · by_cases q : a = p
    · subst q; exact .inr (.inl hp)
    · rw [upd_ne q] at h; exact .inl h
  · rw [upd_ne (ne_of_none h hp)]; exact h
  · exact ⟨u, by rw [upd_ne (ne_of_none h hp)]; exact h⟩
/-- a new object that stays outside -/
theorem Ext.newO {sp : Option Addr} {R H : Hp} {p : Addr} {o : HO} (e : Same R H) (hp : H p = none) : Ext sp R H R (upd H p o) := by
  refine ⟨Same.refl _, fun a u h => ?_, fun a u h => .inl h, fun a u h _ => ?_, fun a u h => ?_⟩
  · rw [upd_ne (ne_of_none (e _ _ h) hp)]; exact e _ _ h
  · rw [upd_ne (ne_of_none h hp)]; exact h
  · exact ⟨u, by rw [upd_ne (ne_of_none h hp)]; exact h⟩

/-! ### a def's slots -/
inductive Sl where
  | no
  | sh (d : Dt)
  | own (d : Dt)
  | cell

def SlOk (K : Kc) (sp : Option Addr) (R H : Hp) (x : Option (Option V)) : Sl → Prop
  | .no => True
  | .sh d => ∃ v, x = some (some v) ∧ Rp K R v d
  | .own d => ∃ a, x = some (some (.ref a)) ∧ R a = none ∧ Ob K R H a d
  | .cell => ∃ a, x = some (some (.ref a)) ∧ sp = some a

structure SRel (K : Kc) (sp : Option Addr) (R H : Hp) (σ : St) (ρ : List Sl) (c : Dt) : Prop where
  le : Same R H
  len : ρ.length = σ.length
  slot : ∀ (i : Nat) (x : Sl), ρ[i]? = some x → SlOk K sp R H σ[i]? x
  sep : ∀ (i j : Nat) (di dj : Dt) (a : Addr), ρ[i]? = some (.own di) → ρ[j]? = some (.own dj) → σ[i]? = some (some (.ref a)) → σ[j]? = some (some (.ref a)) → i = j
  cel : ∀ a, sp = some a → R a = none ∧ Ob K R H a c
  celO : ∀ (a : Addr) (i : Nat) (d : Dt), sp = some a → ρ[i]? = some (.own d) → σ[i]? ≠ some (some (.ref a))

section
variable {K : Kc} {sp : Option Addr} {R H R' H' : Hp} {σ : St} {ρ : List Sl} {c c' : Dt}
/-- behind an expression -/
theorem SRel.ext (S : SRel K sp R H σ ρ c) (e : Ext sp R H R' H') (hc : ∀ a, sp = some a → Ob K R' H' a c') : SRel K sp R' H' σ ρ c' := by
  have stay : ∀ {a : Addr} {d : Dt}, R a = none → Ob K R H a d → R' a = none := fun {a d} h1 h2 => e.stay h1 h2
  refine ⟨e.le, S.len, fun i x h => ?_, S.sep, fun a h => ⟨stay (S.cel a h).1 (S.cel a h).2, hc a h⟩, S.celO⟩
  have q := S.slot i x h
  cases x with
  | no => exact True.intro
  | sh d =>
    obtain ⟨v, h1, h2⟩ := q
    exact ⟨v, h1, h2.mono e.r⟩
  | own d =>
    obtain ⟨a, h1, h2, h3⟩ := q
    refine ⟨a, h1, stay h2 h3, h3.mono e.r fun o h' => e.keep a o h' fun z => ?_⟩
    exact S.celO a i d z h h1
  | cell => exact q
/-- a slot gets shared data -/
theorem SRel.put (S : SRel K sp R H σ ρ c) {v : V} {d : Dt} (r : Rp K R v d) (i : Nat) : SRel K sp R H (σ.set i (some v)) (ρ.set i (.sh d)) c := by
  refine ⟨S.le, by rw [List.length_set, List.length_set]; exact S.len, fun j x h => ?_, fun j k dj dk a h1 h2 h3 h4 => ?_, S.cel, fun a j dj hs h1 h2 => ?_⟩
  · by_cases e : i = j
    · subst e
      have hl : i < ρ.length := by have := (List.getElem?_eq_some_iff.mp h).1; rwa [List.length_set] at this
      rw [List.getElem?_set_self hl] at h; cases h
      exact ⟨v, List.getElem?_set_self (by rw [← S.len]; exact hl), r⟩
    · rw [List.getElem?_set_ne e] at h ⊢
      exact S.slot j x h
  · have n1 : i ≠ j := fun e => by
      subst e
      by_cases hl : i < ρ.length
      · rw [List.getElem?_set_self hl] at h1; cases h1
      · rw [List.getElem?_eq_none (by rw [List.length_set]; omega)] at h1; cases h1
    have n2 : i ≠ k := fun e => by
      subst e
      by_cases hl : i < ρ.length
      · rw [List.getElem?_set_self hl] at h2; cases h2
      · rw [List.getElem?_eq_none (by rw [List.length_set]; omega)] at h2; cases h2
    rw [List.getElem?_set_ne n1] at h1 h3
    rw [List.getElem?_set_ne n2] at h2 h4
    exact S.sep j k dj dk a h1 h2 h3 h4
  · have n1 : i ≠ j := fun e => by
      subst e
      by_cases hl : i < ρ.length
      · rw [List.getElem?_set_self hl] at h1; cases h1
      · rw [List.getElem?_eq_none (by rw [List.length_set]; omega)] at h1; cases h1
    rw [List.getElem?_set_ne n1] at h1 h2
    exact S.celO a j dj hs h1 h2
end
end Pv
end
section
set_option Elab.async false
set_option linter.all false
set_option maxRecDepth 100000
/-! Pv.B: a small language of its own for the defs' bodies, and what its words reckon over plain data. -/
namespace Pv
open PySem PySem.Spec L2

/-- the constants that a def names; whether tuples of the module are data -/
structure Ct where
  l : List Dt
  kt : Bool
/-! ### what the words reckon -/
abbrev line : Nat := 16777216

def addD : Dt → Dt → Option Dt
  | .int i, .int j => some (.int (i + j))
  | .str x, .str y => if x.length + y.length ≤ line then some (.str (x ++ y)) else none
  | .list xs, .list ys => if xs.length + ys.length ≤ line then some (.list (xs ++ ys)) else none
  | .tuple xs, .tuple ys => if xs.length + ys.length ≤ line then some (.tuple (xs ++ ys)) else none
  | _, _ => none
def mulD : Dt → Dt → Option Dt
  | .int i, .int j => if i.natAbs.log2 + j.natAbs.log2 < 1000000 then some (.int (i * j)) else none
  | _, _ => none
def repD : Dt → Dt → Option Dt
  | .list xs, .int k => if -(2 ^ 63) ≤ k ∧ k < 2 ^ 63 ∧ xs.length * k.toNat ≤ line then some (.list (List.replicate k.toNat xs).flatten) else none
  | _, _ => none
def binD (op : Operator) (a b : Dt) : Option Dt :=
  match op with
  | .Add => addD a b
  | .Sub => match a, b with
    | .int i, .int j => some (.int (i - j))
    | _, _ => none
  | .Mult => mulD a b
  | .FloorDiv => match a, b with
    | .int i, .int j => if 0 < j ∧ j.natAbs.log2 < 9000 then some (.int (i / j)) else none
    | _, _ => none
  | .Mod => match a, b with
    | .int i, .int j => if 0 < j then some (.int (i % j)) else none
    | _, _ => none
  | .Pow => match a, b with
    | .int i, .int j => if 0 ≤ j ∧ j ≤ 1000000 ∧ i.natAbs < 2 ^ 64 then some (.int (i ^ j.toNat)) else none
    | _, _ => none
  | _ => none

def flatD : Dt → Bool
  | .none => true
  | .bool _ => true
  | .int _ => true
  | .str _ => true
  | _ => false
/-- a key of a dict that is an int or a text -/
def keyD : Dt → Option Key
  | .int i => some (.inl i)
  | .str x => some (.inr x)
  | _ => none
def keysD : List Dt → Option (List Key)
  | [] => some []
  | d :: ds => match keyD d, keysD ds with
    | some k, some ks => some (k :: ks)
    | _, _ => none
/-- what a dict with scalar keys holds -/
def getK : List (Dt × Dt) → Key → Option (Option Dt)
  | [], _ => some none
  | (k', v) :: r, k => match keyD k' with
    | some j => if j = k then some (some v) else getK r k
    | none => none
def getT : List (Dt × Dt) → List Key → Option (Option Dt)
  | [], _ => some none
  | (k', v) :: r, k => match k' with
    | .tuple ds => match keysD ds with
      | some j => if j = k then some (some v) else getT r k
      | none => none
    | _ => none
/-- look up: none is a fault; some none: not there -/
def getD (kt : Bool) (kvs : List (Dt × Dt)) (k : Dt) : Option (Option Dt) :=
  match k with
  | .tuple ds => if kt = true then none else match keysD ds with
    | some j => getT kvs j
    | none => none
  | _ => match keyD k with
    | some j => getK kvs j
    | none => none
def inD (kt : Bool) (d c : Dt) : Option Bool :=
  match c with
  | .list ds => if SeqAt.shaped d = true ∧ SeqAt.shaped (.list ds) = true then some (ds.any fun z => PyData.eqv z d) else none
  | .tuple ds => if flatD d = true ∧ ds.all flatD = true then some (ds.any fun z => PyData.eqv z d) else none
  | .dict kvs => (getD kt kvs d).map Option.isSome
  | _ => none
def isNonD : Dt → Bool
  | .none => true
  | _ => false
def cmpD (kt : Bool) (op : CmpOp) (a b : Dt) : Option Bool :=
  match op with
  | .Eq => if SeqAt.shaped a = true ∧ SeqAt.shaped b = true then some (PyData.eqv a b) else none
  | .NotEq => if SeqAt.shaped a = true ∧ SeqAt.shaped b = true then some (!PyData.eqv a b) else none
  | .Lt => match a, b with
    | .int i, .int j => some (decide (i < j))
    | _, _ => none
  | .LtE => match a, b with
    | .int i, .int j => some (decide (i ≤ j))
    | _, _ => none
  | .Gt => match a, b with
    | .int i, .int j => some (decide (j < i))
    | _, _ => none
  | .GtE => match a, b with
    | .int i, .int j => some (decide (j ≤ i))
    | _, _ => none
  | .In => inD kt a b
  | .NotIn => (inD kt a b).map Bool.not
  | .Is => match a, b with
    | a, .none => some (isNonD a)
    | .bool x, .bool y => some (decide (x = y))
    | _, _ => none
  | .IsNot => match a, b with
    | a, .none => some (!isNonD a)
    | .bool x, .bool y => some (!decide (x = y))
    | _, _ => none

def atD (xs : List Dt) (i : Int) : Option Dt := atI xs i
def ixD (kt : Bool) (a b : Dt) : Option Dt :=
  match a, b with
  | .list xs, .int i => atI xs i
  | .tuple xs, .int i => atI xs i
  | .dict kvs, k => match getD kt kvs k with
    | some (some v) => some v
    | _ => none
  | _, _ => none
def cutD (xs : List Dt) (lo hi : Option Int) : List Dt := (xs.drop (HT.sIx xs.length 0 lo)).take (HT.sIx xs.length xs.length hi - HT.sIx xs.length 0 lo)
def slD (a : Dt) (lo hi : Option Int) : Option Dt :=
  match a with
  | .list xs => some (.list (cutD xs lo hi))
  | .tuple xs => some (.tuple (cutD xs lo hi))
  | _ => none
def intsD : List Dt → Option (List Int)
  | [] => some []
  | .int i :: r => match intsD r with
    | some l => some (i :: l)
    | none => none
  | _ :: _ => none
def boolsD : List Dt → Option (List Bool)
  | [] => some []
  | .bool i :: r => match boolsD r with
    | some l => some (i :: l)
    | none => none
  | _ :: _ => none

/-- built-in functions -/
inductive Bt where
  | len | abs | int | sum | min | max | all | any | list | tuple | divmod | repr | gcd | sorted
  deriving DecidableEq
def Bt.name : Bt → Str
  | .len => "len" | .abs => "abs" | .int => "int" | .sum => "sum" | .min => "min" | .max => "max" | .all => "all" | .any => "any"
  | .list => "list" | .tuple => "tuple" | .divmod => "divmod" | .repr => "repr" | .gcd => "gcd" | .sorted => "sorted"
def maxL : List Int → Int
  | [] => 0
  | [x] => x
  | x :: r => let m := maxL r; if m > x then m else x
def minL : List Int → Int
  | [] => 0
  | [x] => x
  | x :: r => let m := minL r; if m < x then m else x
def insI (x : Int) : List Int → List Int
  | [] => [x]
  | y :: r => if x ≤ y then x :: y :: r else y :: insI x r
def sortI : List Int → List Int
  | [] => []
  | x :: r => insI x (sortI r)
def isTupD : Dt → Bool
  | .tuple _ => true
  | _ => false
def btD (b : Bt) (as : List Dt) : Option Dt :=
  match b, as with
  | .len, [.list xs] => some (.int xs.length)
  | .len, [.tuple xs] => some (.int xs.length)
  | .abs, [.int i] => some (.int (if i < 0 then -i else i))
  | .int, [.int i] => some (.int i)
  | .sum, [.list xs] => (intsD xs).map fun l => .int l.sum
  | .min, [.int i, .int j] => some (.int (if j < i then j else i))
  | .max, [.int i, .int j] => some (.int (if j > i then j else i))
  | .min, [.list xs] => match intsD xs with
    | some (x :: r) => some (.int (minL (x :: r)))
    | _ => none
  | .max, [.list xs] => match intsD xs with
    | some (x :: r) => some (.int (maxL (x :: r)))
    | _ => none
  | .all, [.list xs] => (boolsD xs).map fun l => .bool (l.all id)
  | .any, [.list xs] => (boolsD xs).map fun l => .bool (l.any id)
  | .list, [.list xs] => some (.list xs)
  | .list, [.tuple xs] => some (.list xs)
  | .tuple, [.list xs] => some (.tuple xs)
  | .tuple, [.tuple xs] => some (.tuple xs)
  | .divmod, [.int i, .int j] => if 0 < j ∧ j < 1073741824 then some (.tuple [.int (i / j), .int (i % j)]) else none
  | .gcd, [.int i, .int j] => some (.int ((Nat.gcd i.natAbs j.natAbs : Nat) : Int))
  | .repr, [d] => if d.showable = true ∧ d.depth ≤ 64 ∧ PyData.canLay0 d = true ∧ d.shown.length ≤ line then some (.str d.shown) else none
  | .sorted, [.list xs] => (intsD xs).map fun l => .list ((sortI l).map .int)
  | .len, [.dict kvs] => if (kvs.all fun p => isTupD p.1) = true ∧ kvs.isEmpty = false then some (.int kvs.length) else none
  | _, _ => none
/-- classes of isinstance -/
inductive Ty where
  | int | bool | tuple | list | str | dict
  deriving DecidableEq
def Ty.name : Ty → String
  | .int => "int" | .bool => "bool" | .tuple => "tuple" | .list => "list" | .str => "str" | .dict => "dict"
def isD (t : Ty) (d : Dt) : Bool :=
  match t, d with
  | .int, .int _ => true
  | .int, .bool _ => true
  | .bool, .bool _ => true
  | .tuple, .tuple _ => true
  | .list, .list _ => true
  | .str, .str _ => true
  | .dict, .dict _ => true
  | _, _ => false
/-- methods that only read -/
inductive Mt where
  | count | get
  deriving DecidableEq
def Mt.name : Mt → Str
  | .count => "count" | .get => "get"
def countD (o : Dt) (as : List Dt) : Option Dt :=
  match o, as with
  | .list xs, [.int k] => (intsD xs).map fun l => .int (l.count k : Nat)
  | _, _ => none
def getdD (kt : Bool) (o : Dt) (as : List Dt) : Option Dt :=
  match o, as with
  | .dict kvs, [k, d] => (getD kt kvs k).map fun o => o.getD d
  | _, _ => none
def mtD (kt : Bool) (m : Mt) (o : Dt) (as : List Dt) : Option Dt :=
  match m with
  | .count => countD o as
  | .get => getdD kt o as
theorem countD_some {o : Dt} {as : List Dt} {d : Dt} (h : countD o as = some d) : ∃ xs k ns, o = .list xs ∧ as = [.int k] ∧ intsD xs = some ns ∧ d = .int (ns.count k : Nat) := by
  unfold countD at h
  split at h
  · obtain ⟨l, h1, h2⟩ := Option.map_eq_some_iff.mp h
    exact ⟨_, _, l, rfl, rfl, h1, h2.symm⟩
  · cases h
theorem getdD_some {kt : Bool} {o : Dt} {as : List Dt} {d : Dt} (h : getdD kt o as = some d) : ∃ kvs k e w, o = .dict kvs ∧ as = [k, e] ∧ getD kt kvs k = some w ∧ d = w.getD e := by
  unfold getdD at h
  split at h
  · obtain ⟨l, h1, h2⟩ := Option.map_eq_some_iff.mp h
    exact ⟨_, _, _, l, rfl, rfl, h1, h2.symm⟩
  · cases h

/-! ### the words -/
inductive Tg where
  | nm (i : Nat)
  | tp (is : List Nat)

mutual
inductive IE where
  | var (i : Nat) | bor (i : Nat) | cst (k : Nat)
  | int (i : Int) | str (s : Str) | bl (b : Bool) | non
  | bin (op : Operator) (a b : IE) | rep (a b : IE) | neg (a : IE) | not_ (a : IE)
  | cmp (op : CmpOp) (a b : IE) | chain (op op' : CmpOp) (a b c : IE)
  | bop (isAnd : Bool) (es : IEs) | ife (c a b : IE)
  | ix (a b : IE) | cix (i : Nat) (k : Key) | sl (a : IE) (lo hi : IEs) | rev (a : IE)
  | tup (es : IEs) | lst (es : IEs)
  | call (k : Nat) (es : IEs) | callK (k : Nat) (es ws : IEs) (perm : List Nat)
  | bt (b : Bt) (es : IEs) | xv (mx : Bool) (a : IE) | isi (t : Ty) (a : IE) | meth (m : Mt) (o : IE) (es : IEs)
  | rngL (isT : Bool) (es : IEs)
  | dct (ks : List Key) (es : IEs)
  | callW (k k2 : Nat) (es : IEs)
  | comp (own : List (Str × Nat)) (tg : Tg) (it : II) (ifs : IEs) (elt : IE)
  | comp2 (own : List (Str × Nat)) (tg : Tg) (it : II) (ifs : IEs) (tg2 : Tg) (it2 : II) (ifs2 : IEs) (elt : IE)
inductive IEs where
  | nil
  | cons (e : IE) (r : IEs)
  | star (e : IE) (r : IEs)
  | cel (i : Nat) (r : IEs)
inductive II where
  | seq (e : IE)
  | range (es : IEs)
  | enum (e : IE)
  | zip (a b : IE)
  | vals (e : IE)
  | items (e : IE)
end

mutual
inductive IS where
  | asg (tg : Tg) (e : IE)
  | asgO (i : Nat) (e : IE)
  | asgMv (i j : Nat)
  | asgP (is : List Nat) (os : List Bool) (es : IEs)
  | asgSN (i : Nat) (ixe : IE) (j : Nat) (e : IE)
  | frz (i : Nat)
  | setI (i : Nat) (ixe e : IE)
  | app (i : Nat) (e : IE)
  | extd (i : Nat) (e : IE)
  | ife (c : IE) (a b : ISs)
  | for_ (tg : Tg) (it : II) (body : ISs)
  | whl (c : IE) (body : ISs)
  | ret (e : IE)
  | retO (i : Nat)
  | retF (e : IE)
  | drop (e : IE)
  | pass
  | never
inductive ISs where
  | nil
  | cons (s : IS) (r : ISs)
end

abbrev Fn := List Sl → Dt → Option (Dt × Dt)

/-! ### evaluation -/
def putTg (tg : Tg) (d : Dt) (ρ : List Sl) : Option (List Sl) :=
  match tg with
  | .nm i => some (ρ.set i (.sh d))
  | .tp is => match d with
    | .tuple ds => if ds.length = is.length then some ((is.zip ds).foldl (fun r p => r.set p.1 (.sh p.2)) ρ) else none
    | .list ds => if ds.length = is.length then some ((is.zip ds).foldl (fun r p => r.set p.1 (.sh p.2)) ρ) else none
    | _ => none
def wipeS (ρ : List Sl) : List Nat → List Sl
  | [] => ρ
  | v :: vs => (wipeS ρ vs).set v .no
def tgIx : Tg → List Nat
  | .nm i => [i]
  | .tp is => is
def allSh : List Sl → Option (List Dt)
  | [] => some []
  | .sh d :: r => match allSh r with
    | some l => some (d :: l)
    | none => none
  | _ :: _ => none
/-- items of what a for walks -/
def itemsD : Dt → Option (List Dt)
  | .list xs => some xs
  | .tuple xs => some xs
  | .dict kvs => some (kvs.map (·.1))
  | _ => none
def valsD : Dt → Option (List Dt)
  | .dict kvs => some (kvs.map (·.2))
  | _ => none
def pairsD : Dt → Option (List Dt)
  | .dict kvs => some (kvs.map fun p => .tuple [p.1, p.2])
  | _ => none
def rangeD (as : List Dt) : Option (Int × Nat) :=
  match as with
  | [.int n] => if n.toNat ≤ line ∧ -(2 ^ 62) ≤ n then some (0, n.toNat) else none
  | [.int a, .int b] => if (b - a).toNat ≤ line ∧ -(2 ^ 62) ≤ a ∧ a < 2 ^ 62 ∧ -(2 ^ 62) ≤ b ∧ b < 2 ^ 62 then some (a, (b - a).toNat) else none
  | _ => none
def rngD (p : Int × Nat) : List Dt := (List.range p.2).map fun i => .int (p.1 + (i : Nat))
def enumD : Nat → List Dt → List Dt
  | _, [] => []
  | n, d :: r => .tuple [.int (n : Nat), d] :: enumD (n + 1) r
def seqD : Dt → Option (List Dt)
  | .list xs => some xs
  | .tuple xs => some xs
  | _ => none
def zipD : List Dt → List Dt → List Dt
  | a :: r, b :: q => .tuple [a, b] :: zipD r q
  | _, _ => []
/-- a comprehension's turns -/
def compGo (f : Dt → Dt → Option (List Dt × Dt)) : List Dt → Dt → Option (List Dt × Dt)
  | [], c => some ([], c)
  | d :: ds, c => match f d c with
    | some (ys, c1) => match compGo f ds c1 with
      | some (zs, c2) => some (ys ++ zs, c2)
      | none => none
    | none => none
/-- flow -/
inductive Fl where
  | nx (ρ : List Sl) (c : Dt)
  | rt (d : Dt) (c : Dt)
def forGo (f : Dt → List Sl → Dt → Option Fl) : List Dt → List Sl → Dt → Option Fl
  | [], ρ, c => some (.nx ρ c)
  | d :: ds, ρ, c => match f d ρ c with
    | some (.nx ρ1 c1) => forGo f ds ρ1 c1
    | r => r
def whlGo (t : List Sl → Dt → Option (Dt × Dt)) (f : List Sl → Dt → Option Fl) : Nat → List Sl → Dt → Option Fl
  | 0, _, _ => none
  | n + 1, ρ, c => match t ρ c with
    | some (.bool true, c1) => match f ρ c1 with
      | some (.nx ρ2 c2) => whlGo t f n ρ2 c2
      | r => r
    | some (.bool false, c1) => some (.nx ρ c1)
    | _ => none
/-- the data at slot i, whatever it is -/
def slotD (ρ : List Sl) (i : Nat) : Option Dt :=
  match ρ[i]? with
  | some (.sh d) => some d
  | some (.own d) => some d
  | _ => none
def slotC (ρ : List Sl) (i : Nat) : Bool :=
  match ρ[i]? with
  | some .cell => true
  | _ => false
def slotS (ρ : List Sl) (i : Nat) : Option Dt :=
  match ρ[i]? with
  | some (.sh d) => some d
  | _ => none
def oneInt : List Sl → Option (Option Int)
  | [] => some none
  | [.sh (.int i)] => some (some i)
  | _ => none

def permute {α : Type} (perm : List Nat) (l : List α) : List α := perm.filterMap fun j => l[j]?
def ownable : Dt → Bool
  | .list _ => true
  | .dict _ => true
  | _ => false

section
variable (Φ : List Fn) (ct : Ct)
mutual
def evE : IE → List Sl → Dt → Option (Dt × Dt)
  | .var i, ρ, c => (slotS ρ i).map fun d => (d, c)
  | .bor i, ρ, c => (slotD ρ i).map fun d => (d, c)
  | .cst k, _, c => ct.l[k]?.map fun d => (d, c)
  | .int i, _, c => some (.int i, c)
  | .str x, _, c => some (.str x, c)
  | .bl b, _, c => some (.bool b, c)
  | .non, _, c => some (.none, c)
  | .bin op a b, ρ, c => match evE a ρ c with
    | some (x, c1) => match evE b ρ c1 with
      | some (y, c2) => (binD op x y).map fun d => (d, c2)
      | none => none
    | none => none
  | .rep a b, ρ, c => match evE a ρ c with
    | some (x, c1) => match evE b ρ c1 with
      | some (y, c2) => (repD x y).map fun d => (d, c2)
      | none => none
    | none => none
  | .neg a, ρ, c => match evE a ρ c with
    | some (.int i, c1) => some (.int (-i), c1)
    | _ => none
  | .not_ a, ρ, c => match evE a ρ c with
    | some (.bool b, c1) => some (.bool (!b), c1)
    | _ => none
  | .cmp op a b, ρ, c => match evE a ρ c with
    | some (x, c1) => match evE b ρ c1 with
      | some (y, c2) => (cmpD ct.kt op x y).map fun d => (.bool d, c2)
      | none => none
    | none => none
  | .chain op op' a b e, ρ, c => match evE a ρ c with
    | some (x, c1) => match evE b ρ c1 with
      | some (y, c2) => match cmpD ct.kt op x y with
        | some true => match evE e ρ c2 with
          | some (z, c3) => (cmpD ct.kt op' y z).map fun d => (.bool d, c3)
          | none => none
        | some false => some (.bool false, c2)
        | none => none
      | none => none
    | none => none
  | .bop isAnd es, ρ, c => evB isAnd es ρ c
  | .ife t a b, ρ, c => match evE t ρ c with
    | some (.bool true, c1) => evE a ρ c1
    | some (.bool false, c1) => evE b ρ c1
    | _ => none
  | .ix a b, ρ, c => match evE a ρ c with
    | some (x, c1) => match evE b ρ c1 with
      | some (y, c2) => (ixD ct.kt x y).map fun d => (d, c2)
      | none => none
    | none => none
  | .cix i k, ρ, c => if slotC ρ i = true then (ixD ct.kt c (kD k)).map fun d => (d, c) else none
  | .sl a lo hi, ρ, c => match evE a ρ c with
    | some (x, c1) => match evEs lo ρ c1 with
      | some (l, c2) => match evEs hi ρ c2 with
        | some (h, c3) => match oneInt l, oneInt h with
          | some l', some h' => (slD x l' h').map fun d => (d, c3)
          | _, _ => none
        | none => none
      | none => none
    | none => none
  | .rev a, ρ, c => match evE a ρ c with
    | some (.list xs, c1) => some (.list xs.reverse, c1)
    | some (.tuple xs, c1) => some (.tuple xs.reverse, c1)
    | _ => none
  | .tup es, ρ, c => match evEs es ρ c with
    | some (l, c1) => match allSh l with
      | some ds => if ds.length ≤ line then some (.tuple ds, c1) else none
      | none => none
    | none => none
  | .lst es, ρ, c => match evEs es ρ c with
    | some (l, c1) => match allSh l with
      | some ds => if ds.length ≤ line then some (.list ds, c1) else none
      | none => none
    | none => none
  | .call k es, ρ, c => match evEs es ρ c with
    | some (l, c1) => match Φ[k]? with
      | some f => f l c1
      | none => none
    | none => none
  | .callK k es ws perm, ρ, c => match evEs es ρ c with
    | some (l, c1) => match evEs ws ρ c1 with
      | some (m, c2) => match Φ[k]? with
        | some f => f (permute perm (l ++ m)) c2
        | none => none
      | none => none
    | none => none
  | .bt b es, ρ, c => match evEs es ρ c with
    | some (l, c1) => match allSh l with
      | some ds => (btD b ds).map fun d => (d, c1)
      | none => none
    | none => none
  | .xv mx a, ρ, c => match evE a ρ c with
    | some (.dict kvs, c1) => if (kvs.all fun p => isTupD p.1) = true then match intsD (kvs.map (·.2)) with
      | some (x :: r) => some (.int (if mx = true then maxL (x :: r) else minL (x :: r)), c1)
      | _ => none else none
    | _ => none
  | .isi t a, ρ, c => match evE a ρ c with
    | some (x, c1) => some (.bool (isD t x), c1)
    | none => none
  | .meth m o es, ρ, c => match evE o ρ c with
    | some (x, c1) => match evEs es ρ c1 with
      | some (l, c2) => match allSh l with
        | some ds => (mtD ct.kt m x ds).map fun d => (d, c2)
        | none => none
      | none => none
    | none => none
  | .rngL isT es, ρ, c => match evEs es ρ c with
    | some (l, c1) => match allSh l with
      | some ds => (rangeD ds).map fun p => (if isT then .tuple (rngD p) else .list (rngD p), c1)
      | none => none
    | none => none
  | .dct ks es, ρ, c => match evEs es ρ c with
    | some (l, c1) => match allSh l with
      | some ds => if ds.length = ks.length then some (.dict ((ks.map kD).zip ds), c1) else none
      | none => none
    | none => none
  | .callW k k2 es, ρ, c => match evEs es ρ c with
    | some (l, c1) => match Φ[k2]? with
      | some g => match g l c1 with
        | some (d, c2) => if ownable d = true then
            match Φ[k]? with
            | some f => (f [.cell] d).map fun p => (p.1, c2)
            | none => none
          else none
        | none => none
      | none => none
    | none => none
  | .comp own tg it ifs elt, ρ, c => match evI it ρ c with
    | some (xs, c1) => match compGo (fun d c => match putTg tg d (wipeS ρ (own.map (·.2))) with
        | some ρ1 => match evB true ifs ρ1 c with
          | some (.bool true, c2) => match evE elt ρ1 c2 with
            | some (y, c3) => some ([y], c3)
            | none => none
          | some (.bool false, c2) => some ([], c2)
          | _ => none
        | none => none) xs c1 with
      | some (ys, c2) => some (.list ys, c2)
      | none => none
    | none => none
  | .comp2 own tg it ifs tg2 it2 ifs2 elt, ρ, c => match evI it ρ c with
    | some (xs, c1) => match compGo (fun d c => match putTg tg d (wipeS ρ (own.map (·.2))) with
        | some ρ1 => match evB true ifs ρ1 c with
          | some (.bool true, c2) => match evI it2 ρ1 c2 with
            | some (zs, c3) => compGo (fun d c => match putTg tg2 d (wipeS ρ1 (tgIx tg2)) with
              | some ρ2 => match evB true ifs2 ρ2 c with
                | some (.bool true, c2) => match evE elt ρ2 c2 with
                  | some (y, c3) => some ([y], c3)
                  | none => none
                | some (.bool false, c2) => some ([], c2)
                | _ => none
              | none => none) zs c3
            | none => none
          | some (.bool false, c2) => some ([], c2)
          | _ => none
        | none => none) xs c1 with
      | some (ys, c2) => if ys.length ≤ line then some (.list ys, c2) else none
      | none => none
    | none => none
def evEs : IEs → List Sl → Dt → Option (List Sl × Dt)
  | .nil, _, c => some ([], c)
  | .cons e r, ρ, c => match evE e ρ c with
    | some (d, c1) => match evEs r ρ c1 with
      | some (l, c2) => some (.sh d :: l, c2)
      | none => none
    | none => none
  | .star e r, ρ, c => match evE e ρ c with
    | some (d, c1) => match seqD d with
      | some ds => match evEs r ρ c1 with
        | some (l, c2) => some (ds.map .sh ++ l, c2)
        | none => none
      | none => none
    | none => none
  | .cel i r, ρ, c => match ρ[i]? with
    | some .cell => match evEs r ρ c with
      | some (l, c2) => some (.cell :: l, c2)
      | none => none
    | _ => none
/-- and, or of bools; of none: true (a comprehension's tests) -/
def evB (isAnd : Bool) : IEs → List Sl → Dt → Option (Dt × Dt)
  | .nil, _, c => some (.bool isAnd, c)
  | .cons e r, ρ, c => match evE e ρ c with
    | some (.bool b, c1) => if b = isAnd then evB isAnd r ρ c1 else some (.bool b, c1)
    | _ => none
  | _, _, _ => none
def evI : II → List Sl → Dt → Option (List Dt × Dt)
  | .seq e, ρ, c => match evE e ρ c with
    | some (d, c1) => (itemsD d).map fun l => (l, c1)
    | none => none
  | .range es, ρ, c => match evEs es ρ c with
    | some (l, c1) => match allSh l with
      | some ds => (rangeD ds).map fun p => (rngD p, c1)
      | none => none
    | none => none
  | .enum e, ρ, c => match evE e ρ c with
    | some (d, c1) => (seqD d).map fun l => (enumD 0 l, c1)
    | none => none
  | .zip a b, ρ, c => match evE a ρ c with
    | some (x, c1) => match evE b ρ c1 with
      | some (y, c2) => match seqD x, seqD y with
        | some xs, some ys => some (zipD xs ys, c2)
        | _, _ => none
      | none => none
    | none => none
  | .vals e, ρ, c => match evE e ρ c with
    | some (d, c1) => (valsD d).map fun l => (l, c1)
    | none => none
  | .items e, ρ, c => match evE e ρ c with
    | some (d, c1) => (pairsD d).map fun l => (l, c1)
    | none => none
end

/-- stores -/
def putD (kvs : List (Dt × Dt)) (k v : Dt) : List (Dt × Dt) :=
  if (kvs.any fun p => PyData.eqv p.1 k) = true then kvs.map (fun p => if PyData.eqv p.1 k = true then (p.1, v) else p) else kvs ++ [(k, v)]
def storeD (kt : Bool) (o k v : Dt) : Option Dt :=
  match o, k with
  | .list xs, .int i => (ixN xs.length i).map fun j => .list (xs.set j v)
  | .dict kvs, k => match getD kt kvs k with
    | some _ => if kvs.length < line then some (.dict (putD kvs k v)) else none
    | none => none
  | _, _ => none
/-- slot i's own object, or the cell, becomes g of itself -/
def modS (ρ : List Sl) (i : Nat) (c : Dt) (g : Dt → Option Dt) : Option Fl :=
  match ρ[i]? with
  | some (.own d) => (g d).map fun d' => .nx (ρ.set i (.own d')) c
  | some .cell => (g c).map fun d' => .nx ρ d'
  | _ => none
def appD (x d : Dt) : Option Dt :=
  match d with
  | .list xs => if xs.length < line then some (.list (xs ++ [x])) else none
  | _ => none
def extD (x d : Dt) : Option Dt :=
  match d, x with
  | .list xs, .list ys => if xs.length + ys.length ≤ line then some (.list (xs ++ ys)) else none
  | _, _ => none
def putP (is : List Nat) (os : List Bool) (ds : List Dt) (ρ : List Sl) : List Sl :=
  match is, os, ds with
  | i :: is, o :: os, d :: ds => putP is os ds (ρ.set i (if o then .own d else .sh d))
  | _, _, _ => ρ

variable (F : Nat)
mutual
def evS : IS → List Sl → Dt → Option Fl
  | .asg tg e, ρ, c => match evE Φ ct e ρ c with
    | some (d, c1) => (putTg tg d ρ).map fun ρ' => .nx ρ' c1
    | none => none
  | .asgO i e, ρ, c => match evE Φ ct e ρ c with
    | some (d, c1) => if ownable d = true then some (.nx (ρ.set i (.own d)) c1) else none
    | none => none
  | .asgMv i j, ρ, c => match ρ[j]? with
    | some (.own d) => some (.nx ((ρ.set j .no).set i (.own d)) c)
    | _ => none
  | .asgP is os es, ρ, c => match evEs Φ ct es ρ c with
    | some (l, c1) => match allSh l with
      | some ds => if is.length = ds.length ∧ os.length = ds.length ∧ ((os.zip ds).all fun p => !p.1 || ownable p.2) = true then some (.nx (putP is os ds ρ) c1) else none
      | none => none
    | none => none
  | .asgSN i ixe j e, ρ, c => match evE Φ ct e ρ c with
    | some (.tuple [x, y], c1) => match evE Φ ct ixe ρ c1 with
      | some (k, c2) => match modS ρ i c2 (fun d => storeD ct.kt d k x) with
        | some (.nx ρ1 c3) => some (.nx (ρ1.set j (.sh y)) c3)
        | r => none
      | none => none
    | _ => none
  | .frz i, ρ, c => match ρ[i]? with
    | some (.own d) => some (.nx (ρ.set i (.sh d)) c)
    | some (.sh d) => some (.nx ρ c)
    | _ => none
  | .setI i ixe e, ρ, c => match evE Φ ct e ρ c with
    | some (d, c1) => match evE Φ ct ixe ρ c1 with
      | some (k, c2) => modS ρ i c2 fun o => storeD ct.kt o k d
      | none => none
    | none => none
  | .app i e, ρ, c => match evE Φ ct e ρ c with
    | some (d, c1) => match ρ[i]? with
      | some (.own o) => (appD d o).map fun o' => .nx (ρ.set i (.own o')) c1
      | _ => none
    | none => none
  | .extd i e, ρ, c => match evE Φ ct e ρ c with
    | some (d, c1) => match ρ[i]? with
      | some (.own o) => (extD d o).map fun o' => .nx (ρ.set i (.own o')) c1
      | _ => none
    | none => none
  | .ife t a b, ρ, c => match evE Φ ct t ρ c with
    | some (.bool true, c1) => evSs a ρ c1
    | some (.bool false, c1) => evSs b ρ c1
    | _ => none
  | .for_ tg it body, ρ, c => match evI Φ ct it ρ c with
    | some (xs, c1) => forGo (fun d ρ c => match putTg tg d ρ with
      | some ρ1 => evSs body ρ1 c
      | none => none) xs ρ c1
    | none => none
  | .whl t body, ρ, c => whlGo (fun ρ c => evE Φ ct t ρ c) (fun ρ c => evSs body ρ c) F ρ c
  | .ret e, ρ, c => (evE Φ ct e ρ c).map fun p => .rt p.1 p.2
  | .retO i, ρ, c => match ρ[i]? with
    | some (.own d) => some (.rt d c)
    | _ => none
  | .retF e, ρ, c => match evE Φ ct e ρ c with
    | some (d, c1) => if ownable d = true then some (.rt d c1) else none
    | none => none
  | .drop e, ρ, c => (evE Φ ct e ρ c).map fun p => .nx ρ p.2
  | .pass, ρ, c => some (.nx ρ c)
  | .never, _, _ => none
def evSs : ISs → List Sl → Dt → Option Fl
  | .nil, ρ, c => some (.nx ρ c)
  | .cons s r, ρ, c => match evS s ρ c with
    | some (.nx ρ1 c1) => evSs r ρ1 c1
    | q => q
end
/-- a def: its body at its arguments; n: how many names it has -/
def evF (np n : Nat) (body : ISs) : Fn := fun as c =>
  if as.length = np then
    match evSs Φ ct F body (as ++ List.replicate (n - as.length) .no) c with
    | some (.rt d c1) => some (d, c1)
    | some (.nx _ c1) => some (.none, c1)
    | none => none
  else none
end
end Pv
end
section
set_option Elab.async false
set_option linter.all false
set_option maxRecDepth 100000
/-! Pv.C: which syntax a word stands for. -/
namespace Pv
open PySem PySem.Spec L2

/-- what a def's text may name: callees with their parameters (true: hands back an object of its own), constants -/
structure Tb where
  cs : List (Str × List Str × Bool)
  cn : List Str
  gcd : Bool
def notStar : Expr → Bool
  | .Starred .. => false
  | _ => true
def noStar (l : List Expr) : Bool := l.all notStar
def notSet : Expr → Bool
  | .Set .. => false
  | _ => true
def isTuple : Expr → Bool
  | .Tuple .. => true
  | _ => false
def wipeOk (own : List (Str × Nat)) (tg : Tg) : Bool := (tgIx tg).all fun i => (own.map (·.2)).contains i

def visC (sc : Scope) (x : Str) : Bool :=
  (match sc.names.lookup x with | some .local => true | some .cell => true | some .free => true | _ => false) && !(x == ("__debug__" : Str)) && !(x == ("__classdict__" : Str))
def locC (sc : Scope) (fnk : Str → Bool) (x : Str) : Bool :=
  match sc.names.lookup x with | some .local => true | some .cell => fnk x | _ => false
def glC (sc : Scope) (x : Str) : Bool :=
  (match sc.names.lookup x with | some .globalImplicit => true | _ => false) && !(x == ("__debug__" : Str)) && !(x == ("__name__" : Str))
def nmC (N : List Str) (i : Nat) (x : Str) : Bool := decide (N[i]? = some x)

/-- may stand where the value is kept -/
def shB : IE → Bool
  | .bor _ => false
  | .meth .get _ (.cons _ (.cons (.int _) .nil)) => true
  | .meth .get _ _ => false
  | .ife _ a b => shB a && shB b
  | _ => true
theorem shB_get {a : IE} {es : IEs} (h : shB (.meth .get a es) = true) : ∃ k i, es = .cons k (.cons (.int i) .nil) := by
  unfold shB at h
  split at h <;> first | cases h | skip
  all_goals first | exact ⟨_, _, rfl⟩ | simp_all
/-- makes an object of its own where it makes a list -/
def frB (T : Tb) : IE → Bool
  | .lst _ => true
  | .comp .. => true
  | .comp2 .. => true
  | .rngL false _ => true
  | .bin .Add _ _ => true
  | .rep _ _ => true
  | .sl .. => true
  | .rev _ => true
  | .dct .. => true
  | .bt .list _ => true
  | .bt .sorted _ => true
  | .call k _ => match T.cs[k]? with | some (_, _, b) => b | none => false
  | .callK k _ _ _ => match T.cs[k]? with | some (_, _, b) => b | none => false
  | .ife _ a b => frB T a && frB T b
  | _ => false
def opC (a b : Operator) : Bool :=
  match a, b with
  | .Add, .Add => true | .Sub, .Sub => true | .Mult, .Mult => true | .FloorDiv, .FloorDiv => true | .Mod, .Mod => true | .Pow, .Pow => true
  | _, _ => false
def cmpC (a b : CmpOp) : Bool :=
  match a, b with
  | .Eq, .Eq => true | .NotEq, .NotEq => true | .Lt, .Lt => true | .LtE, .LtE => true | .Gt, .Gt => true | .GtE, .GtE => true
  | .In, .In => true | .NotIn, .NotIn => true | .Is, .Is => true | .IsNot, .IsNot => true
  | _, _ => false
/-- no comparison of membership (for chains) -/
def cmpPlain : CmpOp → Bool
  | .In => false | .NotIn => false | .Is => false | .IsNot => false
  | _ => true
/-- an index that is no slice, no constant tuple: by its form -/
def ixOk : Expr → Bool
  | .Name .. => true
  | .Constant (.int _) _ _ => true
  | .Constant (.str _) _ _ => true
  | .BinOp .. => true
  | .UnaryOp .. => true
  | .Call .. => true
  | .Subscript .. => true
  | .Tuple .. => true
  | _ => false
def namesTg (N : List Str) (sc : Scope) (fnk : Str → Bool) : List Nat → List Expr → Bool
  | [], [] => true
  | i :: is, .Name x _ :: es => nmC N i x && locC sc fnk x && namesTg N sc fnk is es
  | _, _ => false
def tgC (N : List Str) (sc : Scope) (fnk : Str → Bool) : Tg → Expr → Bool
  | .nm i, .Name x _ => nmC N i x && locC sc fnk x
  | .tp is, .Tuple es _ _ => namesTg N sc fnk is es && decide is.Nodup && decide (is ≠ [])
  | _, _ => false
def kwNames : List Keyword → Option (List Str)
  | [] => some []
  | ⟨some x, _, _⟩ :: r => (kwNames r).map fun l => x :: l
  | _ :: _ => none
def kwVals (l : List Keyword) : List Expr := l.map Keyword.value
/-- the call's names, in the parameters' order -/
def permOk (ps : List Str) (np : Nat) (ks : List Str) (perm : List Nat) : Bool :=
  decide (perm.map (fun j => (ps.take np ++ ks)[j]?) = ps.map some) && decide (ks.Nodup) && decide (np + ks.length = ps.length) && decide ((ps.take np ++ ks).Nodup) && ks.all (fun k => ps.contains k)

/-- f(args), f a name -/
def callX : Expr → Option (Str × List Expr)
  | .Call (.Name x _) args [] _ => some (x, args)
  | _ => none
/-- one argument -/
def soleX : List Expr → Option Expr
  | [e] => some e
  | _ => none
/-- f(range(args)) -/
def rngX (e : Expr) : Option (Str × Str × List Expr) :=
  match callX e with
  | some (x, l) => match soleX l with
    | some a => match callX a with
      | some (y, args) => some (x, y, args)
      | none => none
    | none => none
  | none => none
def consOnly : IEs → Bool
  | .nil => true
  | .cons _ r => consOnly r
  | _ => false
def rngSh : IEs → Bool
  | .cons _ .nil => true
  | .cons _ (.cons _ .nil) => true
  | _ => false
/-- the keys of a display -/
def keyX : Option Expr → Option Key
  | some (.Constant (.int i) _ _) => some (.inl i)
  | some (.Constant (.str x) _ _) => some (.inr x)
  | _ => none
def keysX : List (Option Expr) → Option (List Key)
  | [] => some []
  | e :: r => match keyX e, keysX r with
    | some k, some ks => some (k :: ks)
    | _, _ => none
def xvX : Expr → Option (Str × Expr × Str × Bool)
  | .Call (.Name x _) [.Call (.Attribute (.Name n p) y q) [] [] p2] [] _ => some (x, .Name n p, y, q.endLine == p2.line)
  | _ => none
theorem xvX_eq {e : Expr} {x : Str} {o : Expr} {y : Str} {l : Bool} (h : xvX e = some (x, o, y, l)) : ∃ (p1 : Pos) (n : Str) (p q p2 pos : Pos), e = .Call (.Name x p1) [.Call (.Attribute (.Name n p) y q) [] [] p2] [] pos ∧ o = .Name n p ∧ l = (q.endLine == p2.line) := by
  unfold xvX at h
  split at h
  · cases h; exact ⟨_, _, _, _, _, _, rfl, rfl, rfl⟩
  · cases h
mutual
def mtE (T : Tb) (N : List Str) : IE → Scope → (Str → Bool) → Expr → Bool
  | .var i, sc, _, .Name x _ => nmC N i x && visC sc x
  | .bor i, sc, _, .Name x _ => nmC N i x && visC sc x
  | .cst k, sc, _, .Name x _ => decide (T.cn[k]? = some x) && glC sc x
  | .int i, _, _, .Constant (.int j) _ _ => decide (i = j)
  | .str i, _, _, .Constant (.str j) _ _ => decide (i = j)
  | .bl i, _, _, .Constant (.bool j) _ _ => i == j
  | .non, _, _, .Constant .none _ _ => true
  | .bin op a b, sc, f, .BinOp l o r _ => opC op o && mtE T N a sc f l && mtE T N b sc f r
  | .rep a b, sc, f, .BinOp l .Mult r _ => mtE T N a sc f l && mtE T N b sc f r
  | .neg a, sc, f, .UnaryOp .USub e _ => mtE T N a sc f e
  | .not_ a, sc, f, .UnaryOp .Not e _ => mtE T N a sc f e
  | .cmp op a b, sc, f, .Compare l [o] [r] _ => cmpC op o && mtE T N a sc f l && mtE T N b sc f r && !(behindInMarks o r)
  | .chain op op' a b c, sc, f, .Compare l [o, o'] [r, r'] _ => cmpC op o && cmpC op' o' && cmpPlain op && cmpPlain op' && mtE T N a sc f l && mtE T N b sc f r && mtE T N c sc f r'
  | .bop isAnd es, sc, f, .BoolOp o vs _ => (match o with | .And => isAnd | .Or => !isAnd) && mtB T N es sc f vs && !vs.isEmpty
  | .ife c a b, sc, f, .IfExp t x y _ => mtE T N c sc f t && mtE T N a sc f x && mtE T N b sc f y
  | .ix a b, sc, f, .Subscript l r _ => mtE T N a sc f l && mtE T N b sc f r && ixOk r
  | .sl a lo hi, sc, f, .Subscript l (.Slice x y none _) _ => mtE T N a sc f l && mtO T N lo sc f x && mtO T N hi sc f y
  | .rev a, sc, f, .Subscript l (.Slice none none (some (.UnaryOp .USub (.Constant (.int i) _ _) _)) _) _ => decide (i = 1) && mtE T N a sc f l
  | .tup es, sc, f, .Tuple l _ _ => mtEs T N es sc f l
  | .lst es, sc, f, .List l _ => mtEs T N es sc f l
  | .call k es, sc, f, .Call (.Name x _) args [] _ => (match T.cs[k]? with | some (y, ps, _) => decide (x = y) && decide (args.length = ps.length) | none => false) && glC sc x && mtEs T N es sc f args && noStar args && !args.isEmpty
  | .callK k es ws perm, sc, f, .Call (.Name x _) args kws _ => (match T.cs[k]?, kwNames kws with
      | some (y, ps, _), some ks => decide (x = y) && permOk ps args.length ks perm
      | _, _ => false) && glC sc x && mtEs T N es sc f args && mtEs T N ws sc f (kwVals kws) && noStar args && noStar (kwVals kws) && !kws.isEmpty
  | .cix i (.inl j), sc, f, .Subscript (.Name x _) (.Constant (.int l) _ _) _ => nmC N i x && visC sc x && decide (j = l)
  | .cix i (.inr j), sc, f, .Subscript (.Name x _) (.Constant (.str l) _ _) _ => nmC N i x && visC sc x && decide (j = l)
  | .bt b es, sc, f, .Call (.Name x _) args [] _ => decide (x = b.name) && (T.gcd || decide (b ≠ .gcd)) && glC sc x && mtL T N es sc f args && noStar args && !args.isEmpty
  | .meth m a es, sc, f, .Call (.Attribute (.Name x p) y q) args [] pos => decide (y = m.name) && mtE T N a sc f (.Name x p) && mtL T N es sc f args && noStar args && (match m with | .count => decide (args.length = 1) | .get => decide (args.length = 2)) && (q.endLine == pos.line)
  | .rngL isT es, sc, f, e => match rngX e with
    | some (x, y, args) => decide (x = (if isT then ("tuple" : Str) else ("list" : Str))) && glC sc x && decide (y = ("range" : Str)) && glC sc y && mtL T N es sc f args && noStar args && rngSh es
    | none => false
  | .dct ks es, sc, f, .Dict keys vals _ => decide (keysX keys = some ks) && decide (ks.Nodup) && decide (keys.length = vals.length) && decide (keys.length ≤ 15) && consOnly es && mtEs T N es sc f vals
  | .callW k k2 es, sc, f, e => match rngX e with
    | some (x, y, args) => (match T.cs[k]? with | some (z, ps, b) => decide (x = z) && decide (ps.length = 1) && !b | none => false) && glC sc x && (match T.cs[k2]? with | some (z, ps, b) => decide (y = z) && decide (args.length = ps.length) && b | none => false) && glC sc y && mtEs T N es sc f args && noStar args && !args.isEmpty
    | none => false
  | .xv mx a, sc, f, e => match xvX e with
    | some (x, o, y, l) => decide (x = (if mx = true then ("max" : Str) else ("min" : Str))) && glC sc x && decide (y = ("values" : Str)) && mtE T N a sc f o && l
    | none => false
  | .isi t a, sc, f, .Call (.Name x _) [e, .Name y _] [] _ => decide (x = ("isinstance" : Str)) && glC sc x && decide (y = Str.ofString t.name) && glC sc y && mtE T N a sc f e && noStar [e]
  | .comp own tg it ifs elt, sc, f, .ListComp e [⟨tgt, iter, cs, a⟩] scope _ => decide (a = 0) && blkC N sc scope own && notSet iter && mtI T N it sc f iter tgt && wipeOk own tg
      && tgC N (relS scope sc) (fun x => scope.names.lookup x == some .cell) tg tgt && mtB T N ifs (relS scope sc) (fun x => scope.names.lookup x == some .cell) cs
      && mtE T N elt (relS scope sc) (fun x => scope.names.lookup x == some .cell) e && shB elt && decide (cs.length ≤ 1)
  | .comp2 own tg it ifs tg2 it2 ifs2 elt, sc, f, .ListComp e [⟨tgt, iter, cs, a⟩, ⟨tgt2, iter2, cs2, a2⟩] scope _ => decide (a = 0) && decide (a2 = 0) && blkC N sc scope own && notSet iter && notSet iter2 && mtI T N it sc f iter tgt && wipeOk own tg && wipeOk own tg2
      && tgC N (relS scope sc) (fun x => scope.names.lookup x == some .cell) tg tgt && mtB T N ifs (relS scope sc) (fun x => scope.names.lookup x == some .cell) cs
      && mtI T N it2 (relS scope sc) (fun x => scope.names.lookup x == some .cell) iter2 tgt2
      && tgC N (relS scope sc) (fun x => scope.names.lookup x == some .cell) tg2 tgt2 && mtB T N ifs2 (relS scope sc) (fun x => scope.names.lookup x == some .cell) cs2
      && mtE T N elt (relS scope sc) (fun x => scope.names.lookup x == some .cell) e && shB elt && decide (cs.length ≤ 1) && decide (cs2.length ≤ 1)
  | _, _, _, _ => false
def mtEs (T : Tb) (N : List Str) : IEs → Scope → (Str → Bool) → List Expr → Bool
  | .nil, _, _, [] => true
  | .cons e r, sc, f, x :: xs => mtE T N e sc f x && shB e && notStar x && mtEs T N r sc f xs
  | .star e r, sc, f, .Starred x _ :: xs => mtE T N e sc f x && shB e && mtEs T N r sc f xs
  | .cel i r, sc, f, .Name x _ :: xs => nmC N i x && visC sc x && mtEs T N r sc f xs
  | _, _, _, _ => false
def mtL (T : Tb) (N : List Str) : IEs → Scope → (Str → Bool) → List Expr → Bool
  | .nil, _, _, [] => true
  | .cons e r, sc, f, x :: xs => mtE T N e sc f x && notStar x && mtL T N r sc f xs
  | _, _, _, _ => false
def mtB (T : Tb) (N : List Str) : IEs → Scope → (Str → Bool) → List Expr → Bool
  | .nil, _, _, [] => true
  | .cons e r, sc, f, x :: xs => mtE T N e sc f x && shB e && mtB T N r sc f xs
  | _, _, _, _ => false
def mtO (T : Tb) (N : List Str) : IEs → Scope → (Str → Bool) → Option Expr → Bool
  | .nil, _, _, none => true
  | .cons e .nil, sc, f, some x => mtE T N e sc f x
  | _, _, _, _ => false
def mtI (T : Tb) (N : List Str) : II → Scope → (Str → Bool) → Expr → Expr → Bool
  | .seq e, sc, f, x, _ => mtE T N e sc f x && shB e
  | .range es, sc, f, e, _ => match callX e with
    | some (x, args) => decide (x = ("range" : Str)) && glC sc x && mtEs T N es sc f args && noStar args && rngSh es
    | none => false
  | .enum a, sc, f, .Call (.Name x _) [e] [] _, t => decide (x = ("enumerate" : Str)) && glC sc x && mtE T N a sc f e && shB a && notStar e && isTuple t
  | .zip a b, sc, f, .Call (.Name x _) [e, e2] [] _, t => decide (x = ("zip" : Str)) && glC sc x && mtE T N a sc f e && shB a && notStar e && mtE T N b sc f e2 && shB b && notStar e2 && isTuple t
  | .vals a, sc, f, .Call (.Attribute (.Name n p) y q) [] [] p2, _ => decide (y = ("values" : Str)) && mtE T N a sc f (.Name n p) && shB a && (q.endLine == p2.line)
  | _, _, _, _, _ => false
end
end Pv
end
section
set_option Elab.async false
set_option linter.all false
set_option maxRecDepth 100000
/-! Pv.D: what a word's reading is; the simple words. -/
namespace Pv
open PySem PySem.Spec L2

abbrev kc (X : Cx) (ct : Ct) : Kc := ⟨X.K, ct.kt⟩
/-- how a value is handed on: kept, looked at, an object of its own -/
inductive Kd where
  | S | B | F
/-- looked at: in the region or an own object (not the cell) -/
inductive Rv (K : Kc) (sp : Option Addr) (R H : Hp) (v : V) (d : Dt) : Prop
  | sh : Rp K R v d → Rv K sp R H v d
  | ow {a : Addr} : v = .ref a → sp ≠ some a → R a = none → Ob K R H a d → Rv K sp R H v d
def RepK (K : Kc) (sp : Option Addr) (H0 R H : Hp) (v : V) (d : Dt) : Kd → Prop
  | .S => Rp K R v d
  | .B => Rv K sp R H v d
  | .F => (ownable d = true ∧ ∃ a, v = .ref a ∧ R a = none ∧ H0 a = none ∧ Ob K R H a d) ∨ (ownable d = false ∧ Rp K R v d)
def Cel (K : Kc) (sp : Option Addr) (R H : Hp) (c : Dt) : Prop := ∀ a, sp = some a → Ob K R H a c

section
variable {K : Kc} {sp : Option Addr} {R H R' H' : Hp} {v : V} {d c c' : Dt} {σ : St} {ρ : List Sl}
theorem SRel.cell (S : SRel K sp R H σ ρ c) : Cel K sp R H c := fun a h => (S.cel a h).2
theorem Rv.rb : Rv K sp R H v d → Rb K R H v d
  | .sh h => .sh h
  | .ow h _ _ h2 => .ow h h2
theorem Rv.ext (e : Ext sp R H R' H') : Rv K sp R H v d → Rv K sp R' H' v d
  | .sh h => .sh (h.mono e.r)
  | .ow h n z h2 => .ow h n (e.stay z h2) (h2.mono e.r fun o q => e.keep _ o q n)
/-- a fresh object joins the region: lists at once, dicts when they are locked -/
theorem join_lst {a : Addr} {xs : List V} {ds : List Dt} (e : Ext sp R H R' H') (h1 : R' a = none) (h0 : H a = none) (h2 : H' a = some (.lst xs)) (h3 : RpL K R' xs ds) :
    Ext sp R H (upd R' a (.lst xs)) H' ∧ Rp K (upd R' a (.lst xs)) (.ref a) (.list ds) := by
  have up : Same R' (upd R' a (.lst xs)) := fun b o q => by rw [upd_ne (ne_of_none q h1)]; exact q
  refine ⟨⟨e.r.trans up, fun b o q => ?_, fun b o q => ?_, e.keep, e.dom⟩, .lst (.inl upd_same) (h3.mono up)⟩
  · by_cases z : b = a
    · subst z; rw [upd_same] at q; cases q; exact h2
    · rw [upd_ne z] at q; exact e.le _ _ q
  · by_cases z : b = a
    · subst z; exact .inr (.inl h0)
    · rw [upd_ne z] at q; exact e.fresh _ _ q
theorem lock_ext {a : Addr} {o u : HO} (e : Ext sp R H R' H') (h1 : R' a = none) (h0 : H a = none) : Ext sp R H (upd R' a u) (upd H' a u) := by
  have up : Same R' (upd R' a u) := fun b o q => by rw [upd_ne (ne_of_none q h1)]; exact q
  refine ⟨e.r.trans up, fun b o q => ?_, fun b o q => ?_, fun b o q n => ?_, fun b o q => ?_⟩
  · by_cases z : b = a
    · subst z; rw [upd_same] at q ⊢; exact q
    · rw [upd_ne z] at q ⊢; exact e.le _ _ q
  · by_cases z : b = a
    · subst z; exact .inr (.inl h0)
    · rw [upd_ne z] at q; exact e.fresh _ _ q
  · rw [upd_ne (ne_of_none q h0)]; exact e.keep _ _ q n
  · obtain ⟨o', q'⟩ := e.dom _ _ q
    exact ⟨o', by rw [upd_ne (ne_of_none q h0)]; exact q'⟩
end

/-- the reading of a word: whatever it reckons is handed on in the told way -/
def rd (K : Kc) (Φ : List Fn) (ct : Ct) (k : Kd) (e : IE) : TE := fun σ H Q =>
  ∃ (sp : Option Addr) (R : Hp) (ρ : List Sl) (c d c' : Dt), SRel K sp R H σ ρ c ∧ evE Φ ct e ρ c = some (d, c') ∧
    ∀ v R' H', Ext sp R H R' H' → Cel K sp R' H' c' → RepK K sp H R' H' v d k → Q v H'
/-- .. of a test -/
def rdT (K : Kc) (Φ : List Fn) (ct : Ct) (e : IE) : TT := fun σ H Q =>
  ∃ (sp : Option Addr) (R : Hp) (ρ : List Sl) (c : Dt) (b : Bool) (c' : Dt), SRel K sp R H σ ρ c ∧ evE Φ ct e ρ c = some (.bool b, c') ∧
    ∀ R' H', Ext sp R H R' H' → Cel K sp R' H' c' → Q b H'

section
variable {X : Cx} {Φ : List Fn} {ct : Ct} {e : IE} {x : Expr}
theorem pe_weak {t t' : TE} (h : PE X x t) (w : ∀ σ H Q, t' σ H Q → t σ H Q) : PE X x t' := ⟨fun pins s σ H Q I q => h.run pins s σ H Q I (w σ H Q q)⟩
theorem pt_weak {t t' : TT} (h : PT X x t) (w : ∀ σ H Q, t' σ H Q → t σ H Q) : PT X x t' := ⟨fun pins s σ H Q I q => h.run pins s σ H Q I (w σ H Q q)⟩
/-- kept things may be looked at -/
theorem SB (h : PE X x (rd (kc X ct) Φ ct .S e)) : PE X x (rd (kc X ct) Φ ct .B e) := by
  refine pe_weak h fun σ H Q ⟨sp, R, ρ, c, d, c', S, ev, q⟩ => ⟨sp, R, ρ, c, d, c', S, ev, fun v R' H' e1 e2 r => q v R' H' e1 e2 (.sh r)⟩
/-- an object of its own may be kept -/
theorem FS (h : PE X x (rd (kc X ct) Φ ct .F e)) : PE X x (rd (kc X ct) Φ ct .S e) := by
  refine ⟨fun pins s σ H Q I ⟨sp, R, ρ, c, d, c', S, ev, q⟩ => ?_⟩
  have q2 : rd (kc X ct) Φ ct .F e σ H (fun v H' => ∃ R', Ext sp R H R' H' ∧ Cel (kc X ct) sp R' H' c' ∧ RepK (kc X ct) sp H R' H' v d .F) := ⟨sp, R, ρ, c, d, c', S, ev, fun v R' H' e1 e2 r => ⟨R', e1, e2, r⟩⟩
  refine thn (h.run pins s σ H _ I q2) fun u s' ⟨v, H', I', ru, R', e1, e2, r⟩ => ?_
  rcases r with ⟨od, a, hv, h1, h0, ob⟩ | ⟨od, r⟩
  · subst hv
    have spn : ∀ b, sp = some b → b ≠ a := fun b hb z => by
      subst z
      obtain ⟨o, hh⟩ := (S.cel b hb).2.there
      rw [h0] at hh; cases hh
    cases ob with
    | lst k1 k2 =>
      obtain ⟨x1, x2⟩ := join_lst e1 h1 h0 k1 k2
      refine ⟨_, H', I', ru, q _ _ _ x1 (fun b hb => ?_) x2⟩
      exact (e2 b hb).mono (fun z o y => by rw [upd_ne (ne_of_none y h1)]; exact y) fun o y => y
    | @dK kvs ds k1 k2 =>
      obtain ⟨od, I2⟩ := I'.lock (d := a) (u := .dK kvs) k1 True.intro
      have x1 := lock_ext (o := .dK kvs) (u := .frz od (.dK kvs)) e1 h1 h0
      refine ⟨_, _, I2, ru, q _ _ _ x1 (fun b hb => ?_) (.dK upd_same (k2.mono fun z o y => by rw [upd_ne (ne_of_none y h1)]; exact y))⟩
      refine (e2 b hb).mono (fun z o y => by rw [upd_ne (ne_of_none y h1)]; exact y) fun o y => ?_
      rw [upd_ne (spn b hb)]; exact y
    | @dT kvs ds k1 k2 =>
      obtain ⟨od, I2⟩ := I'.lock (d := a) (u := .dT kvs) k1 True.intro
      have x1 := lock_ext (o := .dT kvs) (u := .frz od (.dT kvs)) e1 h1 h0
      refine ⟨_, _, I2, ru, q _ _ _ x1 (fun b hb => ?_) (.dT upd_same (k2.mono fun z o y => by rw [upd_ne (ne_of_none y h1)]; exact y))⟩
      refine (e2 b hb).mono (fun z o y => by rw [upd_ne (ne_of_none y h1)]; exact y) fun o y => ?_
      rw [upd_ne (spn b hb)]; exact y
  · exact ⟨v, H', I', ru, q v R' H' e1 e2 r⟩
/-- what is no list and no dict needs no object of its own -/
theorem SF (h : PE X x (rd (kc X ct) Φ ct .S e)) (n : ∀ ρ c d c', evE Φ ct e ρ c = some (d, c') → ownable d = false) : PE X x (rd (kc X ct) Φ ct .F e) :=
  pe_weak h fun σ H Q ⟨sp, R, ρ, c, d, c', S, ev, q⟩ => ⟨sp, R, ρ, c, d, c', S, ev, fun v R' H' e1 e2 r => q v R' H' e1 e2 (.inr ⟨n _ _ _ _ ev, r⟩)⟩
end

/-! ### the context -/
def bltNames : List Str := ["len", "abs", "int", "sum", "min", "max", "all", "any", "list", "tuple", "divmod", "repr", "sorted", "range", "isinstance", "bool", "str", "dict", "enumerate", "zip"]

/-- two parts in a row, both looked at -/
theorem rd2 {K : Kc} {Φ : List Fn} {ct : Ct} {a b : IE} {σ : St} {H : Hp} {sp : Option Addr} {R : Hp} {ρ : List Sl} {c c1 c2 x y : Dt} {k k' : Kd} (S : SRel K sp R H σ ρ c) (ea : evE Φ ct a ρ c = some (x, c1)) (eb : evE Φ ct b ρ c1 = some (y, c2))
    {G : V → V → Hp → Prop} (h : ∀ v u R1 H1 R2 H2, Ext sp R H R1 H1 → Ext sp R1 H1 R2 H2 → Cel K sp R2 H2 c2 → RepK K sp H R1 H1 v x k → RepK K sp H1 R2 H2 u y k' → G v u H2) :
    rd K Φ ct k a σ H fun v H1 => rd K Φ ct k' b σ H1 fun u H2 => G v u H2 :=
  ⟨sp, R, ρ, c, x, c1, S, ea, fun v R1 H1 e1 l1 r1 => ⟨sp, R1, ρ, c1, y, c2, S.ext e1 l1, eb, fun u R2 H2 e2 l2 r2 => h v u R1 H1 R2 H2 e1 e2 l2 r1 r2⟩⟩

section
variable {X : Cx} {Φ : List Fn} {ct : Ct} {pos : Pos} {x y : Expr} {a b : IE}
theorem pv_int {i : Int} {j : Nat} : PE X (.Constant (.int i) j pos) (rd (kc X ct) Φ ct .S (.int i)) :=
  pe_weak pe_int fun σ H Q ⟨sp, R, ρ, c, d, c', S, ev, q⟩ => by cases ev; exact q _ _ _ (.refl S.le) S.cell (.int i)
theorem pv_str {i : Str} {j : Nat} : PE X (.Constant (.str i) j pos) (rd (kc X ct) Φ ct .S (.str i)) :=
  pe_weak pe_str fun σ H Q ⟨sp, R, ρ, c, d, c', S, ev, q⟩ => by cases ev; exact q _ _ _ (.refl S.le) S.cell (.str i)
theorem pv_bl {i : Bool} {j : Nat} : PE X (.Constant (.bool i) j pos) (rd (kc X ct) Φ ct .S (.bl i)) :=
  pe_weak pe_bl fun σ H Q ⟨sp, R, ρ, c, d, c', S, ev, q⟩ => by cases ev; exact q _ _ _ (.refl S.le) S.cell (.bl i)
theorem pv_non {j : Nat} : PE X (.Constant .none j pos) (rd (kc X ct) Φ ct .S .non) :=
  pe_weak pe_non fun σ H Q ⟨sp, R, ρ, c, d, c', S, ev, q⟩ => by cases ev; exact q _ _ _ (.refl S.le) S.cell .non
theorem pv_var {i : Nat} {n : Str} (hN : X.N[i]? = some n) (hv : Vis X.env.scope n) (h1 : (n == ("__debug__" : Str)) = false) (h2 : (n == ("__classdict__" : Str)) = false) : PE X (.Name n pos) (rd (kc X ct) Φ ct .S (.var i)) := by
  refine pe_weak (pe_var hN hv h1 h2) fun σ H Q ⟨sp, R, ρ, c, d, c', S, ev, q⟩ => ?_
  simp only [evE, slotS] at ev
  cases hs : ρ[i]? with
  | none => rw [hs] at ev; cases ev
  | some z =>
    rw [hs] at ev
    cases z with
    | sh d0 =>
      cases ev
      obtain ⟨v, k1, k2⟩ := S.slot i _ hs
      exact ⟨v, k1, q v R H (.refl S.le) S.cell k2⟩
    | _ => cases ev
theorem pv_bor {i : Nat} {n : Str} (hN : X.N[i]? = some n) (hv : Vis X.env.scope n) (h1 : (n == ("__debug__" : Str)) = false) (h2 : (n == ("__classdict__" : Str)) = false) : PE X (.Name n pos) (rd (kc X ct) Φ ct .B (.bor i)) := by
  refine pe_weak (pe_var hN hv h1 h2) fun σ H Q ⟨sp, R, ρ, c, d, c', S, ev, q⟩ => ?_
  simp only [evE, slotD] at ev
  cases hs : ρ[i]? with
  | none => rw [hs] at ev; cases ev
  | some z =>
    rw [hs] at ev
    cases z with
    | sh d0 =>
      cases ev
      obtain ⟨v, k1, k2⟩ := S.slot i _ hs
      exact ⟨v, k1, q v R H (.refl S.le) S.cell (.sh k2)⟩
    | own d0 =>
      cases ev
      obtain ⟨a, k1, k2, k3⟩ := S.slot i _ hs
      exact ⟨_, k1, q _ R H (.refl S.le) S.cell (.ow rfl (fun z => S.celO a i _ z hs k1) k2 k3)⟩
    | _ => cases ev
theorem pv_cst {k : Nat} {n : Str} {d0 : Dt} {v : V} {u : Value} (hg : Gl X n) (hm : X.mg n = some u) (r : RelV v u) (hc : ct.l[k]? = some d0) (hr : ∀ R, Rp (kc X ct) R v d0) (hd : (n == ("__debug__" : Str)) = false) : PE X (.Name n pos) (rd (kc X ct) Φ ct .S (.cst k)) := by
  refine pe_weak (pe_glob hg hm r hd) fun σ H Q ⟨sp, R, ρ, c, d, c', S, ev, q⟩ => ?_
  simp only [evE, hc, Option.map_some] at ev
  cases ev
  exact q v R H (.refl S.le) S.cell (hr R)

/-! ### operators -/
/-- the left value behind the right one -/
theorem later {K : Kc} {sp : Option Addr} {R1 H1 R2 H2 : Hp} {v : V} {d : Dt} (e : Ext sp R1 H1 R2 H2) (r : Rv K sp R1 H1 v d) : Rb K R2 H2 v d := (r.ext e).rb

/-- a rule by values, told over data: f ds = some d, then the value handed on as k says -/
def Ok2 (K : Kc) (r : R2) (f : Dt → Dt → Option Dt) (k : Kd) : Prop :=
  ∀ (sp : Option Addr) (R H : Hp) (v u : V) (dx dy d : Dt) (Q : VK), Same R H → Rb K R H v dx → Rb K R H u dy → f dx dy = some d →
    (∀ w R' H', Ext sp R H R' H' → (∀ a, sp = some a → ∀ o, H a = some o → H' a = some o) → RepK K sp H R' H' w d k → Q w H') → r v u H Q
theorem cel_of {K : Kc} {sp : Option Addr} {R H R' H' : Hp} {c : Dt} (e : Ext sp R H R' H') (k : ∀ a, sp = some a → ∀ o, H a = some o → H' a = some o) (h : Cel K sp R H c) : Cel K sp R' H' c :=
  fun a ha => (h a ha).mono e.r (k a ha)
theorem RepK.low {K : Kc} {sp : Option Addr} {H0 H1 R H : Hp} {v : V} {d : Dt} {k : Kd} (h : ∀ a, H1 a = none → H0 a = none) (r : RepK K sp H1 R H v d k) : RepK K sp H0 R H v d k := by
  cases k with
  | S => exact r
  | B => exact r
  | F =>
    rcases r with ⟨o, a, h1, h2, h3, h4⟩ | r
    · exact .inl ⟨o, a, h1, h2, h a h3, h4⟩
    · exact .inr r
theorem Ext.back {sp : Option Addr} {R H R' H' : Hp} (e : Ext sp R H R' H') {a : Addr} (h : H' a = none) : H a = none := by
  cases q : H a with
  | none => rfl
  | some o =>
    obtain ⟨o', z⟩ := e.dom a o q
    rw [h] at z; cases z
/-- two parts, then a rule -/
theorem use2 {r : R2} {f : Dt → Dt → Option Dt} {k : Kd} (ok : Ok2 (kc X ct) r f k) {σ : St} {H : Hp} {Q : VK} {sp : Option Addr} {R : Hp} {ρ : List Sl} {c c1 c2 dx dy d : Dt} (S : SRel (kc X ct) sp R H σ ρ c)
    (ea : evE Φ ct a ρ c = some (dx, c1)) (eb : evE Φ ct b ρ c1 = some (dy, c2)) (ef : f dx dy = some d)
    (q : ∀ v R' H', Ext sp R H R' H' → Cel (kc X ct) sp R' H' c2 → RepK (kc X ct) sp H R' H' v d k → Q v H') : tOp r (rd (kc X ct) Φ ct .B a) (rd (kc X ct) Φ ct .B b) σ H Q := by
  refine rd2 S ea eb fun v u R1 H1 R2 H2 e1 e2 l2 r1 r2 => ?_
  exact ok sp R2 H2 v u dx dy d Q e2.le (later e2 r1) (Rv.rb r2) ef fun w R' H' e3 k3 rep => q w R' H' ((e1.trans e2).trans e3) (cel_of e3 k3 l2) (RepK.low (fun a h => (e1.trans e2).back h) rep)
theorem keep_refl {sp : Option Addr} {H : Hp} : ∀ a, sp = some a → ∀ o, H a = some o → H a = some o := fun _ _ _ h => h
theorem keep_upd {sp : Option Addr} {H : Hp} {p : Addr} {o : HO} (hp : H p = none) : ∀ a, sp = some a → ∀ o', H a = some o' → upd H p o a = some o' := fun a _ o' h => by rw [upd_ne (ne_of_none h hp)]; exact h
/-- a new tuple, kept -/
theorem new_tup {K : Kc} {sp : Option Addr} {R H : Hp} {p : Addr} {xs : List V} {ds : List Dt} (e : Same R H) (hp : H p = none) (r : RpL K R xs ds) :
    Ext sp R H (upd R p (.tup xs)) (upd H p (.tup xs)) ∧ Rp K (upd R p (.tup xs)) (.ref p) (.tuple ds) :=
  ⟨Ext.new e hp, .tup (.inl upd_same) (r.mono (Ext.new (sp := sp) (o := .tup xs) e hp).r)⟩
/-- a new list of its own -/
theorem new_lst {K : Kc} {sp : Option Addr} {R H : Hp} {p : Addr} {xs : List V} {ds : List Dt} (e : Same R H) (hp : H p = none) (r : RpL K R xs ds) :
    Ext sp R H R (upd H p (.lst xs)) ∧ RepK K sp H R (upd H p (.lst xs)) (.ref p) (.list ds) .F :=
  ⟨Ext.newO e hp, .inl ⟨rfl, p, rfl, e.free hp, hp, .lst upd_same r⟩⟩
theorem rep_int {K : Kc} {sp : Option Addr} {H0 R H : Hp} (i : Int) (k : Kd) : RepK K sp H0 R H (.int i) (.int i) k := by
  cases k with
  | S => exact .int i
  | B => exact .sh (.int i)
  | F => exact .inr ⟨rfl, .int i⟩
theorem rep_bl {K : Kc} {sp : Option Addr} {H0 R H : Hp} (i : Bool) (k : Kd) : RepK K sp H0 R H (.bl i) (.bool i) k := by
  cases k with
  | S => exact .bl i
  | B => exact .sh (.bl i)
  | F => exact .inr ⟨rfl, .bl i⟩
theorem rep_str {K : Kc} {sp : Option Addr} {H0 R H : Hp} (i : Str) (k : Kd) : RepK K sp H0 R H (.str i) (.str i) k := by
  cases k with
  | S => exact .str i
  | B => exact .sh (.str i)
  | F => exact .inr ⟨rfl, .str i⟩
theorem rep_S {K : Kc} {sp : Option Addr} {H0 R H : Hp} {v : V} {d : Dt} (h : Rp K R v d) (o : ownable d = false) : RepK K sp H0 R H v d .F := .inr ⟨o, h⟩
theorem line_eq : sizeLine = line := by rw [sizeLine_eq]
end
end Pv
end
section
set_option Elab.async false
set_option linter.all false
set_option maxRecDepth 100000
/-! Pv.E: operators, comparisons, subscripts over data. -/
namespace Pv
open PySem PySem.Spec L2
section
variable {X : Cx} {K : Kc}

/-! ### + -/
def rCatR : R2 := fun x y H Q => ∃ l b xs zs, x = .ref l ∧ y = .ref b ∧ Rd H l (.lst xs) ∧ Rd H b (.lst zs) ∧ xs.length + zs.length ≤ line ∧ ∀ p, H p = none → Q (.ref p) (upd H p (.lst (xs ++ zs)))
theorem op_catR : OpR X (binaryOp .Add) rCatR := by
  intro pins s σ H x y v u Q I rx ry h
  obtain ⟨l, b, xs, zs, rfl, rfl, h1, h2, hz, q⟩ := h
  cases rx; cases ry
  obtain ⟨z1, us, n, r, e⟩ := h1.ok I.hok
  obtain ⟨z2, ws, m, r2, e2⟩ := h2.ok I.hok
  have a1 := r.length
  have a2 := r2.length
  have hs : us.length + ws.length ≤ sizeLine := by rw [line_eq]; omega
  refine PySem.P.add_list e e2 ?_ (by simpa using hs)
  have ea : us.toArray ++ ws.toArray = (us ++ ws).toArray := by simp
  rw [ea]
  exact ⟨.ref _, _, I.lnew (t' := s.toks) (r.append r2) (by rw [List.length_append, line_eq]; omega), rfl, q _ I.fresh⟩
def rAddA (K : PySem.W.Frag) : R2 := fun x y H Q =>
  (∃ i j, x = .int i ∧ y = .int j ∧ Q (.int (i + j)) H) ∨ (∃ i j, x = .str i ∧ y = .str j ∧ i.length + j.length ≤ sizeLine ∧ Q (.str (i ++ j)) H) ∨ rCatR x y H Q ∨ rCatA K x y H Q
theorem op_addA : OpR X (binaryOp .Add) (rAddA X.K) := op_add.or (op_add_str.or (op_catR.or op_catA))
theorem ok_add : Ok2 K (rAddA K.f) addD .F := by
  intro sp R H v u dx dy d Q e rv ru ef q
  cases dx with
  | int i =>
    cases dy with
    | int j => cases ef; cases rv.int; cases ru.int; exact .inl ⟨i, j, rfl, rfl, q _ R H (.refl e) keep_refl (rep_int _ _)⟩
    | _ => cases ef
  | str i =>
    cases dy with
    | str j =>
      simp only [addD] at ef
      split at ef
      · rename_i hl
        cases ef; cases rv.str; cases ru.str
        exact .inr (.inl ⟨i, j, rfl, rfl, by rw [line_eq]; exact hl, q _ R H (.refl e) keep_refl (rep_str _ _)⟩)
      · cases ef
    | _ => cases ef
  | list xs =>
    cases dy with
    | list ys =>
      simp only [addD] at ef
      split at ef
      · rename_i hl
        cases ef
        obtain ⟨a, vs, rfl, h1, h2⟩ := rv.list e
        obtain ⟨b, us, rfl, h3, h4⟩ := ru.list e
        refine .inr (.inr (.inl ⟨a, b, vs, us, rfl, rfl, h1, h3, by rw [h2.length, h4.length]; exact hl, fun p hp => ?_⟩))
        obtain ⟨x1, x2⟩ := new_lst (sp := sp) e hp (h2.append h4)
        exact q _ _ _ x1 (keep_upd hp) x2
      · cases ef
    | _ => cases ef
  | tuple xs =>
    cases dy with
    | tuple ys =>
      simp only [addD] at ef
      split at ef
      · rename_i hl
        cases ef
        obtain ⟨a, vs, rfl, h1, h2⟩ := rv.tuple e
        obtain ⟨b, us, rfl, h3, h4⟩ := ru.tuple e
        have sa : ∀ {w : V} {zs : List Dt}, Rb K R H w (.tuple zs) → Rp K R w (.tuple zs) := fun {w zs} h => by
          cases h with
          | sh h => exact h
          | ow _ h => cases h
        refine .inr (.inr (.inr ⟨a, b, vs, us, rfl, rfl, h1.sq, h3.sq, by rw [h2.length, h4.length, line_eq]; exact hl, fun z => ?_, fun z1 z2 => ?_, fun z1 z2 p hp => ?_⟩))
        · have : xs = [] := h2.nil_iff.mp z
          subst this
          exact q _ R H (.refl e) keep_refl (rep_S (by rw [List.nil_append]; exact sa ru) rfl)
        · have : ys = [] := h4.nil_iff.mp z2
          subst this
          exact q _ R H (.refl e) keep_refl (rep_S (by rw [List.append_nil]; exact sa rv) rfl)
        · obtain ⟨x1, x2⟩ := new_tup (sp := sp) e hp (h2.append h4)
          exact q _ _ _ x1 (keep_upd hp) (rep_S x2 rfl)
      · cases ef
    | _ => cases ef
  | _ => cases ef
/-! ### the others on ints -/
theorem ok_ints {r : R2} {f : Dt → Dt → Option Dt} {C : Int → Int → Prop} {g : Int → Int → Int} (h : ∀ dx dy d, f dx dy = some d → ∃ i j, dx = .int i ∧ dy = .int j ∧ C i j ∧ d = .int (g i j))
    (hr : ∀ i j H Q, C i j → Q (.int (g i j)) H → r (.int i) (.int j) H Q) : Ok2 K r f .F := by
  intro sp R H v u dx dy d Q e rv ru ef q
  obtain ⟨i, j, rfl, rfl, hc, rfl⟩ := h dx dy d ef
  cases rv.int; cases ru.int
  exact hr i j H Q hc (q _ R H (.refl e) keep_refl (rep_int _ _))
theorem binD_ints {op : Operator} {C : Int → Int → Prop} [∀ i j, Decidable (C i j)] {g : Int → Int → Int} (hf : ∀ a b, binD op a b = match a, b with | .int i, .int j => if C i j then some (.int (g i j)) else none | _, _ => none) :
    ∀ dx dy d, binD op dx dy = some d → ∃ i j, dx = .int i ∧ dy = .int j ∧ C i j ∧ d = .int (g i j) := by
  intro dx dy d ef
  rw [hf] at ef
  split at ef
  · split at ef
    · cases ef; exact ⟨_, _, rfl, rfl, by assumption, rfl⟩
    · cases ef
  · cases ef
/-- the rule of each operator -/
def opRule (K : PySem.W.Frag) : Operator → R2
  | .Add => rAddA K
  | .Sub => rI0 fun i j => .int (i - j)
  | .Mult => rI CMulW fun i j => .int (i * j)
  | .FloorDiv => rI CDivW fun i j => .int (i / j)
  | .Mod => rI (fun _ j => 0 < j) fun i j => .int (i % j)
  | .Pow => rI CPow fun i j => .int (i ^ j.toNat)
  | _ => fun _ _ _ _ => False
theorem opRule_ok (op : Operator) : OpR X (binaryOp op) (opRule X.K op) := by
  cases op with
  | Add => exact op_addA
  | Sub => exact op_sub
  | Mult => exact op_mulW
  | FloorDiv => exact op_fdivW
  | Mod => exact op_mod
  | Pow => exact op_pow
  | _ => intro pins s σ H x y v u Q I rx ry h; exact h.elim
theorem ok_bin (op : Operator) : Ok2 K (opRule K.f op) (binD op) .F := by
  cases op with
  | Add => exact ok_add
  | Sub =>
    refine ok_ints (C := fun _ _ => True) (g := fun i j => i - j) (fun dx dy d ef => ?_) fun i j H Q _ q => ⟨i, j, rfl, rfl, q⟩
    simp only [binD] at ef
    split at ef
    · cases ef; exact ⟨_, _, rfl, rfl, True.intro, rfl⟩
    · cases ef
  | Mult =>
    refine ok_ints (C := fun i j => i.natAbs.log2 + j.natAbs.log2 < 1000000) (g := fun i j => i * j) (binD_ints fun a b => ?_) fun i j H Q hc q => ⟨i, j, rfl, rfl, hc, q⟩
    cases a <;> cases b <;> rfl
  | FloorDiv =>
    refine ok_ints (C := fun _ j => 0 < j ∧ j.natAbs.log2 < 9000) (g := fun i j => i / j) (binD_ints fun a b => ?_) fun i j H Q hc q => ⟨i, j, rfl, rfl, hc, q⟩
    cases a <;> cases b <;> rfl
  | Mod =>
    refine ok_ints (C := fun _ j => 0 < j) (g := fun i j => i % j) (binD_ints fun a b => ?_) fun i j H Q hc q => ⟨i, j, rfl, rfl, hc, q⟩
    cases a <;> cases b <;> rfl
  | Pow =>
    refine ok_ints (C := fun i j => 0 ≤ j ∧ j ≤ 1000000 ∧ i.natAbs < 2 ^ 64) (g := fun i j => i ^ j.toNat) (binD_ints fun a b => ?_) fun i j H Q hc q => ⟨i, j, rfl, rfl, hc, q⟩
    cases a <;> cases b <;> rfl
  | _ => intro sp R H v u dx dy d Q e rv ru ef q; cases ef
variable {Φ : List Fn} {ct : Ct} {pos : Pos} {x y : Expr} {a b : IE}
theorem pv_bin {op : Operator} (ha : PE X x (rd (kc X ct) Φ ct .B a)) (hb : PE X y (rd (kc X ct) Φ ct .B b)) : PE X (.BinOp x op y pos) (rd (kc X ct) Φ ct .F (.bin op a b)) := by
  refine pe_weak (pe_op (opRule_ok op) ha hb) fun σ H Q ⟨sp, R, ρ, c, d, c', S, ev, q⟩ => ?_
  simp only [evE] at ev
  split at ev
  · rename_i dx c1 ea
    split at ev
    · rename_i dy c2 eb
      obtain ⟨d', hd, e'⟩ := Option.map_eq_some_iff.mp ev
      cases e'
      exact use2 (ok_bin op) S ea eb hd q
    · cases ev
  · cases ev
end
end Pv
end
section
set_option Elab.async false
set_option linter.all false
set_option maxRecDepth 100000
/-! Pv.F: comparisons, subscripts, slices, displays, tests over data. -/
namespace Pv
open PySem PySem.Spec L2
section
variable {X : Cx} {K : Kc} {Φ : List Fn} {ct : Ct} {pos : Pos} {x y z : Expr} {a b c : IE}

theorem ev2 {f : Dt → Dt → Option Dt} {ρ : List Sl} {c0 : Dt} {r : Dt × Dt} {e : IE} (he : evE Φ ct e ρ c0 = match evE Φ ct a ρ c0 with
    | some (x, c1) => match evE Φ ct b ρ c1 with
      | some (y, c2) => (f x y).map fun d => (d, c2)
      | none => none
    | none => none) (ev : evE Φ ct e ρ c0 = some r) : ∃ dx c1 dy, evE Φ ct a ρ c0 = some (dx, c1) ∧ evE Φ ct b ρ c1 = some (dy, r.2) ∧ f dx dy = some r.1 := by
  rw [he] at ev
  split at ev
  · rename_i dx c1 ea
    split at ev
    · rename_i dy c2 eb
      obtain ⟨d', hd, e'⟩ := Option.map_eq_some_iff.mp ev
      cases e'
      exact ⟨dx, c1, dy, ea, eb, hd⟩
    · cases ev
  · cases ev

theorem pv_neg (ha : PE X x (rd (kc X ct) Φ ct .B a)) : PE X (.UnaryOp .USub x pos) (rd (kc X ct) Φ ct .S (.neg a)) := by
  refine pe_weak (pe_un un_neg ha) fun σ H Q ⟨sp, R, ρ, c, d, c', S, ev, q⟩ => ?_
  simp only [evE] at ev
  split at ev
  · rename_i i c1 ea
    cases ev
    exact ⟨sp, R, ρ, c, _, _, S, ea, fun v R' H' e l r => by cases (Rv.rb r).int; exact ⟨i, rfl, q _ R' H' e l (.int _)⟩⟩
  · cases ev
theorem pt_of (ha : PE X x (rd (kc X ct) Φ ct .B a)) (he : ∀ whole, isTrue x X.env whole = (do let v ← whole; standAt x.pos; holding [v] (truthy v))) : PT X x (rdT (kc X ct) Φ ct a) := by
  refine pt_weak (pt_val ha he) fun σ H Q ⟨sp, R, ρ, c, b, c', S, ev, q⟩ => ?_
  exact ⟨sp, R, ρ, c, _, _, S, ev, fun v R' H' e l r => by cases (Rv.rb r).bool; exact ⟨b, rfl, q R' H' e l⟩⟩
theorem pv_not (ha : PE X x (rd (kc X ct) Φ ct .B a)) : PE X (.UnaryOp .Not x pos) (rd (kc X ct) Φ ct .S (.not_ a)) := by
  refine pe_weak (pe_not ha) fun σ H Q ⟨sp, R, ρ, c, d, c', S, ev, q⟩ => ?_
  simp only [evE] at ev
  split at ev
  · rename_i i c1 ea
    cases ev
    exact ⟨sp, R, ρ, c, _, _, S, ea, fun v R' H' e l r => by cases (Rv.rb r).bool; exact ⟨i, rfl, q _ R' H' e l (.bl _)⟩⟩
  · cases ev
theorem pt_notv (ha : PT X x (rdT (kc X ct) Φ ct a)) : PT X (.UnaryOp .Not x pos) (rdT (kc X ct) Φ ct (.not_ a)) := by
  refine pt_weak (pt_not ha) fun σ H Q ⟨sp, R, ρ, c, d, c', S, ev, q⟩ => ?_
  simp only [evE] at ev
  split at ev
  · rename_i i c1 ea
    cases ev
    exact ⟨sp, R, ρ, c, _, _, S, ea, fun R' H' e l => q R' H' e l⟩
  · cases ev

/-! ### comparisons -/
def rLtA : R2 := rI0 fun i j => .bl (decide (i < j))
/-- in, not in -/
def rInA (K : PySem.W.Frag) (neg : Bool) : R2 := fun x y H Q =>
  (∃ d ds, Dp K H x d ∧ Dp K H y (.list ds) ∧ SeqAt.shaped d = true ∧ SeqAt.shaped (.list ds) = true ∧ Q (.bl (if neg then !(ds.any fun z => PyData.eqv z d) else ds.any fun z => PyData.eqv z d)) H) ∨
  (∃ p xs, y = .ref p ∧ (SqL K H p xs ∨ SqT K H p xs) ∧ flatV x = true ∧ xs.all flatV = true ∧ Q (.bl (if neg then !inV x xs else inV x xs)) H) ∨
  ∃ a o, y = .ref a ∧ DGet H a x o ∧ Q (.bl (if neg then !o.isSome else o.isSome)) H
theorem op_inA (hu : X.A.units + 100 < cLine) : OpR X (compareOp .In) (rInA X.K false) := by
  intro pins s σ H x y v u Q I rx ry h
  rcases h with ⟨d, ds, h1, h2, h3, h4, q⟩ | ⟨p, xs, h1, h2, h3, h4, q⟩ | ⟨p, o, rfl, g, q⟩
  · exact op_inD (by omega) pins s σ H x y v u Q I rx ry ⟨d, ds, h1, h2, h3, h4, q⟩
  · exact op_in_seq pins s σ H x y v u Q I rx ry ⟨p, xs, h1, h2, h3, h4, q⟩
  · cases ry
    exact d_in (by omega) I g rx fun s' I' => ⟨.bl o.isSome, H, I', rfl, q⟩
theorem op_notInA (hu : X.A.units + 100 < cLine) : OpR X (compareOp .NotIn) (rInA X.K true) := by
  intro pins s σ H x y v u Q I rx ry h
  rcases h with ⟨d, ds, h1, h2, h3, h4, q⟩ | ⟨p, xs, h1, h2, h3, h4, q⟩ | ⟨p, o, rfl, g, q⟩
  · exact op_notInD (by omega) pins s σ H x y v u Q I rx ry ⟨d, ds, h1, h2, h3, h4, q⟩
  · exact op_notIn_seq pins s σ H x y v u Q I rx ry ⟨p, xs, h1, h2, h3, h4, q⟩
  · cases ry
    exact d_notIn (by omega) I g rx fun s' I' => ⟨.bl (!o.isSome), H, I', rfl, q⟩
def cmpRule (K : PySem.W.Frag) : CmpOp → R2
  | .Eq => rEqD K
  | .NotEq => rNeD K
  | .Lt => rI0 fun i j => .bl (decide (i < j))
  | .LtE => rI0 fun i j => .bl (decide (i ≤ j))
  | .Gt => rI0 fun i j => .bl (decide (j < i))
  | .GtE => rI0 fun i j => .bl (decide (j ≤ i))
  | .In => rInA K false
  | .NotIn => rInA K true
  | .Is => fun x y H Q => (y = .non ∧ Q (.bl (decide (x = .non))) H) ∨ rIsB x y H Q
  | .IsNot => fun x y H Q => (y = .non ∧ Q (.bl (!decide (x = .non))) H) ∨ rNotB x y H Q
theorem cmpRule_ok (hu : X.A.units + 100 < cLine) (op : CmpOp) : OpR X (compareOp op) (cmpRule X.K op) := by
  cases op with
  | Eq => exact op_eqD (by omega)
  | NotEq => exact op_neD (by omega)
  | Lt => exact op_lt
  | LtE => exact op_le
  | Gt => exact op_gt
  | GtE => exact op_ge
  | In => exact op_inA hu
  | NotIn => exact op_notInA hu
  | Is => exact fun pins s σ H x y v u Q I rx ry h => h.elim (op_isN pins s σ H x y v u Q I rx ry) (op_isBl pins s σ H x y v u Q I rx ry)
  | IsNot => exact fun pins s σ H x y v u Q I rx ry h => h.elim (op_notN pins s σ H x y v u Q I rx ry) (op_notBl pins s σ H x y v u Q I rx ry)

theorem shaped_lay {d : Dt} (h : SeqAt.shaped d = true) : PyData.canLay0 d = true := SeqAt.canLay_of_shaped h
/-- flat data -/
theorem flat_rep {K : Kc} {R : Hp} {v : V} {d : Dt} (h : Rp K R v d) (f : flatD d = true) : flatV v = true ∧ ∀ w e, Rp K R w e → flatD e = true → eqV v w = PyData.eqv d e := by
  cases h with
  | non => exact ⟨rfl, fun w e h' f' => by cases h' <;> first | rfl | cases f'⟩
  | bl i => exact ⟨rfl, fun w e h' f' => by cases h' <;> first | rfl | cases f'⟩
  | int i => exact ⟨rfl, fun w e h' f' => by cases h' <;> first | rfl | cases f'⟩
  | str i => exact ⟨rfl, fun w e h' f' => by cases h' <;> first | rfl | cases f'⟩
  | _ => cases f
theorem flat_rb {K : Kc} {R H : Hp} {v : V} {d : Dt} (h : Rb K R H v d) (f : flatD d = true) : Rp K R v d := by
  cases h with
  | sh h => exact h
  | ow _ h => cases h <;> cases f
theorem flat_all {K : Kc} {R : Hp} {w : V} {e : Dt} (hw : Rp K R w e) (fe : flatD e = true) : ∀ {xs : List V} {ds : List Dt}, RpL K R xs ds → ds.all flatD = true → xs.all flatV = true ∧ inV w xs = ds.any fun z => PyData.eqv z e
  | _, _, .nil, _ => ⟨rfl, rfl⟩
  | _, _, .cons h t, f => by
    simp only [List.all_cons, Bool.and_eq_true] at f
    obtain ⟨i1, i2⟩ := flat_all hw fe t f.2
    obtain ⟨j1, j2⟩ := flat_rep h f.1
    refine ⟨by simp [j1, i1], ?_⟩
    unfold inV at i2 ⊢
    rw [List.any_cons, List.any_cons, i2, j2 w e hw fe]
/-- a dict's look-up -/
theorem kD_key {K : Kc} {R : Hp} {v : V} {d : Dt} {k : Key} (h : Rp K R v d) (e : keyD d = some k) : v = kV k ∧ d = kD k := by
  cases h with
  | int i => cases e; exact ⟨rfl, rfl⟩
  | str i => cases e; exact ⟨rfl, rfl⟩
  | _ => cases e
theorem keyD_kD (k : Key) : keyD (kD k) = some k := by cases k <;> rfl
theorem keysD_kD : ∀ ks : List Key, keysD (ks.map kD) = some ks
  | [] => rfl
  | k :: ks => by
    simp only [List.map_cons, keysD, keyD_kD, keysD_kD ks]
theorem keysD_eq : ∀ {ds : List Dt} {ks : List Key}, keysD ds = some ks → ds = ks.map kD
  | [], _, h => by cases h; rfl
  | d :: ds, ks, h => by
    simp only [keysD] at h
    split at h
    · rename_i k ks' h1 h2
      cases h
      rw [List.map_cons, ← keysD_eq h2]
      cases d <;> simp only [keyD] at h1 <;> cases h1 <;> rfl
    · cases h
theorem kD_inj {a b : Key} (h : kD a = kD b) : a = b := by
  have := congrArg keyD h
  rw [keyD_kD, keyD_kD] at this
  exact Option.some.inj this
theorem getK_val {K : Kc} {R : Hp} {k : Key} : ∀ {kvs : List (Key × V)} {ds : List Dt}, RpL K R (kvs.map (·.2)) ds →
    ∃ o, getK ((kvs.map fun p => kD p.1).zip ds) k = some o ∧ (∀ w, valV kvs k = some w → ∃ d, o = some d ∧ Rp K R w d) ∧ (valV kvs k = none → o = none)
  | [], _, h => ⟨none, rfl, fun w q => (by rw [valV_nil] at q; cases q), fun _ => rfl⟩
  | (j, u) :: r, _, h => by
    cases h with
    | cons h1 h2 =>
      rename_i d ds
      obtain ⟨o, i1, i2, i3⟩ := getK_val (k := k) h2
      by_cases e : j = k
      · refine ⟨some d, ?_, fun w q => ?_, fun q => ?_⟩
        · simp only [List.map_cons, List.zip_cons_cons, getK, keyD_kD, if_pos e]
        · rw [valV_pos (p := (j, u)) e] at q; cases q; exact ⟨d, rfl, h1⟩
        · rw [valV_pos (p := (j, u)) e] at q; cases q
      · refine ⟨o, ?_, fun w q => ?_, fun q => ?_⟩
        · simp only [List.map_cons, List.zip_cons_cons, getK, keyD_kD, if_neg e]; exact i1
        · rw [valV_neg (p := (j, u)) e] at q; exact i2 w q
        · rw [valV_neg (p := (j, u)) e] at q; exact i3 q
theorem getT_val {K : Kc} {R : Hp} {k : List Key} : ∀ {kvs : List (List Key × V)} {ds : List Dt}, RpL K R (kvs.map (·.2)) ds →
    ∃ o, getT ((kvs.map fun p => PyData.tuple (p.1.map kD)).zip ds) k = some o ∧ (∀ w, valV kvs k = some w → ∃ d, o = some d ∧ Rp K R w d) ∧ (valV kvs k = none → o = none)
  | [], _, h => ⟨none, rfl, fun w q => (by rw [valV_nil] at q; cases q), fun _ => rfl⟩
  | (j, u) :: r, _, h => by
    cases h with
    | cons h1 h2 =>
      rename_i d ds
      obtain ⟨o, i1, i2, i3⟩ := getT_val (k := k) h2
      by_cases e : j = k
      · refine ⟨some d, ?_, fun w q => ?_, fun q => ?_⟩
        · simp only [List.map_cons, List.zip_cons_cons, getT, keysD_kD, if_pos e]
        · rw [valV_pos (p := (j, u)) e] at q; cases q; exact ⟨d, rfl, h1⟩
        · rw [valV_pos (p := (j, u)) e] at q; cases q
      · refine ⟨o, ?_, fun w q => ?_, fun q => ?_⟩
        · simp only [List.map_cons, List.zip_cons_cons, getT, keysD_kD, if_neg e]; exact i1
        · rw [valV_neg (p := (j, u)) e] at q; exact i2 w q
        · rw [valV_neg (p := (j, u)) e] at q; exact i3 q
end
end Pv
end
section
set_option Elab.async false
set_option linter.all false
set_option maxRecDepth 100000
/-! Pv.G: dicts looked up; comparisons and subscripts as words. -/
namespace Pv
open PySem PySem.Spec L2
section
variable {X : Cx} {pins : List (Addr × Obj)} {σ : St} {H : Hp} {s : Shared} {a : Addr} {y d : V} {u r : Value} {o : Option V} {A : Around} {E : Value → Shared → Prop}

theorem empty_T {P : Program} {w : World} {h : Heap} (ok : HOk P w H h) (e : Rd H a (.dK [])) : (a == sysModules) = false ∧ h.DictOfH (tupleKind (mixKind P w)) a [] := by
  obtain ⟨z, hd, vs, rel, ob, es, ep, h1, h2, h3, h4, h5, h6⟩ := dk_rd ok e
  cases rel
  have h0 : es.toList = [] := by
    cases q : es.toList with
    | nil => rfl
    | cons _ _ => rw [q] at h5; cases h5
  exact ⟨hd, ob, es, ep, h1, h2, h3, h0, fun x hx => (nomatch hx), List.nodup_nil⟩
theorem empty_K {P : Program} {w : World} {h : Heap} (ok : HOk P w H h) (e : Rd H a (.dT [])) : (a == sysModules) = false ∧ h.DictOf (mixKind P w) a [] := by
  obtain ⟨z, hd, xs, rel, ob, es, ep, h1, h2, h3, h4, h5, h6⟩ := dt_rd ok e
  cases rel
  have h0 : es.toList = [] := h4
  have h9 : es = #[] := by
    apply Array.toList_inj.mp
    rw [h0]
  refine ⟨hd, ob, es, ep, h1, h2, h3, ?_, by rw [h0]; exact .nil, List.nodup_nil⟩
  subst h9
  intro e he
  exact absurd he (by simp)
/-- what is found, empty dicts of either kind among them -/
def DGx (H : Hp) (a : Addr) (y : V) (r : Option V) : Prop :=
  DGet H a y r ∨ (Rd H a (.dK []) ∧ ∃ (b : Addr) (k : List Key), y = .ref b ∧ H b = some (.tup (k.map kV)) ∧ r = none) ∨ (Rd H a (.dT []) ∧ ∃ k : Key, y = kV k ∧ r = none)
theorem x_in {Q : Value → Shared → Prop} (hu : A.units + 1 < cLine) (I : Inv X pins σ H s) (g : DGx H a y o) (ry : RelV y u) (h : ∀ s', Inv X pins σ H s' → Q (.bool o.isSome) s') :
    wpAny (model X.prog X.w) A (compareOp .In u (.ref a)) Q E s := by
  rcases g with g | ⟨e, b, k, rfl, eb, rfl⟩ | ⟨e, k, rfl, rfl⟩
  · exact d_in hu I g ry h
  · cases ry
    obtain ⟨hd, dd⟩ := empty_T I.hok e
    exact wpAny_in_heap (tupleKind_room_in1 hu) (key_of I.hok eb) hd dd (h _ (I.tok _))
  · obtain ⟨hd, dd⟩ := empty_K I.hok e
    exact wpAny_in_of (kV_is ry) hd dd.mapOf (h _ (I.tok _))
theorem x_notIn {Q : Value → Shared → Prop} (hu : A.units + 1 < cLine) (I : Inv X pins σ H s) (g : DGx H a y o) (ry : RelV y u) (h : ∀ s', Inv X pins σ H s' → Q (.bool (!o.isSome)) s') :
    wpAny (model X.prog X.w) A (compareOp .NotIn u (.ref a)) Q E s := by
  rcases g with g | ⟨e, b, k, rfl, eb, rfl⟩ | ⟨e, k, rfl, rfl⟩
  · exact d_notIn hu I g ry h
  · cases ry
    obtain ⟨hd, dd⟩ := empty_T I.hok e
    exact PyProof.Rows.wpAny_notIn_heap (tupleKind_room_in1 hu) (key_of I.hok eb) hd dd (h _ (I.tok _))
  · obtain ⟨hd, dd⟩ := empty_K I.hok e
    exact wpAny_notIn_of (kV_is ry) hd dd.mapOf (h _ (I.tok _))
theorem x_get2 {Q : Value → Shared → Prop} (hu : A.units + 1 < cLine) (I : Inv X pins σ H s) (g : DGx H a y o) (ry : RelV y u) (rd : RelV d r) (h : ∀ w' s', Inv X pins σ H s' → RelV (o.getD d) w' → Q w' s') :
    wpAny (model X.prog X.w) A (call (.builtin "dict.get") [.ref a, u, r]) Q E s := by
  rcases g with g | ⟨e, b, k, rfl, eb, rfl⟩ | ⟨e, k, rfl, rfl⟩
  · exact d_get2 hu I g ry rd h
  · cases ry
    obtain ⟨hd, dd⟩ := empty_T I.hok e
    exact call_meetsIn PySem.F.slot_dict_get dd.typeIs PySem.F.entry_dict_get (PySem.F.args_dict_get_3 _ _ _) (meetsH_dict_get_default (tupleKind (mixKind X.prog X.w)) a b hd r) ⟨tupleKind_room_in1 hu, k, [], key_of I.hok eb, dd, h _ _ (I.tok _) rd⟩
  · obtain ⟨hd, dd⟩ := empty_K I.hok e
    exact call_meetsIn PySem.F.slot_dict_get dd.typeIs PySem.F.entry_dict_get (PySem.F.args_dict_get_3 _ _ _) (meets_dict_get_default (mixKind X.prog X.w) a (kV_is ry) hd r) ⟨_, dd.mapOf, h _ _ (I.tok _) rd⟩
end

section
variable {K : Kc} {R H : Hp} {v u : V}
theorem Rb.dict {kvs : List (Dt × Dt)} (e : Same R H) : Rb K R H v (.dict kvs) → ∃ a, v = .ref a ∧
    ((∃ (ps : List (Key × V)) (ds : List Dt), Rd H a (.dK ps) ∧ RpL K R (ps.map (·.2)) ds ∧ kvs = (ps.map fun p => kD p.1).zip ds) ∨
     ∃ (ps : List (List Key × V)) (ds : List Dt), Rd H a (.dT ps) ∧ RpL K R (ps.map (·.2)) ds ∧ kvs = (ps.map fun p => PyData.tuple (p.1.map kD)).zip ds)
  | .sh h => by
    cases h with
    | dK h1 h2 => exact ⟨_, rfl, .inl ⟨_, _, .inr ⟨_, e _ _ h1⟩, h2, rfl⟩⟩
    | dT h1 h2 => exact ⟨_, rfl, .inr ⟨_, _, .inr ⟨_, e _ _ h1⟩, h2, rfl⟩⟩
  | .ow hv h => by
    cases h with
    | dK h1 h2 => exact ⟨_, hv, .inl ⟨_, _, .inl h1, h2, rfl⟩⟩
    | dT h1 h2 => exact ⟨_, hv, .inr ⟨_, _, .inl h1, h2, rfl⟩⟩
theorem keyD_rb {d : Dt} {k : Key} (h : Rb K R H v d) (e : keyD d = some k) : v = kV k ∧ d = kD k := by
  have f : flatD d = true := by cases d <;> first | rfl | cases e
  exact kD_key (flat_rb h f) e
theorem keysL : ∀ {vs : List V} {ks : List Key}, RpL K R vs (ks.map kD) → vs = ks.map kV
  | _, [], h => by cases h; rfl
  | _, k :: ks, h => by
    cases h with
    | cons h1 h2 =>
      rw [keysL h2, (kD_key h1 (keyD_kD k)).1]
      rfl
/-- a key that is a tuple: no constant of the module -/
theorem tupKey {ds : List Dt} {ks : List Key} (kt : K.kt = false) (e : Same R H) (h : Rb K R H v (.tuple ds)) (hk : keysD ds = some ks) : ∃ b, v = .ref b ∧ H b = some (.tup (ks.map kV)) := by
  obtain ⟨a, xs, rfl, h1, h2⟩ := h.tuple e
  rw [keysD_eq hk] at h2
  rcases h1 with h1 | ⟨h1, _⟩
  · rw [keysL h2] at h1; exact ⟨a, rfl, h1⟩
  · rw [kt] at h1; cases h1
theorem getT_zipK {ps : List (Key × V)} {ds : List Dt} {j : List Key} {o : Option Dt} (hl : ps.length = ds.length) (h : getT ((ps.map fun p => kD p.1).zip ds) j = some o) : ps = [] ∧ o = none := by
  cases ps with
  | nil => cases h; exact ⟨rfl, rfl⟩
  | cons p r =>
    cases ds with
    | nil => cases hl
    | cons d ds =>
      obtain ⟨k, w⟩ := p
      cases k <;> simp [getT, kD] at h
theorem getK_zipT {ps : List (List Key × V)} {ds : List Dt} {j : Key} {o : Option Dt} (hl : ps.length = ds.length) (h : getK ((ps.map fun p => PyData.tuple (p.1.map kD)).zip ds) j = some o) : ps = [] ∧ o = none := by
  cases ps with
  | nil => cases h; exact ⟨rfl, rfl⟩
  | cons p r =>
    cases ds with
    | nil => cases hl
    | cons d ds => simp [getK, keyD] at h
/-- the look-up in the heap is that over data -/
theorem look {kvs : List (Dt × Dt)} {k : Dt} {o : Option Dt} (e : Same R H) (hv : Rb K R H v (.dict kvs)) (hu : Rb K R H u k) (h : getD K.kt kvs k = some o) :
    ∃ a w, v = .ref a ∧ DGx H a u w ∧ (∀ x, w = some x → ∃ d, o = some d ∧ Rp K R x d) ∧ (w = none → o = none) := by
  obtain ⟨a, rfl, hd⟩ := hv.dict e
  cases hk : keyD k with
  | some j =>
    obtain ⟨rfl, rfl⟩ := keyD_rb hu hk
    have h' : getK kvs j = some o := by cases j <;> exact h
    rcases hd with ⟨ps, ds, h1, h2, rfl⟩ | ⟨ps, ds, h1, h2, rfl⟩
    · obtain ⟨o', g1, g2, g3⟩ := getK_val (k := j) h2
      rw [h'] at g1; cases g1
      exact ⟨a, valV ps j, rfl, .inl (.inl ⟨ps, j, h1, rfl, rfl⟩), g2, g3⟩
    · obtain ⟨rfl, rfl⟩ := getK_zipT (by have := h2.length; rwa [List.length_map] at this) h'
      exact ⟨a, none, rfl, .inr (.inr ⟨h1, j, rfl, rfl⟩), fun x q => (nomatch q), fun _ => rfl⟩
  | none =>
    cases k with
    | tuple ds0 =>
      simp only [getD] at h
      split at h
      · cases h
      rename_i kt0
      have kt' : K.kt = false := by simpa using kt0
      split at h
      · rename_i j hj
        obtain ⟨b, rfl, hb⟩ := tupKey kt' e hu hj
        rcases hd with ⟨ps, ds, h1, h2, rfl⟩ | ⟨ps, ds, h1, h2, rfl⟩
        · obtain ⟨rfl, rfl⟩ := getT_zipK (by have := h2.length; rwa [List.length_map] at this) h
          exact ⟨a, none, rfl, .inr (.inl ⟨h1, b, j, rfl, hb, rfl⟩), fun x q => (nomatch q), fun _ => rfl⟩
        · obtain ⟨o', g1, g2, g3⟩ := getT_val (k := j) h2
          rw [h] at g1; cases g1
          exact ⟨a, valV ps j, rfl, .inl (.inr ⟨ps, j, b, h1, rfl, hb, rfl⟩), g2, g3⟩
      · cases h
    | int i => simp [keyD] at hk
    | str i => simp [keyD] at hk
    | none => simp [getD, keyD] at h
    | bool i => simp [getD, keyD] at h
    | list i => simp [getD, keyD] at h
    | dict i => simp [getD, keyD] at h
end
end Pv
end
section
set_option Elab.async false
set_option linter.all false
set_option maxRecDepth 100000
/-! Pv.H: comparisons, and/or, subscripts, slices, displays as words. -/
namespace Pv
open PySem PySem.Spec L2
/-! ### comparisons -/
def rInB (K : PySem.W.Frag) (neg : Bool) : R2 := fun x y H Q =>
  (∃ d ds, Dp K H x d ∧ Dp K H y (.list ds) ∧ SeqAt.shaped d = true ∧ SeqAt.shaped (.list ds) = true ∧ Q (.bl (if neg then !(ds.any fun z => PyData.eqv z d) else ds.any fun z => PyData.eqv z d)) H) ∨
  (∃ p xs, y = .ref p ∧ (SqL K H p xs ∨ SqT K H p xs) ∧ flatV x = true ∧ xs.all flatV = true ∧ Q (.bl (if neg then !inV x xs else inV x xs)) H) ∨
  ∃ a o, y = .ref a ∧ DGx H a x o ∧ Q (.bl (if neg then !o.isSome else o.isSome)) H
theorem op_inB {X : Cx} (hu : X.A.units + 100 < cLine) : OpR X (compareOp .In) (rInB X.K false) := by
  intro pins s σ H x y v u Q I rx ry h
  rcases h with ⟨d, ds, h1, h2, h3, h4, q⟩ | ⟨p, xs, h1, h2, h3, h4, q⟩ | ⟨p, o, rfl, g, q⟩
  · exact op_inD (by omega) pins s σ H x y v u Q I rx ry ⟨d, ds, h1, h2, h3, h4, q⟩
  · exact op_in_seq pins s σ H x y v u Q I rx ry ⟨p, xs, h1, h2, h3, h4, q⟩
  · cases ry
    exact x_in (by omega) I g rx fun s' I' => ⟨.bl o.isSome, H, I', rfl, q⟩
theorem op_notInB {X : Cx} (hu : X.A.units + 100 < cLine) : OpR X (compareOp .NotIn) (rInB X.K true) := by
  intro pins s σ H x y v u Q I rx ry h
  rcases h with ⟨d, ds, h1, h2, h3, h4, q⟩ | ⟨p, xs, h1, h2, h3, h4, q⟩ | ⟨p, o, rfl, g, q⟩
  · exact op_notInD (by omega) pins s σ H x y v u Q I rx ry ⟨d, ds, h1, h2, h3, h4, q⟩
  · exact op_notIn_seq pins s σ H x y v u Q I rx ry ⟨p, xs, h1, h2, h3, h4, q⟩
  · cases ry
    exact x_notIn (by omega) I g rx fun s' I' => ⟨.bl (!o.isSome), H, I', rfl, q⟩
def cmpR (K : PySem.W.Frag) : CmpOp → R2
  | .In => rInB K false
  | .NotIn => rInB K true
  | op => cmpRule K op
theorem cmpR_ok {X : Cx} (hu : X.A.units + 100 < cLine) (op : CmpOp) : OpR X (compareOp op) (cmpR X.K op) := by
  cases op with
  | In => exact op_inB hu
  | NotIn => exact op_notInB hu
  | Eq => exact cmpRule_ok hu .Eq
  | NotEq => exact cmpRule_ok hu .NotEq
  | Lt => exact cmpRule_ok hu .Lt
  | LtE => exact cmpRule_ok hu .LtE
  | Gt => exact cmpRule_ok hu .Gt
  | GtE => exact cmpRule_ok hu .GtE
  | Is => exact cmpRule_ok hu .Is
  | IsNot => exact cmpRule_ok hu .IsNot
section
variable {K : Kc}
theorem rb_non_iff {R H : Hp} {v : V} {d : Dt} (h : Rb K R H v d) : decide (v = .non) = isNonD d := by
  cases h with
  | sh h => cases h <;> rfl
  | ow hv h => subst hv; cases h <;> rfl
theorem ok_in (neg : Bool) : Ok2 K (rInB K.f neg) (fun a b => (inD K.kt a b).map fun z => PyData.bool (if neg then !z else z)) .S := by
  intro sp R H v u dx dy d Q e rv ru ef q
  obtain ⟨b, hb, rfl⟩ := Option.map_eq_some_iff.mp ef
  have fin : ∀ b', b = b' → Q (.bl (if neg then !b' else b')) H := fun b' z => by subst z; exact q _ R H (.refl e) keep_refl (rep_bl _ _)
  cases dy with
  | list ds =>
    simp only [inD] at hb
    split at hb
    · rename_i hh
      cases hb
      exact .inl ⟨dx, ds, rv.dp e (shaped_lay hh.1), ru.dp e (shaped_lay hh.2), hh.1, hh.2, fin _ rfl⟩
    · cases hb
  | tuple ds =>
    simp only [inD] at hb
    split at hb
    · rename_i hh
      cases hb
      obtain ⟨a, xs, rfl, h1, h2⟩ := ru.tuple e
      have rv' := flat_rb rv hh.1
      obtain ⟨i1, i2⟩ := flat_all rv' hh.1 h2 hh.2
      exact .inr (.inl ⟨a, xs, rfl, .inr h1.sq, (flat_rep rv' hh.1).1, i1, fin _ i2.symm⟩)
    · cases hb
  | dict kvs =>
    simp only [inD] at hb
    obtain ⟨o, ho, rfl⟩ := Option.map_eq_some_iff.mp hb
    obtain ⟨a, w, rfl, g, g1, g2⟩ := look e ru rv ho
    refine .inr (.inr ⟨a, w, rfl, g, ?_⟩)
    have e2 : o.isSome = w.isSome := by
      cases w with
      | none => rw [g2 rfl]; rfl
      | some x => obtain ⟨d, hd, _⟩ := g1 x rfl; rw [hd]; rfl
    exact fin _ e2
  | _ => cases hb
theorem ok_cmp (op : CmpOp) : Ok2 K (cmpR K.f op) (fun a b => (cmpD K.kt op a b).map PyData.bool) .S := by
  cases op with
  | Eq =>
    intro sp R H v u dx dy d Q e rv ru ef q
    simp only [cmpD] at ef
    split at ef
    · rename_i hh
      cases ef
      exact ⟨dx, dy, rv.dp e (shaped_lay hh.1), ru.dp e (shaped_lay hh.2), hh.1, hh.2, q _ R H (.refl e) keep_refl (rep_bl _ _)⟩
    · cases ef
  | NotEq =>
    intro sp R H v u dx dy d Q e rv ru ef q
    simp only [cmpD] at ef
    split at ef
    · rename_i hh
      cases ef
      exact ⟨dx, dy, rv.dp e (shaped_lay hh.1), ru.dp e (shaped_lay hh.2), hh.1, hh.2, q _ R H (.refl e) keep_refl (rep_bl _ _)⟩
    · cases ef
  | Lt =>
    intro sp R H v u dx dy d Q e rv ru ef q
    simp only [cmpD] at ef
    split at ef
    · cases ef; cases rv.int; cases ru.int; exact ⟨_, _, rfl, rfl, q _ R H (.refl e) keep_refl (rep_bl _ _)⟩
    · cases ef
  | LtE =>
    intro sp R H v u dx dy d Q e rv ru ef q
    simp only [cmpD] at ef
    split at ef
    · cases ef; cases rv.int; cases ru.int; exact ⟨_, _, rfl, rfl, q _ R H (.refl e) keep_refl (rep_bl _ _)⟩
    · cases ef
  | Gt =>
    intro sp R H v u dx dy d Q e rv ru ef q
    simp only [cmpD] at ef
    split at ef
    · cases ef; cases rv.int; cases ru.int; exact ⟨_, _, rfl, rfl, q _ R H (.refl e) keep_refl (rep_bl _ _)⟩
    · cases ef
  | GtE =>
    intro sp R H v u dx dy d Q e rv ru ef q
    simp only [cmpD] at ef
    split at ef
    · cases ef; cases rv.int; cases ru.int; exact ⟨_, _, rfl, rfl, q _ R H (.refl e) keep_refl (rep_bl _ _)⟩
    · cases ef
  | In => exact ok_in false
  | NotIn =>
    intro sp R H v u dx dy d Q e rv ru ef q
    refine ok_in true sp R H v u dx dy d Q e rv ru ?_ q
    simp only [cmpD] at ef
    obtain ⟨b, hb, rfl⟩ := Option.map_eq_some_iff.mp ef
    obtain ⟨b', hb', rfl⟩ := Option.map_eq_some_iff.mp hb
    simp only [hb']
    rfl
  | Is =>
    intro sp R H v u dx dy d Q e rv ru ef q
    simp only [cmpD] at ef
    split at ef
    · cases ef
      refine .inl ⟨ru.non, ?_⟩
      rw [rb_non_iff rv]
      exact q _ R H (.refl e) keep_refl (rep_bl _ _)
    · cases ef
      exact .inr ⟨_, _, rv.bool, ru.bool, q _ R H (.refl e) keep_refl (rep_bl _ _)⟩
    · cases ef
  | IsNot =>
    intro sp R H v u dx dy d Q e rv ru ef q
    simp only [cmpD] at ef
    split at ef
    · cases ef
      refine .inl ⟨ru.non, ?_⟩
      rw [rb_non_iff rv]
      exact q _ R H (.refl e) keep_refl (rep_bl _ _)
    · cases ef
      exact .inr ⟨_, _, rv.bool, ru.bool, q _ R H (.refl e) keep_refl (rep_bl _ _)⟩
    · cases ef
end
section
variable {X : Cx} {Φ : List Fn} {ct : Ct} {pos : Pos} {x y z : Expr} {a b c : IE}
theorem evC {op : CmpOp} {ρ : List Sl} {c0 d c' : Dt} (ev : evE Φ ct (.cmp op a b) ρ c0 = some (d, c')) :
    ∃ dx c1 dy, evE Φ ct a ρ c0 = some (dx, c1) ∧ evE Φ ct b ρ c1 = some (dy, c') ∧ (cmpD ct.kt op dx dy).map PyData.bool = some d := by
  simp only [evE] at ev
  split at ev
  · rename_i dx c1 ea
    split at ev
    · rename_i dy c2 eb
      obtain ⟨k, hk, e'⟩ := Option.map_eq_some_iff.mp ev
      cases e'
      exact ⟨dx, c1, dy, ea, eb, by rw [hk]; rfl⟩
    · cases ev
  · cases ev
theorem cmpD_bool {kt : Bool} {op : CmpOp} {dx dy d : Dt} (h : (cmpD kt op dx dy).map PyData.bool = some d) : ∃ b, d = .bool b := by
  obtain ⟨b, _, rfl⟩ := Option.map_eq_some_iff.mp h
  exact ⟨b, rfl⟩
theorem pv_cmp {op : CmpOp} (hu : X.A.units + 100 < cLine) (ha : PE X x (rd (kc X ct) Φ ct .B a)) (hb : PE X y (rd (kc X ct) Φ ct .B b)) (hm : behindInMarks op y = false) : PE X (.Compare x [op] [y] pos) (rd (kc X ct) Φ ct .S (.cmp op a b)) := by
  refine pe_weak (pe_cmpR (cmpR_ok hu op) ha hb hm) fun σ H Q ⟨sp, R, ρ, c, d, c', S, ev, q⟩ => ?_
  obtain ⟨dx, c1, dy, ea, eb, ef⟩ := evC ev
  exact use2 (ok_cmp op) S ea eb ef q
theorem pt_cmpv {op : CmpOp} (hu : X.A.units + 100 < cLine) (ha : PE X x (rd (kc X ct) Φ ct .B a)) (hb : PE X y (rd (kc X ct) Φ ct .B b)) (hm : behindInMarks op y = false) : PT X (.Compare x [op] [y] pos) (rdT (kc X ct) Φ ct (.cmp op a b)) := by
  refine pt_weak (pt_cmpR (cmpR_ok hu op) ha hb hm) fun σ H Q ⟨sp, R, ρ, c, d, c', S, ev, q⟩ => ?_
  obtain ⟨dx, c1, dy, ea, eb, ef⟩ := evC ev
  exact use2 (ok_cmp op) S ea eb ef fun v R' H' e l r => by cases Rp.isBool r; exact ⟨d, rfl, q R' H' e l⟩

/-! ### chains -/
theorem evCh {op op' : CmpOp} {ρ : List Sl} {c0 d c' : Dt} (ev : evE Φ ct (.chain op op' a b c) ρ c0 = some (d, c')) :
    ∃ dx c1 dy c2 k, evE Φ ct a ρ c0 = some (dx, c1) ∧ evE Φ ct b ρ c1 = some (dy, c2) ∧ cmpD ct.kt op dx dy = some k ∧
      ((k = false ∧ d = .bool false ∧ c' = c2) ∨ (k = true ∧ ∃ dz, evE Φ ct c ρ c2 = some (dz, c') ∧ (cmpD ct.kt op' dy dz).map PyData.bool = some d)) := by
  simp only [evE] at ev
  split at ev
  · rename_i dx c1 ea
    split at ev
    · rename_i dy c2 eb
      split at ev
      · rename_i ec
        split at ev
        · rename_i dz c3 e3
          obtain ⟨k, hk, e'⟩ := Option.map_eq_some_iff.mp ev
          cases e'
          exact ⟨dx, c1, dy, c2, true, ea, eb, ec, .inr ⟨rfl, dz, e3, by rw [hk]; rfl⟩⟩
        · cases ev
      · rename_i ec
        cases ev
        exact ⟨dx, c1, dy, _, false, ea, eb, ec, .inl ⟨rfl, rfl, rfl⟩⟩
      · cases ev
    · cases ev
  · cases ev
theorem chain_core {op op' : CmpOp} {σ : St} {H : Hp} {Q : VK} {sp : Option Addr} {R : Hp} {ρ : List Sl} {c0 d c' : Dt} (S : SRel (kc X ct) sp R H σ ρ c0) (ev : evE Φ ct (.chain op op' a b c) ρ c0 = some (d, c'))
    (q : ∀ v R' H', Ext sp R H R' H' → Cel (kc X ct) sp R' H' c' → RepK (kc X ct) sp H R' H' v d .S → Q v H') :
    tChain (cmpR X.K op) (cmpR X.K op') (rd (kc X ct) Φ ct .B a) (rd (kc X ct) Φ ct .B b) (rd (kc X ct) Φ ct .B c) σ H Q := by
  obtain ⟨dx, c1, dy, c2, k, ea, eb, ek, hk⟩ := evCh ev
  refine ⟨sp, R, ρ, c0, dx, c1, S, ea, fun v R1 H1 e1 l1 r1 => ⟨sp, R1, ρ, c1, dy, c2, S.ext e1 l1, eb, fun u R2 H2 e2 l2 r2 => ?_⟩⟩
  refine ok_cmp (K := kc X ct) op sp R2 H2 v u dx dy (.bool k) _ e2.le (later e2 r1) (Rv.rb r2) (by show Option.map _ (cmpD ct.kt op dx dy) = _; rw [ek]; rfl) fun w R3 H3 e3 k3 r3 => ?_
  have r3' := Rp.isBool r3
  subst r3'
  refine ⟨k, rfl, ?_⟩
  have l3 := cel_of e3 k3 l2
  have S3 := ((S.ext e1 l1).ext e2 l2).ext e3 l3
  rcases hk with ⟨rfl, rfl, rfl⟩ | ⟨rfl, dz, ez, ef⟩
  · rw [if_neg Bool.false_ne_true]
    exact q _ R3 H3 ((e1.trans e2).trans e3) l3 (.bl false)
  · rw [if_pos rfl]
    refine ⟨sp, R3, ρ, c2, dz, c', S3, ez, fun z R4 H4 e4 l4 r4 => ?_⟩
    exact ok_cmp (K := kc X ct) op' sp R4 H4 u z dy dz d _ e4.le (later (e3.trans e4) r2) (Rv.rb r4) ef fun w R5 H5 e5 k5 r5 => q w R5 H5 ((((e1.trans e2).trans e3).trans e4).trans e5) (cel_of e5 k5 l4) (RepK.low (k := .S) (fun a h => h) r5)
theorem pv_chain {op op' : CmpOp} (hu : X.A.units + 100 < cLine) (ha : PE X x (rd (kc X ct) Φ ct .B a)) (hb : PE X y (rd (kc X ct) Φ ct .B b)) (hc : PE X z (rd (kc X ct) Φ ct .B c)) (hm : lastMarks [op, op'] [y, z] = false) :
    PE X (.Compare x [op, op'] [y, z] pos) (rd (kc X ct) Φ ct .S (.chain op op' a b c)) :=
  pe_weak (pe_chain (cmpR_ok hu op) (cmpR_ok hu op') ha hb hc hm) fun σ H Q ⟨sp, R, ρ, c, d, c', S, ev, q⟩ => chain_core S ev q
theorem evCh_bool {op op' : CmpOp} {ρ : List Sl} {c0 d c' : Dt} (ev : evE Φ ct (.chain op op' a b c) ρ c0 = some (d, c')) : ∃ k, d = .bool k := by
  obtain ⟨dx, c1, dy, c2, k, ea, eb, ek, hk⟩ := evCh ev
  rcases hk with ⟨rfl, rfl, rfl⟩ | ⟨rfl, dz, ez, ef⟩
  · exact ⟨_, rfl⟩
  · exact cmpD_bool ef
theorem pt_chainv {op op' : CmpOp} (hu : X.A.units + 100 < cLine) (ha : PE X x (rd (kc X ct) Φ ct .B a)) (hb : PE X y (rd (kc X ct) Φ ct .B b)) (hc : PE X z (rd (kc X ct) Φ ct .B c)) (hm : lastMarks [op, op'] [y, z] = false) :
    PT X (.Compare x [op, op'] [y, z] pos) (rdT (kc X ct) Φ ct (.chain op op' a b c)) :=
  pt_weak (pt_chain (cmpR_ok hu op) (cmpR_ok hu op') ha hb hc hm) fun σ H Q ⟨sp, R, ρ, c, d, c', S, ev, q⟩ => chain_core S ev fun v R' H' e l r => by cases Rp.isBool r; exact ⟨d, rfl, q R' H' e l⟩

/-! ### and, or; a if t else b -/
theorem rdT_bop1 {isAnd : Bool} {o : BoolOp} (ho : (match o with | .And => isAnd | .Or => !isAnd) = true) (ha : PT X x (rdT (kc X ct) Φ ct a)) : PW X (.BoolOp o [x] pos) (rdT (kc X ct) Φ ct (.bop isAnd (.cons a .nil))) := by
  have w : ∀ σ H Q, rdT (kc X ct) Φ ct (.bop isAnd (.cons a .nil)) σ H Q → rdT (kc X ct) Φ ct a σ H Q := fun σ H Q ⟨sp, R, ρ, c, b, c', S, ev, q⟩ => by
    simp only [evE, evB] at ev
    split at ev
    · rename_i b1 c1 ea
      refine ⟨sp, R, ρ, c, b1, c1, S, ea, ?_⟩
      split at ev
      · rename_i e; cases ev; rw [e]; exact q
      · cases ev; exact q
    · cases ev
  cases o with
  | And => exact ⟨fun wh pins s σ H Q I h => (pw_and1 ha).run wh pins s σ H Q I (w σ H Q h)⟩
  | Or => exact ⟨fun wh pins s σ H Q I h => (pw_or1 ha).run wh pins s σ H Q I (w σ H Q h)⟩
theorem rdT_bop2 {isAnd : Bool} {o : BoolOp} {es : List Expr} {r : IEs} (ho : (match o with | .And => isAnd | .Or => !isAnd) = true) (ha : PT X x (rdT (kc X ct) Φ ct a)) (hr : PW X (.BoolOp o (y :: es) pos) (rdT (kc X ct) Φ ct (.bop isAnd r))) :
    PW X (.BoolOp o (x :: y :: es) pos) (rdT (kc X ct) Φ ct (.bop isAnd (.cons a r))) := by
  cases o with
  | And =>
    have hA : isAnd = true := ho
    subst hA
    refine ⟨fun wh pins s σ H Q I ⟨sp, R, ρ, c, b, c', S, ev, q⟩ => (pw_and ha hr).run wh pins s σ H Q I ?_⟩
    simp only [evE, evB] at ev
    split at ev
    · rename_i b1 c1 ea
      refine ⟨sp, R, ρ, c, b1, c1, S, ea, fun R' H' e l => ?_⟩
      cases b1 with
      | true =>
        rw [if_pos rfl] at ev ⊢
        exact ⟨sp, R', ρ, c1, b, c', S.ext e l, by simpa only [evE] using ev, fun R2 H2 e2 l2 => q R2 H2 (e.trans e2) l2⟩
      | false =>
        rw [if_neg Bool.false_ne_true] at ev ⊢
        cases ev
        exact q R' H' e l
    · cases ev
  | Or =>
    have hA : isAnd = false := by simpa using ho
    subst hA
    refine ⟨fun wh pins s σ H Q I ⟨sp, R, ρ, c, b, c', S, ev, q⟩ => (pw_or ha hr).run wh pins s σ H Q I ?_⟩
    simp only [evE, evB] at ev
    split at ev
    · rename_i b1 c1 ea
      refine ⟨sp, R, ρ, c, b1, c1, S, ea, fun R' H' e l => ?_⟩
      cases b1 with
      | false =>
        rw [if_pos rfl] at ev
        rw [if_neg Bool.false_ne_true]
        exact ⟨sp, R', ρ, c1, b, c', S.ext e l, by simpa only [evE] using ev, fun R2 H2 e2 l2 => q R2 H2 (e.trans e2) l2⟩
      | true =>
        rw [if_neg (by decide)] at ev
        rw [if_pos rfl]
        cases ev
        exact q R' H' e l
    · cases ev
theorem rd_bop1 {isAnd : Bool} {o : BoolOp} (ha : PE X x (rd (kc X ct) Φ ct .S a)) : PE X (.BoolOp o [x] pos) (rd (kc X ct) Φ ct .S (.bop isAnd (.cons a .nil))) :=
  pe_weak (pe_one ha) fun σ H Q ⟨sp, R, ρ, c, d, c', S, ev, q⟩ => by
    simp only [evE, evB] at ev
    split at ev
    · rename_i b1 c1 ea
      split at ev
      · rename_i e; cases ev; exact ⟨sp, R, ρ, c, _, _, S, ea, by rw [e]; exact q⟩
      · cases ev; exact ⟨sp, R, ρ, c, _, _, S, ea, q⟩
    · cases ev
theorem rd_bop2 {isAnd : Bool} {o : BoolOp} {es : List Expr} {r : IEs} (ho : (match o with | .And => isAnd | .Or => !isAnd) = true) (ha : PE X x (rd (kc X ct) Φ ct .S a)) (hr : PE X (.BoolOp o (y :: es) pos) (rd (kc X ct) Φ ct .S (.bop isAnd r))) :
    PE X (.BoolOp o (x :: y :: es) pos) (rd (kc X ct) Φ ct .S (.bop isAnd (.cons a r))) := by
  cases o with
  | And =>
    have hA : isAnd = true := ho
    subst hA
    refine pe_weak (pe_and ha hr) fun σ H Q ⟨sp, R, ρ, c, d, c', S, ev, q⟩ => ?_
    simp only [evE, evB] at ev
    split at ev
    · rename_i b1 c1 ea
      refine ⟨sp, R, ρ, c, _, c1, S, ea, fun v R' H' e l r => ?_⟩
      cases Rp.isBool r
      refine ⟨b1, rfl, ?_⟩
      cases b1 with
      | true =>
        rw [if_pos rfl] at ev ⊢
        exact ⟨sp, R', ρ, c1, d, c', S.ext e l, by simpa only [evE] using ev, fun w R2 H2 e2 l2 r2 => q w R2 H2 (e.trans e2) l2 r2⟩
      | false =>
        rw [if_neg Bool.false_ne_true] at ev ⊢
        cases ev
        exact q _ R' H' e l (.bl false)
    · cases ev
  | Or =>
    have hA : isAnd = false := by simpa using ho
    subst hA
    refine pe_weak (pe_or ha hr) fun σ H Q ⟨sp, R, ρ, c, d, c', S, ev, q⟩ => ?_
    simp only [evE, evB] at ev
    split at ev
    · rename_i b1 c1 ea
      refine ⟨sp, R, ρ, c, _, c1, S, ea, fun v R' H' e l r => ?_⟩
      cases Rp.isBool r
      refine ⟨b1, rfl, ?_⟩
      cases b1 with
      | false =>
        rw [if_pos rfl] at ev
        rw [if_neg Bool.false_ne_true]
        exact ⟨sp, R', ρ, c1, d, c', S.ext e l, by simpa only [evE] using ev, fun w R2 H2 e2 l2 r2 => q w R2 H2 (e.trans e2) l2 r2⟩
      | true =>
        rw [if_neg (by decide)] at ev
        rw [if_pos rfl]
        cases ev
        exact q _ R' H' e l (.bl true)
    · cases ev
theorem pv_ife {k : Kd} (hc : PT X z (rdT (kc X ct) Φ ct c)) (ha : PE X x (rd (kc X ct) Φ ct k a)) (hb : PE X y (rd (kc X ct) Φ ct k b)) : PE X (.IfExp z x y pos) (rd (kc X ct) Φ ct k (.ife c a b)) := by
  refine pe_weak (pe_ifExp hc ha hb) fun σ H Q ⟨sp, R, ρ, c0, d, c', S, ev, q⟩ => ?_
  simp only [evE] at ev
  split at ev
  · rename_i c1 ec
    refine ⟨sp, R, ρ, c0, _, c1, S, ec, fun R' H' e l => ?_⟩
    refine iteT ?_
    exact ⟨sp, R', ρ, c1, d, c', S.ext e l, ev, fun w R2 H2 e2 l2 r2 => q w R2 H2 (e.trans e2) l2 (RepK.low (fun a h => e.back h) r2)⟩
  · rename_i c1 ec
    refine ⟨sp, R, ρ, c0, _, c1, S, ec, fun R' H' e l => ?_⟩
    refine iteF ?_
    exact ⟨sp, R', ρ, c1, d, c', S.ext e l, ev, fun w R2 H2 e2 l2 r2 => q w R2 H2 (e.trans e2) l2 (RepK.low (fun a h => e.back h) r2)⟩
  · cases ev
end
end Pv
end
section
set_option Elab.async false
set_option linter.all false
set_option maxRecDepth 100000
/-! Pv.I: subscripts, slices, displays. -/
namespace Pv
open PySem PySem.Spec L2
/-! ### subscripts -/
def rIxDict : R2 := fun x y H Q => ∃ a v, x = .ref a ∧ DGet H a y (some v) ∧ Q v H
theorem ix_dict {X : Cx} (hu : X.A.units + 100 < cLine) : IxR X rIxDict := by
  intro value slice pins s σ H x y v u Q I rx ry h hs
  obtain ⟨a, w, rfl, g, q⟩ := h
  cases rx
  exact PyProof.Rows.tail_any (dict_typeIs I g) PySem.F.slot_dict_getitem.lookup (d_getItem (by omega) I g ry fun w' s3 I3 rw' => ⟨w, H, I3, rw', q⟩) hs
def rIxA (K : PySem.W.Frag) : R2 := fun x y H Q => rIxL K x y H Q ∨ rIxT K x y H Q ∨ rIxDict x y H Q
theorem ix_A {X : Cx} (hu : X.A.units + 100 < cLine) : IxR X (rIxA X.K) := ix_list.or (ix_tup.or (ix_dict hu))
section
variable {K : Kc}
theorem atI_rep {R : Hp} {xs : List V} {ds : List Dt} {i : Int} {d : Dt} (h : RpL K R xs ds) (e : atI ds i = some d) : ∃ v, atI xs i = some v ∧ Rp K R v d := by
  unfold atI at e ⊢
  rw [h.length]
  cases q : ixN ds.length i with
  | none => rw [q] at e; cases e
  | some j =>
    rw [q] at e
    obtain ⟨v, h1, h2⟩ := h.get (i := j) (d := d) e
    exact ⟨v, h1, h2⟩
theorem ok_ix : Ok2 K (rIxA K.f) (ixD K.kt) .S := by
  intro sp R H v u dx dy d Q e rv ru ef q
  cases dx with
  | list xs =>
    cases dy with
    | int i =>
      obtain ⟨a, vs, rfl, h1, h2⟩ := rv.list e
      cases ru.int
      obtain ⟨w, k1, k2⟩ := atI_rep h2 (show atI xs i = some d from ef)
      exact .inl ⟨a, vs, i, w, rfl, rfl, .inl h1, k1, q w R H (.refl e) keep_refl k2⟩
    | _ => cases ef
  | tuple xs =>
    cases dy with
    | int i =>
      obtain ⟨a, vs, rfl, h1, h2⟩ := rv.tuple e
      cases ru.int
      obtain ⟨w, k1, k2⟩ := atI_rep h2 (show atI xs i = some d from ef)
      exact .inr (.inl ⟨a, vs, i, w, rfl, rfl, h1.sq, k1, q w R H (.refl e) keep_refl k2⟩)
    | _ => cases ef
  | dict kvs =>
    have ef' : (match getD K.kt kvs dy with | some (some v) => some v | _ => none) = some d := by cases dy <;> exact ef
    split at ef'
    · rename_i d' hg
      cases ef'
      obtain ⟨a, w, rfl, g, g1, g2⟩ := look e rv ru hg
      cases w with
      | none => have := g2 rfl; cases this
      | some w =>
        obtain ⟨d2, h1, h2⟩ := g1 w rfl
        cases h1
        rcases g with g | ⟨_, _, _, _, _, z⟩ | ⟨_, _, _, z⟩
        · exact .inr (.inr ⟨a, w, rfl, g, q w R H (.refl e) keep_refl h2⟩)
        · cases z
        · cases z
    · cases ef'
  | _ => cases ef
end
section
variable {X : Cx} {Φ : List Fn} {ct : Ct} {pos : Pos} {x y z : Expr} {a b c : IE}
theorem pv_ix (hu : X.A.units + 100 < cLine) (ha : PE X x (rd (kc X ct) Φ ct .B a)) (hb : PE X y (rd (kc X ct) Φ ct .B b)) (hs : PlainIx y) : PE X (.Subscript x y pos) (rd (kc X ct) Φ ct .S (.ix a b)) := by
  refine pe_weak (pe_ix (ix_A hu) ha hb hs) fun σ H Q ⟨sp, R, ρ, c, d, c', S, ev, q⟩ => ?_
  obtain ⟨dx, c1, dy, ea, eb, ef⟩ := ev2 (a := a) (b := b) (f := ixD ct.kt) (r := (d, c')) (by simp only [evE] <;> rfl) ev
  exact use2 (ok_ix (K := kc X ct)) S ea eb ef q
theorem ixOk_plain (h : ixOk y = true) : PlainIx y := by
  intro o i
  cases y <;> first | rfl | cases h
/-- the cell at a written place -/
theorem pv_cix {i : Nat} {n : Str} {k : Key} {p : Pos} {e : Expr} (hu : X.A.units + 100 < cLine) (hN : X.N[i]? = some n) (hv : Vis X.env.scope n) (h1 : (n == ("__debug__" : Str)) = false) (h2 : (n == ("__classdict__" : Str)) = false)
    (he : PE X e (tC (kV k))) (hs : PlainIx e) : PE X (.Subscript (.Name n p) e pos) (rd (kc X ct) Φ ct .S (.cix i k)) := by
  refine pe_weak (pe_ix (ix_A hu) (pe_var hN hv h1 h2) he hs) fun σ H Q ⟨sp, R, ρ, c, d, c', S, ev, q⟩ => ?_
  simp only [evE] at ev
  by_cases hc : slotC ρ i = true
  · rw [if_pos hc] at ev
    cases hs : ρ[i]? with
    | none => unfold slotC at hc; rw [hs] at hc; cases hc
    | some z =>
      cases z with
      | no => unfold slotC at hc; rw [hs] at hc; cases hc
      | sh _ => unfold slotC at hc; rw [hs] at hc; cases hc
      | own _ => unfold slotC at hc; rw [hs] at hc; cases hc
      | cell =>
      obtain ⟨d', hd, e'⟩ := Option.map_eq_some_iff.mp ev
      cases e'
      obtain ⟨a, g1, g2⟩ := S.slot i _ hs
      refine ⟨_, g1, ?_⟩
      have ob := (S.cel a g2).2
      have rk : Rb (kc X ct) R H (kV k) (kD k) := by cases k <;> exact .sh (by constructor)
      exact ok_ix (K := kc X ct) sp R H (.ref a) (kV k) c (kD k) d Q S.le (.ow rfl ob) rk hd fun w R' H' e1 k1 r => q w R' H' e1 (cel_of e1 k1 S.cell) r
  · rw [if_neg hc] at ev; cases ev
end
/-! ### slices -/
section
variable {K : Kc}
theorem cut_rep {R : Hp} {xs : List V} {ds : List Dt} (h : RpL K R xs ds) (lo hi : Option Int) : RpL K R (cutV xs lo hi) (cutD ds lo hi) := by
  unfold cutV cutD
  rw [h.length]
  exact (h.drop _).take _
theorem cut_all {α : Type} {xs : List α} {lo hi : Option Int} (h : HT.sIx xs.length 0 lo = 0 ∧ HT.sIx xs.length xs.length hi = xs.length) : (xs.drop (HT.sIx xs.length 0 lo)).take (HT.sIx xs.length xs.length hi - HT.sIx xs.length 0 lo) = xs := by
  rw [h.1, h.2]; simp
def rSlAll (K : PySem.W.Frag) : V → Option Int → Option Int → Hp → VK → Prop := fun x lo hi H Q => rSlL K x lo hi H Q ∨ rSlA K x lo hi H Q
theorem sl_all {X : Cx} : SlR X (rSlAll X.K) := sl_list.or sl_tupA
theorem ok_sl {sp : Option Addr} {R H : Hp} {v : V} {dx d : Dt} {lo hi : Option Int} {Q : VK} (e : Same R H) (rv : Rb K R H v dx) (ef : slD dx lo hi = some d)
    (q : ∀ w R' H', Ext sp R H R' H' → (∀ a, sp = some a → ∀ o, H a = some o → H' a = some o) → RepK K sp H R' H' w d .F → Q w H') : rSlAll K.f v lo hi H Q := by
  cases dx with
  | list xs =>
    cases ef
    obtain ⟨a, vs, rfl, h1, h2⟩ := rv.list e
    refine .inl ⟨a, vs, rfl, .inl h1, fun p hp => ?_⟩
    obtain ⟨x1, x2⟩ := new_lst (sp := sp) e hp (cut_rep h2 lo hi)
    exact q _ _ _ x1 (keep_upd hp) x2
  | tuple xs =>
    cases ef
    obtain ⟨a, vs, rfl, h1, h2⟩ := rv.tuple e
    refine .inr ⟨a, vs, rfl, h1.sq, fun z => ?_, fun z p hp => ?_⟩
    · have ez : cutD xs lo hi = xs := by unfold cutD; rw [h2.length] at z; exact cut_all z
      refine q _ R H (.refl e) keep_refl (rep_S ?_ rfl)
      rw [ez]
      cases rv with
      | sh h => exact h
      | ow hv h => cases h
    · obtain ⟨x1, x2⟩ := new_tup (sp := sp) e hp (cut_rep h2 lo hi)
      exact q _ _ _ x1 (keep_upd hp) (rep_S x2 rfl)
  | _ => cases ef
end
/-- an optional part of a slice -/
def rdO (K : Kc) (Φ : List Fn) (ct : Ct) (es : IEs) : TO := fun σ H Q =>
  ∃ (sp : Option Addr) (R : Hp) (ρ : List Sl) (c : Dt) (l : List Sl) (o : Option Int) (c' : Dt), SRel K sp R H σ ρ c ∧ evEs Φ ct es ρ c = some (l, c') ∧ oneInt l = some o ∧
    ∀ R' H', Ext sp R H R' H' → Cel K sp R' H' c' → Q o H'
section
variable {X : Cx} {Φ : List Fn} {ct : Ct} {pos p2 : Pos} {x y z : Expr} {a b c : IE}
theorem po_weak {o : Option Expr} {t t' : TO} (h : PO X o t) (w : ∀ σ H Q, t' σ H Q → t σ H Q) : PO X o t' := ⟨fun pins s σ H Q I q => h.run pins s σ H Q I (w σ H Q q)⟩
theorem po_n : PO X none (rdO (kc X ct) Φ ct .nil) := po_weak po_none fun σ H Q ⟨sp, R, ρ, c, l, o, c', S, ev, h, q⟩ => by cases ev; cases h; exact q R H (.refl S.le) S.cell
theorem po_s (ha : PE X x (rd (kc X ct) Φ ct .B a)) : PO X (some x) (rdO (kc X ct) Φ ct (.cons a .nil)) := po_weak (po_some ha) fun σ H Q ⟨sp, R, ρ, c, l, o, c', S, ev, h, q⟩ => by
  simp only [evEs] at ev
  split at ev
  · rename_i d c1 ea
    cases ev
    cases d with
    | int i =>
      cases h
      exact ⟨sp, R, ρ, c, _, _, S, ea, fun v R' H' e l r => ⟨i, (Rv.rb r).int, q R' H' e l⟩⟩
    | _ => cases h
  · cases ev
theorem pv_sl {lo hi : Option Expr} {le he : IEs} (ha : PE X x (rd (kc X ct) Φ ct .B a)) (hl : PO X lo (rdO (kc X ct) Φ ct le)) (hh : PO X hi (rdO (kc X ct) Φ ct he)) : PE X (.Subscript x (.Slice lo hi none p2) pos) (rd (kc X ct) Φ ct .F (.sl a le he)) := by
  refine pe_weak (pe_slice sl_all ha hl hh) fun σ H Q ⟨sp, R, ρ, c, d, c', S, ev, q⟩ => ?_
  simp only [evE] at ev
  split at ev
  · rename_i dx c1 ea
    split at ev
    · rename_i l c2 el
      split at ev
      · rename_i h c3 eh
        split at ev
        · rename_i l' h' ol oh
          obtain ⟨d', hd, e'⟩ := Option.map_eq_some_iff.mp ev
          cases e'
          refine ⟨sp, R, ρ, c, dx, c1, S, ea, fun v R1 H1 e1 l1 r1 => ⟨sp, R1, ρ, c1, l, l', c2, S.ext e1 l1, el, ol, fun R2 H2 e2 l2 => ⟨sp, R2, ρ, c2, h, h', _, (S.ext e1 l1).ext e2 l2, eh, oh, fun R3 H3 e3 l3 => ?_⟩⟩⟩
          exact ok_sl (K := kc X ct) (sp := sp) e3.le (later (e2.trans e3) r1) hd fun w R4 H4 e4 k4 r4 => q w R4 H4 (((e1.trans e2).trans e3).trans e4) (cel_of e4 k4 l3) (RepK.low (fun a h => ((e1.trans e2).trans e3).back h) r4)
        · cases ev
      · cases ev
    · cases ev
  · cases ev

/-! ### arguments, displays -/
/-- a written value, or the cell -/
inductive Arg (K : Kc) (sp : Option Addr) (R : Hp) : V → Sl → Prop
  | sh {v : V} {d : Dt} : Rp K R v d → Arg K sp R v (.sh d)
  | cell {a : Addr} : sp = some a → Arg K sp R (.ref a) .cell
abbrev Args (K : Kc) (sp : Option Addr) (R : Hp) : List V → List Sl → Prop := Paired (Arg K sp R)
theorem Arg.mono {K : Kc} {sp : Option Addr} {R R' : Hp} {v : V} {x : Sl} (e : Same R R') : Arg K sp R v x → Arg K sp R' v x
  | .sh h => .sh (h.mono e)
  | .cell h => .cell h
theorem Args.mono {K : Kc} {sp : Option Addr} {R R' : Hp} (e : Same R R') : ∀ {vs : List V} {l : List Sl}, Args K sp R vs l → Args K sp R' vs l
  | _, _, .nil => .nil
  | _, _, .cons h t => .cons (h.mono e) (Args.mono e t)
theorem Args.app {K : Kc} {sp : Option Addr} {R : Hp} : ∀ {vs ws : List V} {l m : List Sl}, Args K sp R vs l → Args K sp R ws m → Args K sp R (vs ++ ws) (l ++ m)
  | _, _, _, _, .nil, h => h
  | _, _, _, _, .cons h t, q => .cons h (Args.app t q)
theorem Args.of {K : Kc} {sp : Option Addr} {R : Hp} : ∀ {vs : List V} {ds : List Dt}, RpL K R vs ds → Args K sp R vs (ds.map .sh)
  | _, _, .nil => .nil
  | _, _, .cons h t => .cons (.sh h) (Args.of t)
theorem Args.all {K : Kc} {sp : Option Addr} {R : Hp} : ∀ {vs : List V} {l : List Sl} {ds : List Dt}, Args K sp R vs l → allSh l = some ds → RpL K R vs ds
  | _, _, _, .nil, e => by cases e; exact .nil
  | _, _, _, .cons h t, e => by
    cases h with
    | sh h =>
      simp only [allSh] at e
      split at e
      · rename_i l' hl
        cases e
        exact .cons h (Args.all t hl)
      · cases e
    | cell h => cases e
def rdA (K : Kc) (Φ : List Fn) (ct : Ct) (es : IEs) : TA := fun σ H Q =>
  ∃ (sp : Option Addr) (R : Hp) (ρ : List Sl) (c : Dt) (l : List Sl) (c' : Dt), SRel K sp R H σ ρ c ∧ evEs Φ ct es ρ c = some (l, c') ∧
    ∀ vs R' H', Ext sp R H R' H' → Cel K sp R' H' c' → Args K sp R' vs l → Q vs H'
theorem pa_weak {es : List Expr} {t t' : TA} (h : PA X es t) (w : ∀ σ H Q, t' σ H Q → t σ H Q) : PA X es t' := ⟨fun pos pins s σ H Q I q => h.run pos pins s σ H Q I (w σ H Q q)⟩
theorem star_no (h : notStar x = true) (es : List Expr) (env : Env) : starEach (x :: es) env = (false, eval x env) :: starEach es env := by
  cases x <;> first | rfl | cases h
theorem qa_nil : PA X [] (rdA (kc X ct) Φ ct .nil) := pa_weak pa_nil fun σ H Q ⟨sp, R, ρ, c, l, c', S, ev, q⟩ => by cases ev; exact q [] R H (.refl S.le) S.cell .nil
theorem qa_cons {es : List Expr} {r : IEs} (ha : PE X x (rd (kc X ct) Φ ct .S a)) (hs : notStar x = true) (hr : PA X es (rdA (kc X ct) Φ ct r)) : PA X (x :: es) (rdA (kc X ct) Φ ct (.cons a r)) := by
  refine pa_weak (pa_cons ha hr (star_no hs _ _)) fun σ H Q ⟨sp, R, ρ, c, l, c', S, ev, q⟩ => ?_
  simp only [evEs] at ev
  split at ev
  · rename_i d c1 ea
    split at ev
    · rename_i l' c2 er
      cases ev
      refine ⟨sp, R, ρ, c, d, c1, S, ea, fun v R1 H1 e1 l1 r1 => ⟨sp, R1, ρ, c1, l', _, S.ext e1 l1, er, fun vs R2 H2 e2 l2 r2 => ?_⟩⟩
      exact q _ R2 H2 (e1.trans e2) l2 (.cons (.sh (Rp.mono e2.r r1)) r2)
    · cases ev
  · cases ev
theorem qa_cel {es : List Expr} {r : IEs} {i : Nat} {n : Str} {p : Pos} (hN : X.N[i]? = some n) (hv : Vis X.env.scope n) (h1 : (n == ("__debug__" : Str)) = false) (h2 : (n == ("__classdict__" : Str)) = false) (hr : PA X es (rdA (kc X ct) Φ ct r)) :
    PA X (.Name n p :: es) (rdA (kc X ct) Φ ct (.cel i r)) := by
  refine pa_weak (pa_cons (pe_var hN hv h1 h2) hr (star_no rfl _ _)) fun σ H Q ⟨sp, R, ρ, c, l, c', S, ev, q⟩ => ?_
  simp only [evEs] at ev
  split at ev
  · rename_i hs
    split at ev
    · rename_i l' c2 er
      cases ev
      obtain ⟨a, g1, g2⟩ := S.slot i _ hs
      exact ⟨_, g1, sp, R, ρ, c, l', _, S, er, fun vs R2 H2 e2 l2 r2 => q _ R2 H2 e2 l2 (.cons (.cell g2) r2)⟩
    · cases ev
  · cases ev
theorem qa_star {es : List Expr} {r : IEs} {p : Pos} (ha : PE X x (rd (kc X ct) Φ ct .S a)) (hr : PA X es (rdA (kc X ct) Φ ct r)) : PA X (.Starred x p :: es) (rdA (kc X ct) Φ ct (.star a r)) := by
  refine pa_weak (StX.pa_star ha hr) fun σ H Q ⟨sp, R, ρ, c, l, c', S, ev, q⟩ => ?_
  simp only [evEs] at ev
  split at ev
  · rename_i d c1 ea
    split at ev
    · rename_i ds hd
      split at ev
      · rename_i l' c2 er
        cases ev
        refine ⟨sp, R, ρ, c, d, c1, S, ea, fun v R1 H1 e1 l1 r1 => ?_⟩
        have key : ∃ p xs, v = V.ref p ∧ (SqT X.K H1 p xs ∨ SqL X.K H1 p xs) ∧ RpL (kc X ct) R1 xs ds := by
          have r1' : Rp (kc X ct) R1 v d := r1
          cases d with
          | list xs =>
            cases hd
            obtain ⟨a, vs, rfl, k1, k2⟩ := (Rb.sh (H := H1) r1').list e1.le
            exact ⟨a, vs, rfl, .inr (.inl k1), k2⟩
          | tuple xs =>
            cases hd
            obtain ⟨a, vs, rfl, k1, k2⟩ := (Rb.sh (H := H1) r1').tuple e1.le
            exact ⟨a, vs, rfl, .inl k1.sq, k2⟩
          | _ => cases hd
        obtain ⟨p, xs, rfl, k1, k2⟩ := key
        exact ⟨p, xs, rfl, k1, sp, R1, ρ, c1, l', _, S.ext e1 l1, er, fun vs R2 H2 e2 l2 r2 => q _ R2 H2 (e1.trans e2) l2 ((Args.of (k2.mono e2.r)).app r2)⟩
      · cases ev
    · cases ev
  · cases ev
theorem evT {es : IEs} {f : List Dt → Dt} {ρ : List Sl} {c0 d c' : Dt} (ev : (match evEs Φ ct es ρ c0 with
    | some (l, c1) => match allSh l with
      | some ds => if ds.length ≤ line then some (f ds, c1) else none
      | none => none
    | none => none) = some (d, c')) : ∃ l ds, evEs Φ ct es ρ c0 = some (l, c') ∧ allSh l = some ds ∧ ds.length ≤ line ∧ d = f ds := by
  split at ev
  · rename_i l c1 e1
    split at ev
    · rename_i ds hd
      split at ev
      · rename_i hl
        cases ev
        exact ⟨l, ds, e1, hd, hl, rfl⟩
      · cases ev
    · cases ev
  · cases ev
theorem pv_tup {es : List Expr} {r : IEs} {k : Nat} (h : PA X es (rdA (kc X ct) Φ ct r)) : PE X (.Tuple es k pos) (rd (kc X ct) Φ ct .S (.tup r)) := by
  refine pe_weak (pe_tup h) fun σ H Q ⟨sp, R, ρ, c, d, c', S, ev, q⟩ => ?_
  simp only [evE] at ev
  obtain ⟨l, ds, e1, hd, hl, rfl⟩ := evT ev
  refine ⟨sp, R, ρ, c, l, c', S, e1, fun vs R' H' e l2 r => ?_⟩
  have rr := r.all hd
  refine ⟨by rw [rr.length, line_eq]; exact hl, fun p hp => ?_⟩
  obtain ⟨x1, x2⟩ := new_tup (sp := sp) e.le hp rr
  exact q _ _ _ (e.trans x1) (cel_of x1 (keep_upd hp) l2) x2
theorem pv_lst {es : List Expr} {r : IEs} (h : PA X es (rdA (kc X ct) Φ ct r)) : PE X (.List es pos) (rd (kc X ct) Φ ct .F (.lst r)) := by
  refine pe_weak (pe_lst h) fun σ H Q ⟨sp, R, ρ, c, d, c', S, ev, q⟩ => ?_
  simp only [evE] at ev
  obtain ⟨l, ds, e1, hd, hl, rfl⟩ := evT ev
  refine ⟨sp, R, ρ, c, l, c', S, e1, fun vs R' H' e l2 r => ?_⟩
  have rr := r.all hd
  refine ⟨by rw [rr.length, line_eq]; exact hl, fun p hp => ?_⟩
  obtain ⟨x1, x2⟩ := new_lst (sp := sp) e.le hp rr
  exact q _ _ _ (e.trans x1) (cel_of x1 (keep_upd hp) l2) (RepK.low (fun a h => e.back h) x2)
/-- a list, locked or not, times an int -/
def rRepR : R2 := fun x y H Q => ∃ l k xs, x = .ref l ∧ y = .int k ∧ Rd H l (.lst xs) ∧ (-(2 ^ 63) ≤ k ∧ k < 2 ^ 63 ∧ xs.length * k.toNat ≤ sizeLine) ∧
  ∀ p, H p = none → Q (.ref p) (upd H p (.lst (List.replicate k.toNat xs).flatten))
theorem op_repR : OpR X (binaryOp .Mult) rRepR := by
  intro pins s σ H x y v u Q I rx ry ⟨l, k, xs, ex, ey, hH, ⟨h1, h2, hz⟩, q⟩
  subst ex ey
  cases rx
  obtain ⟨t, et⟩ := ry
  subst et
  obtain ⟨z, its, n, r, e⟩ := hH.ok I.hok
  have hl := r.length
  have hlen : its.toArray.size * k.toNat ≤ sizeLine := by simpa only [List.size_toArray, ← hl] using hz
  have hbig : (sizeLine : Nat) ≤ (2 ^ 63 - 1) / 8 := by decide
  have hcap : ¬ its.toArray.size * k.toNat > (2 ^ 63 - 1) / 8 := by omega
  have hfit : ¬ (!Builtin.List.listFitsIndex k) = true := by
    intro hh
    rw [fitsIndex_both h1 h2] at hh
    cases hh
  have hlong : ¬ Builtin.List.listTooLong (its.toArray.size * k.toNat) = true := by
    intro hh
    rw [notLongL hlen] at hh
    cases hh
  have f0 : ∀ m : Nat, List.foldl (fun a b => a ++ b) #[] (List.replicate m its.toArray) = (List.replicate m its).flatten.toArray := fun m => by
    simpa using foldl_rep its m []
  have hnew : List.foldl (fun a b => a ++ b) #[] (List.replicate (if its.toArray.isEmpty = true then 0 else k.toNat) its.toArray) = (List.replicate k.toNat its).flatten.toArray := by
    rw [f0]
    cases its with
    | nil => simp
    | cons _ _ => rw [if_neg (by simp)]
  refine wpAny_binaryOp_repeat_ref (T := "list") (U := "int") (by decide) ⟨_, e, rfl⟩
    (fun s' => typeIs_int s' k t) noFill_list_mul F.fills_int_mul F.slot_int_rmul repeat_list F.slot_int_index.lookup
    (call_meets F.slot_int_rmul (typeIs_int s k t) F.entry_int_rmul (F.args_int_rmul_2 _ _)
      (int___rmul___int_list k t l its.toArray n) ⟨e, rfl, ⟨_, e, rfl⟩, call_meets F.slot_list_mul ⟨_, e, rfl⟩ F.entry_list_mul
        (F.args_list_mul_2 _ _) (AutoListH.list___mul___list_int_3 l its.toArray n k t hfit hcap hlong) ⟨e, ?_⟩⟩)
  rw [hnew]
  refine ⟨.ref _, _, I.lnew (t' := s.toks) (r.rep k.toNat) ?_, rfl, q _ I.fresh⟩
  rw [PyProof.Rows.lm_len_rep_flat, Nat.mul_comm]
  exact hz
/-- a list times an int -/
theorem pv_rep (ha : PE X x (rd (kc X ct) Φ ct .B a)) (hb : PE X y (rd (kc X ct) Φ ct .B b)) : PE X (.BinOp x .Mult y pos) (rd (kc X ct) Φ ct .F (.rep a b)) := by
  refine pe_weak (pe_op op_repR ha hb) fun σ H Q ⟨sp, R, ρ, c, d, c', S, ev, q⟩ => ?_
  obtain ⟨dx, c1, dy, ea, eb, ef⟩ := ev2 (a := a) (b := b) (f := repD) (r := (d, c')) (by simp only [evE] <;> rfl) ev
  refine ⟨sp, R, ρ, c, dx, c1, S, ea, fun v R1 H1 e1 l1 r1 => ⟨sp, R1, ρ, c1, dy, c', S.ext e1 l1, eb, fun u R2 H2 e2 l2 r2 => ?_⟩⟩
  cases dx with
  | list xs =>
    cases dy with
    | int k =>
      simp only [repD] at ef
      split at ef
      · rename_i hk
        cases ef
        cases (Rv.rb r2).int
        obtain ⟨p, vs, rfl, k1, k2⟩ := (Rv.rb (Rv.ext e2 r1)).list e2.le
        refine ⟨p, k, vs, rfl, rfl, k1, ⟨hk.1, hk.2.1, by rw [k2.length, line_eq]; exact hk.2.2⟩, fun p' hp => ?_⟩
        obtain ⟨x1, x2⟩ := new_lst (sp := sp) e2.le hp (k2.rep k.toNat)
        exact q _ _ _ ((e1.trans e2).trans x1) (cel_of x1 (keep_upd hp) l2) (RepK.low (fun a h => (e1.trans e2).back h) x2)
      · cases ef
    | _ => cases ef
  | _ => cases dy <;> cases ef
end
end Pv
end
section
set_option Elab.async false
set_option linter.all false
set_option maxRecDepth 100000
/-! Pv.J: built-in functions over data. -/
namespace Pv
open PySem PySem.Spec L2
/-! ### arguments that are looked at -/
abbrev ArgB (K : Kc) (sp : Option Addr) (R H : Hp) : List V → List Dt → Prop := Paired (Rv K sp R H)
def rdB (K : Kc) (Φ : List Fn) (ct : Ct) (es : IEs) : TA := fun σ H Q =>
  ∃ (sp : Option Addr) (R : Hp) (ρ : List Sl) (c : Dt) (l : List Sl) (ds : List Dt) (c' : Dt), SRel K sp R H σ ρ c ∧ evEs Φ ct es ρ c = some (l, c') ∧ allSh l = some ds ∧
    ∀ vs R' H', Ext sp R H R' H' → Cel K sp R' H' c' → ArgB K sp R' H' vs ds → Q vs H'
section
variable {X : Cx} {Φ : List Fn} {ct : Ct} {pos p2 : Pos} {x y z : Expr} {a b c : IE}
theorem qb_nil : PA X [] (rdB (kc X ct) Φ ct .nil) := pa_weak pa_nil fun σ H Q ⟨sp, R, ρ, c, l, ds, c', S, ev, h, q⟩ => by cases ev; cases h; exact q [] R H (.refl S.le) S.cell .nil
theorem qb_cons {es : List Expr} {r : IEs} (ha : PE X x (rd (kc X ct) Φ ct .B a)) (hs : notStar x = true) (hr : PA X es (rdB (kc X ct) Φ ct r)) : PA X (x :: es) (rdB (kc X ct) Φ ct (.cons a r)) := by
  refine pa_weak (pa_cons ha hr (star_no hs _ _)) fun σ H Q ⟨sp, R, ρ, c, l, ds, c', S, ev, hd, q⟩ => ?_
  simp only [evEs] at ev
  split at ev
  · rename_i d c1 ea
    split at ev
    · rename_i l' c2 er
      cases ev
      simp only [allSh] at hd
      split at hd
      · rename_i ds' hd'
        cases hd
        refine ⟨sp, R, ρ, c, d, c1, S, ea, fun v R1 H1 e1 l1 r1 => ⟨sp, R1, ρ, c1, l', ds', _, S.ext e1 l1, er, hd', fun vs R2 H2 e2 l2 r2 => ?_⟩⟩
        exact q _ R2 H2 (e1.trans e2) l2 (.cons (Rv.ext e2 r1) r2)
      · cases hd
    · cases ev
  · cases ev
end
/-- a rule of a call by values, told over data -/
def OkN (K : Kc) (r : List V → Hp → VK → Prop) (f : List Dt → Option Dt) (k : Kd) : Prop :=
  ∀ (sp : Option Addr) (R H : Hp) (vs : List V) (ds : List Dt) (d : Dt) (Q : VK), Same R H → Paired (Rb K R H) vs ds → f ds = some d →
    (∀ w R' H', Ext sp R H R' H' → (∀ a, sp = some a → ∀ o, H a = some o → H' a = some o) → RepK K sp H R' H' w d k → Q w H') → r vs H Q
theorem argB_rb {K : Kc} {sp : Option Addr} {R H : Hp} : ∀ {vs : List V} {ds : List Dt}, ArgB K sp R H vs ds → Paired (Rb K R H) vs ds
  | _, _, .nil => .nil
  | _, _, .cons h t => .cons h.rb (argB_rb t)
section
variable {K : Kc}
theorem pair1 {R H : Hp} {vs : List V} {d : Dt} (h : Paired (Rb K R H) vs [d]) : ∃ v, vs = [v] ∧ Rb K R H v d := by
  cases h with
  | cons h t => cases t; exact ⟨_, rfl, h⟩
theorem pair2 {R H : Hp} {vs : List V} {d e : Dt} (h : Paired (Rb K R H) vs [d, e]) : ∃ v u, vs = [v, u] ∧ Rb K R H v d ∧ Rb K R H u e := by
  cases h with
  | cons h t =>
    cases t with
    | cons h2 t => cases t; exact ⟨_, _, rfl, h, h2⟩
theorem intsD_eq : ∀ {ds : List Dt} {l : List Int}, intsD ds = some l → ds = l.map PyData.int
  | [], l, h => by cases h; rfl
  | d :: ds, l, h => by
    cases d with
    | int i =>
      simp only [intsD] at h
      split at h
      · rename_i l' hl
        cases h
        rw [intsD_eq hl]; rfl
      · cases h
    | _ => simp only [intsD] at h; cases h
theorem intsD_map : ∀ l : List Int, intsD (l.map PyData.int) = some l
  | [] => rfl
  | i :: l => by simp only [List.map_cons, intsD, intsD_map l]
theorem boolsD_eq : ∀ {ds : List Dt} {l : List Bool}, boolsD ds = some l → ds = l.map PyData.bool
  | [], l, h => by cases h; rfl
  | d :: ds, l, h => by
    cases d with
    | bool i =>
      simp only [boolsD] at h
      split at h
      · rename_i l' hl
        cases h
        rw [boolsD_eq hl]; rfl
      · cases h
    | _ => simp only [boolsD] at h; cases h
theorem boolsD_map : ∀ l : List Bool, boolsD (l.map PyData.bool) = some l
  | [] => rfl
  | i :: l => by simp only [List.map_cons, boolsD, boolsD_map l]
theorem maxL_mem : ∀ {x : Int} {r : List Int}, maxL (x :: r) ∈ x :: r ∧ ∀ y ∈ x :: r, y ≤ maxL (x :: r)
  | x, [] => ⟨by simp [maxL], fun y hy => by simp at hy; simp [maxL, hy]⟩
  | x, z :: r => by
    obtain ⟨h1, h2⟩ := maxL_mem (x := z) (r := r)
    show (if maxL (z :: r) > x then maxL (z :: r) else x) ∈ _ ∧ ∀ y ∈ x :: z :: r, y ≤ (if maxL (z :: r) > x then maxL (z :: r) else x)
    by_cases h : maxL (z :: r) > x
    · rw [if_pos h]
      refine ⟨List.mem_cons_of_mem _ h1, fun y hy => ?_⟩
      rcases List.mem_cons.mp hy with e | hy
      · omega
      · exact h2 y hy
    · rw [if_neg h]
      refine ⟨List.mem_cons_self, fun y hy => ?_⟩
      rcases List.mem_cons.mp hy with e | hy
      · omega
      · have := h2 y hy; omega
theorem minL_mem : ∀ {x : Int} {r : List Int}, minL (x :: r) ∈ x :: r ∧ ∀ y ∈ x :: r, minL (x :: r) ≤ y
  | x, [] => ⟨by simp [minL], fun y hy => by simp at hy; simp [minL, hy]⟩
  | x, z :: r => by
    obtain ⟨h1, h2⟩ := minL_mem (x := z) (r := r)
    show (if minL (z :: r) < x then minL (z :: r) else x) ∈ _ ∧ ∀ y ∈ x :: z :: r, (if minL (z :: r) < x then minL (z :: r) else x) ≤ y
    by_cases h : minL (z :: r) < x
    · rw [if_pos h]
      refine ⟨List.mem_cons_of_mem _ h1, fun y hy => ?_⟩
      rcases List.mem_cons.mp hy with e | hy
      · omega
      · exact h2 y hy
    · rw [if_neg h]
      refine ⟨List.mem_cons_self, fun y hy => ?_⟩
      rcases List.mem_cons.mp hy with e | hy
      · omega
      · have := h2 y hy; omega
theorem insI_perm (x : Int) : ∀ l : List Int, (insI x l).Perm (x :: l)
  | [] => .refl _
  | y :: r => by
    unfold insI
    split
    · exact .refl _
    · exact ((insI_perm x r).cons y).trans (.swap x y r)
theorem sortI_perm : ∀ l : List Int, (sortI l).Perm l
  | [] => .refl _
  | x :: r => (insI_perm x _).trans ((sortI_perm r).cons x)
theorem insI_sorted (x : Int) : ∀ l : List Int, l.Pairwise (· ≤ ·) → (insI x l).Pairwise (· ≤ ·)
  | [], _ => by unfold insI; exact List.pairwise_singleton _ _
  | y :: r, h => by
    unfold insI
    obtain ⟨h1, h2⟩ := List.pairwise_cons.mp h
    split
    · rename_i hx
      refine List.pairwise_cons.mpr ⟨fun z hz => ?_, h⟩
      rcases List.mem_cons.mp hz with e | hz
      · omega
      · have := h1 z hz; omega
    · rename_i hx
      refine List.pairwise_cons.mpr ⟨fun z hz => ?_, insI_sorted x r h2⟩
      rcases List.mem_cons.mp ((insI_perm x r).mem_iff.mp hz) with e | hz
      · omega
      · exact h1 z hz
theorem sortI_sorted : ∀ l : List Int, (sortI l).Pairwise (· ≤ ·)
  | [] => .nil
  | x :: r => insI_sorted x _ (sortI_sorted r)
theorem sorted_eq {l m : List Int} (p : m.Perm l) (s : m.Pairwise (· ≤ ·)) : m = sortI l :=
  List.Perm.eq_of_pairwise (le := (· ≤ ·)) (fun a b _ _ h1 h2 => Int.le_antisymm h1 h2) s (sortI_sorted l) (p.trans (sortI_perm l).symm)

/-! ### repr -/
def rRepr (K : PySem.W.Frag) : List V → Hp → VK → Prop := fun xs H Q => ∃ x d, xs = [x] ∧ Dp K H x d ∧ d.showable = true ∧ d.depth ≤ 64 ∧ PyData.canLay0 d = true ∧ d.shown.length ≤ sizeLine ∧ Q (.str d.shown) H
theorem call_repr {X : Cx} (hu : X.A.units + 100 < cLine) (hg : X.A.guards = some []) : CallR X (.builtin "repr") (rRepr X.K) := by
  intro pins s σ H xs us Q I r h
  obtain ⟨x, d, rfl, hd, h1, h2, h3, h4, q⟩ := h
  obtain ⟨u, rfl, rx⟩ := vals1 r
  obtain ⟨as, rr⟩ := Dp.reads I d x u hd rx
  have fin : ∀ (t : Tok) (h' : Heap) (tk : Nat), (∀ b o, s.heap.get? b = some o → h'.get? b = some o) → EP X pins σ Q (.str d.shown t) { s with heap := h', toks := tk } := fun t h' tk k => ⟨.str d.shown, H, I.kept k, ⟨t, rfl⟩, q⟩
  have k0 : ∀ b o, s.heap.get? b = some o → s.heap.get? b = some o := fun _ _ z => z
  have ref : ∀ a, u = .ref a → wpAny (model X.prog X.w) X.A (call (.builtin "repr") [u]) (EP X pins σ Q) X.xe s := fun a e => by
    subst e
    exact repr_of_reads' rr h1 (PyData.noDict_hsm (PyData.hasDict_of_canLay d h3)) hg (by omega) k0 (fun h' t tk k => fin t h' tk k) h4
  cases hd with
  | non => cases rx; exact PySem.P.repr_of_none (fin _ _ _ k0)
  | bl b => cases rx; exact PySem.P.repr_of_bool (by have := fin s.toks s.heap (s.toks + 1) k0; simpa only [PyData.shown] using this)
  | int i =>
    obtain ⟨t, rfl⟩ := rx
    have hz : i.natAbs.log2 < 1920 := by simpa [PyData.showable] using h1
    exact PySem.P.repr_of_int hz (by have := fin s.toks s.heap (s.toks + 1) k0; simpa only [PyData.shown] using this)
  | str z =>
    obtain ⟨t, rfl⟩ := rx
    exact PySem.P.repr_of_str (by have := fin s.toks s.heap (s.toks + 1) k0; simpa only [PyData.shown] using this) (by simpa only [PyData.shown] using h4)
  | lst _ _ => exact ref _ rx
  | tup _ _ => exact ref _ rx

/-! ### the rules by name -/
def rLenR : List V → Hp → VK → Prop := fun xs H Q => ∃ (p : Addr) (kvs : List (List Key × V)), xs = [.ref p] ∧ Rd H p (.dT kvs) ∧ Q (.int ((kvs.length : Nat) : Int)) H
theorem call_len_R {X : Cx} : CallR X (.builtin "len") rLenR := by
  intro pins s σ H xs us Q I r h
  obtain ⟨p, kvs, rfl, hp, q⟩ := h
  obtain ⟨u, rfl, rx⟩ := vals1 r
  obtain rfl : u = .ref p := rx
  obtain ⟨z, hd, ys, rel, dd⟩ := dt_rd I.hok hp
  have hl : kvs.length = ys.length := Paired.length rel
  refine call_len_dictH hd dd (by rw [← hl]; rw [sizeLine_eq] at z; omega) ?_
  rw [← hl]
  exact ⟨.int ((kvs.length : Nat) : Int), H, I.tok _, ⟨_, rfl⟩, q⟩
theorem dict_tup {K : Kc} {R H : Hp} {v : V} {kvs : List (Dt × Dt)} (e : Same R H) (h : Rb K R H v (.dict kvs)) (ht : (kvs.all fun p => isTupD p.1) = true) (hn : kvs.isEmpty = false) : ∃ (a : Addr) (ps : List (List Key × V)), v = .ref a ∧ Rd H a (.dT ps) ∧ ps.length = kvs.length := by
  obtain ⟨a, rfl, hd⟩ := h.dict e
  rcases hd with ⟨ps, ds, h1, h2, rfl⟩ | ⟨ps, ds, h1, h2, rfl⟩
  · exfalso
    cases ps with
    | nil => simp at hn
    | cons p ps =>
      cases ds with
      | nil => simp at hn
      | cons d ds =>
        simp only [List.map_cons, List.zip_cons_cons, List.all_cons, Bool.and_eq_true] at ht
        have := ht.1
        cases hk : p.1 <;> rw [hk] at this <;> cases this
  · have hl := h2.length
    rw [List.length_map] at hl
    exact ⟨a, ps, rfl, h1, by rw [List.length_zip, List.length_map]; omega⟩
def btRule (K : PySem.W.Frag) : Bt → List V → Hp → VK → Prop
  | .len => fun xs H Q => (∃ x n, xs = [x] ∧ LenV K x H n ∧ Q (.int n) H) ∨ rLenR xs H Q
  | .abs => fun xs H Q => ∃ i, xs = [.int i] ∧ Q (.int (if i < 0 then -i else i)) H
  | .int => fun xs H Q => (∃ i, xs = [.int i] ∧ Q (.int i) H) ∨ ∃ k, xs = [.bl k] ∧ Q (.int (if k then 1 else 0)) H
  | .sum => rSum K
  | .min => fun xs H Q => rMin K xs H Q ∨ ∃ i j, xs = [.int i, .int j] ∧ Q (.int (if j < i then j else i)) H
  | .max => fun xs H Q => rMax K xs H Q ∨ ∃ i j, xs = [.int i, .int j] ∧ Q (.int (if j > i then j else i)) H
  | .all => rAll K
  | .any => rAny K
  | .list => fun xs H Q => ∃ p ys, xs = [.ref p] ∧ (SqL K H p ys ∨ SqT K H p ys) ∧ ∀ l, H l = none → Q (.ref l) (upd H l (.lst ys))
  | .tuple => fun xs H Q => ∃ p ys, xs = [.ref p] ∧ ((SqL K H p ys ∧ ∀ l, H l = none → Q (.ref l) (upd H l (.tup ys))) ∨ (SqT K H p ys ∧ Q (.ref p) H))
  | .divmod => fun xs H Q => ∃ i j, xs = [.int i, .int j] ∧ CDiv i j ∧ ∀ p, H p = none → Q (.ref p) (upd H p (.tup [.int (i / j), .int (i % j)]))
  | .repr => rRepr K
  | .gcd => rGcd
  | .sorted => rSortedI K
def isTyB : Bt → Bool
  | .int => true
  | .list => true
  | .tuple => true
  | _ => false
def btId : Bt → String
  | .len => "len" | .abs => "abs" | .int => "int" | .sum => "sum" | .min => "min" | .max => "max" | .all => "all" | .any => "any"
  | .list => "list" | .tuple => "tuple" | .divmod => "divmod" | .repr => "repr" | .gcd => "math.gcd" | .sorted => "sorted"
theorem btRule_ok {X : Cx} (hc : X.calm = true) (hu : X.A.units + 100 < cLine) (hg : X.A.guards = some []) (b : Bt) : CallR X (if isTyB b then .type (btId b) else .builtin (btId b)) (btRule X.K b) := by
  cases b with
  | len => exact call_len.or call_len_R
  | abs => exact call_abs
  | int => exact call_int1
  | sum => exact cr_sum hc
  | min => exact (cr_min hc).or (call_min2 hc)
  | max => exact (cr_max hc).or (call_max2 hc)
  | all => exact cr_all hc
  | any => exact cr_any hc
  | list => exact call_list_of
  | tuple => exact call_tuple_of
  | divmod => exact call_divmod
  | repr => exact call_repr hu hg
  | gcd => exact cr_gcd
  | sorted => exact cr_sortedI
theorem seq_of {R H : Hp} {v : V} {ds : List Dt} (e : Same R H) (h : Rb K R H v (.list ds)) : ∃ a xs, v = .ref a ∧ SqL K.f H a xs ∧ RpL K R xs ds := by
  obtain ⟨a, xs, rfl, h1, h2⟩ := h.list e
  exact ⟨a, xs, rfl, .inl h1, h2⟩
theorem ok_bt (b : Bt) : OkN K (btRule K.f b) (btD b) .F := by
  intro sp R H vs ds d Q e rv ef q
  have int_fin : ∀ i, d = .int i → Q (.int i) H := fun i z => by subst z; exact q _ R H (.refl e) keep_refl (rep_int _ _)
  have bl_fin : ∀ i, d = .bool i → Q (.bl i) H := fun i z => by subst z; exact q _ R H (.refl e) keep_refl (rep_bl _ _)
  unfold btD at ef
  split at ef
  · cases ef
    obtain ⟨v, rfl, r1⟩ := pair1 rv
    obtain ⟨a, xs, rfl, h1, h2⟩ := seq_of e r1
    exact .inl ⟨_, xs.length, rfl, .inl ⟨xs, h1, rfl⟩, by rw [h2.length]; exact int_fin _ rfl⟩
  · cases ef
    obtain ⟨v, rfl, r1⟩ := pair1 rv
    obtain ⟨a, xs, rfl, h1, h2⟩ := r1.tuple e
    exact .inl ⟨_, xs.length, rfl, .inr ⟨xs, h1.sq, rfl⟩, by rw [h2.length]; exact int_fin _ rfl⟩
  · cases ef
    obtain ⟨v, rfl, r1⟩ := pair1 rv
    cases r1.int
    exact ⟨_, rfl, int_fin _ rfl⟩
  · cases ef
    obtain ⟨v, rfl, r1⟩ := pair1 rv
    cases r1.int
    exact .inl ⟨_, rfl, int_fin _ rfl⟩
  · obtain ⟨l, hl, rfl⟩ := Option.map_eq_some_iff.mp ef
    obtain ⟨v, rfl, r1⟩ := pair1 rv
    obtain ⟨a, xs, rfl, h1, h2⟩ := seq_of e r1
    rw [intsD_eq hl] at h2
    exact ⟨a, l, rfl, by rw [← h2.ints]; exact h1, int_fin _ rfl⟩
  · cases ef
    obtain ⟨v, u, rfl, r1, r2⟩ := pair2 rv
    cases r1.int; cases r2.int
    exact .inr ⟨_, _, rfl, int_fin _ rfl⟩
  · cases ef
    obtain ⟨v, u, rfl, r1, r2⟩ := pair2 rv
    cases r1.int; cases r2.int
    exact .inr ⟨_, _, rfl, int_fin _ rfl⟩
  · split at ef
    · rename_i x r hl
      cases ef
      obtain ⟨v, rfl, r1⟩ := pair1 rv
      obtain ⟨a, xs, rfl, h1, h2⟩ := seq_of e r1
      rw [intsD_eq hl] at h2
      obtain ⟨g1, g2⟩ := minL_mem (x := x) (r := r)
      refine .inl ⟨a, x :: r, rfl, by rw [← h2.ints]; exact h1, by simp, fun m m1 m2 => ?_⟩
      have : m = minL (x :: r) := Int.le_antisymm (m2 _ g1) (g2 _ m1)
      rw [this]; exact int_fin _ rfl
    · cases ef
  · split at ef
    · rename_i x r hl
      cases ef
      obtain ⟨v, rfl, r1⟩ := pair1 rv
      obtain ⟨a, xs, rfl, h1, h2⟩ := seq_of e r1
      rw [intsD_eq hl] at h2
      obtain ⟨g1, g2⟩ := maxL_mem (x := x) (r := r)
      refine .inl ⟨a, x :: r, rfl, by rw [← h2.ints]; exact h1, by simp, fun m m1 m2 => ?_⟩
      have : m = maxL (x :: r) := Int.le_antisymm (g2 _ m1) (m2 _ g1)
      rw [this]; exact int_fin _ rfl
    · cases ef
  · obtain ⟨l, hl, rfl⟩ := Option.map_eq_some_iff.mp ef
    obtain ⟨v, rfl, r1⟩ := pair1 rv
    obtain ⟨a, xs, rfl, h1, h2⟩ := seq_of e r1
    rw [boolsD_eq hl] at h2
    exact ⟨a, l, rfl, by rw [← h2.bools]; exact h1, bl_fin _ rfl⟩
  · obtain ⟨l, hl, rfl⟩ := Option.map_eq_some_iff.mp ef
    obtain ⟨v, rfl, r1⟩ := pair1 rv
    obtain ⟨a, xs, rfl, h1, h2⟩ := seq_of e r1
    rw [boolsD_eq hl] at h2
    exact ⟨a, l, rfl, by rw [← h2.bools]; exact h1, bl_fin _ rfl⟩
  · cases ef
    obtain ⟨v, rfl, r1⟩ := pair1 rv
    obtain ⟨a, xs, rfl, h1, h2⟩ := seq_of e r1
    refine ⟨a, xs, rfl, .inl h1, fun p hp => ?_⟩
    obtain ⟨x1, x2⟩ := new_lst (sp := sp) e hp h2
    exact q _ _ _ x1 (keep_upd hp) x2
  · cases ef
    obtain ⟨v, rfl, r1⟩ := pair1 rv
    obtain ⟨a, xs, rfl, h1, h2⟩ := r1.tuple e
    refine ⟨a, xs, rfl, .inr h1.sq, fun p hp => ?_⟩
    obtain ⟨x1, x2⟩ := new_lst (sp := sp) e hp h2
    exact q _ _ _ x1 (keep_upd hp) x2
  · cases ef
    obtain ⟨v, rfl, r1⟩ := pair1 rv
    obtain ⟨a, xs, rfl, h1, h2⟩ := seq_of e r1
    refine ⟨a, xs, rfl, .inl ⟨h1, fun p hp => ?_⟩⟩
    obtain ⟨x1, x2⟩ := new_tup (sp := sp) e hp h2
    exact q _ _ _ x1 (keep_upd hp) (rep_S x2 rfl)
  · cases ef
    obtain ⟨v, rfl, r1⟩ := pair1 rv
    obtain ⟨a, xs, rfl, h1, h2⟩ := r1.tuple e
    refine ⟨a, xs, rfl, .inr ⟨h1.sq, q _ R H (.refl e) keep_refl (rep_S ?_ rfl)⟩⟩
    cases r1 with
    | sh h => exact h
    | ow hv h => cases h
  · split at ef
    · rename_i hj
      cases ef
      obtain ⟨v, u, rfl, r1, r2⟩ := pair2 rv
      cases r1.int; cases r2.int
      refine ⟨_, _, rfl, hj, fun p hp => ?_⟩
      obtain ⟨x1, x2⟩ := new_tup (K := K) (sp := sp) e hp (.cons (.int _) (.cons (.int _) .nil))
      exact q _ _ _ x1 (keep_upd hp) (rep_S x2 rfl)
    · cases ef
  · cases ef
    obtain ⟨v, u, rfl, r1, r2⟩ := pair2 rv
    cases r1.int; cases r2.int
    exact ⟨_, _, rfl, int_fin _ rfl⟩
  · rename_i d0
    split at ef
    · rename_i hh
      cases ef
      obtain ⟨v, rfl, r1⟩ := pair1 rv
      exact ⟨v, d0, rfl, r1.dp e hh.2.2.1, hh.1, hh.2.1, hh.2.2.1, by rw [line_eq]; exact hh.2.2.2, q _ R H (.refl e) keep_refl (rep_str _ _)⟩
    · cases ef
  · obtain ⟨l, hl, rfl⟩ := Option.map_eq_some_iff.mp ef
    obtain ⟨v, rfl, r1⟩ := pair1 rv
    obtain ⟨a, xs, rfl, h1, h2⟩ := seq_of e r1
    rw [intsD_eq hl] at h2
    refine ⟨a, l, rfl, by rw [← h2.ints]; exact h1, fun ns p hp1 hp2 hp => ?_⟩
    rw [sorted_eq hp1 hp2]
    obtain ⟨x1, x2⟩ := new_lst (K := K) (sp := sp) e hp (RpL.of_ints (K := K) (R := R) (sortI l))
    exact q _ _ _ x1 (keep_upd hp) x2
  · split at ef
    · rename_i hh
      cases ef
      obtain ⟨v, rfl, r1⟩ := pair1 rv
      obtain ⟨a, ps, rfl, h1, h2⟩ := dict_tup e r1 hh.1 hh.2
      exact .inr ⟨a, ps, rfl, h1, by rw [h2]; exact int_fin _ rfl⟩
    · cases ef
  · cases ef
end
end Pv
end
section
set_option Elab.async false
set_option linter.all false
set_option maxRecDepth 100000
/-! Pv.K: calls of built-ins, isinstance, methods, ranges as values. -/
namespace Pv
open PySem PySem.Spec L2
section
variable {X : Cx} {Φ : List Fn} {ct : Ct} {pos p : Pos} {x y z : Expr} {a b c : IE}
theorem star_any (pos : Pos) (env : Env) : ∀ {es : List Expr}, noStar es = true → (backTo pos (starEach es env)).any (·.1) = false
  | [], _ => rfl
  | e :: es, h => by
    simp only [noStar, List.all_cons, Bool.and_eq_true] at h
    rw [star_no h.1]
    have ih := star_any pos env (es := es) h.2
    unfold backTo at ih ⊢
    simpa using ih
theorem gl_of {sc : Scope} {n : Str} (hs : X.env.scope = sc) (h : glC sc n = true) : Gl X n ∧ (n == ("__debug__" : Str)) = false ∧ n ≠ ("__name__" : Str) := by
  unfold glC at h
  simp only [Bool.and_eq_true, Bool.not_eq_true', beq_eq_false_iff_ne] at h
  obtain ⟨⟨h1, h2⟩, h3⟩ := h
  refine ⟨?_, by simpa using h2, h3⟩
  show X.env.scope.names.lookup n = _
  rw [hs]
  split at h1
  · assumption
  · cases h1
theorem bt_boot (b : Bt) (h : b ≠ .gcd) : bootBuiltins b.name = some (if isTyB b then .type (btId b) else .builtin (btId b)) := by
  cases b <;> first | exact absurd rfl h | decide +kernel
theorem use_bt {bt : Bt} {es : IEs} {σ : St} {H : Hp} {Q : VK} (h : rd (kc X ct) Φ ct .F (.bt bt es) σ H Q) : tCB (btRule X.K bt) (rdB (kc X ct) Φ ct es) σ H Q := by
  obtain ⟨sp, R, ρ, c, d, c', S, ev, q⟩ := h
  simp only [evE] at ev
  split at ev
  · rename_i l c1 e1
    split at ev
    · rename_i ds hd
      obtain ⟨d', hf, e'⟩ := Option.map_eq_some_iff.mp ev
      cases e'
      refine ⟨sp, R, ρ, c, l, ds, _, S, e1, hd, fun vs R' H' e l2 r => ?_⟩
      exact ok_bt (K := kc X ct) bt sp R' H' vs ds d Q e.le (argB_rb r) hf fun w R2 H2 e2 k2 r2 => q w R2 H2 (e.trans e2) (cel_of e2 k2 l2) (RepK.low (fun a h => e.back h) r2)
    · cases ev
  · cases ev
theorem pv_bt {bt : Bt} {es : List Expr} {r : IEs} (hc : X.calm = true) (hu : X.A.units + 100 < cLine) (hgd : X.A.guards = some []) (hg : Gl X bt.name) (hm : bt ≠ .gcd → X.mg bt.name = none) (hm2 : bt = .gcd → X.mg "gcd" = some (.builtin "math.gcd"))
    (hn : notStar x = true) (hs : noStar es = true) (h : PA X (x :: es) (rdB (kc X ct) Φ ct r)) : PE X (.Call (.Name bt.name p) (x :: es) [] pos) (rd (kc X ct) Φ ct .F (.bt bt r)) := by
  have ok := btRule_ok hc hu hgd bt
  have w : ∀ σ H Q, rd (kc X ct) Φ ct .F (.bt bt r) σ H Q → tCB (btRule X.K bt) (rdB (kc X ct) Φ ct r) σ H Q := fun σ H Q h => use_bt h
  by_cases hb : bt = .gcd
  · subst hb
    exact pe_weak (pe_callBfun (id := "math.gcd") ok hg (hm2 rfl) h (by decide +kernel) (star_no hn _ _) (star_any _ _ hs)) w
  · have hv := bt_boot bt hb
    have nn : bt.name ≠ ("__name__" : Str) := by cases bt <;> decide +kernel
    have nd : (bt.name == ("__debug__" : Str)) = false := by cases bt <;> decide +kernel
    cases ht : isTyB bt with
    | true =>
      rw [ht] at ok hv
      exact pe_weak (pe_callTy (T := btId bt) ok hg (hm hb) hv h nn nd (star_no hn _ _) (star_any _ _ hs)) w
    | false =>
      rw [ht] at ok hv
      exact pe_weak (pe_callB (id := btId bt) ok hg (hm hb) hv h nn nd (star_no hn _ _) (star_any _ _ hs)) w

/-! ### isinstance -/
theorem isi_ok {K : Kc} (hK : K.f = X.K) : CallR X (.builtin "isinstance") (fun xs H Q => ∃ (x : V) (R : Hp) (d : Dt) (t : Ty), xs = [x, .ty t.name] ∧ Same R H ∧ Rb K R H x d ∧ Q (.bl (isD t d)) H) := by
  intro pins s σ H xs us Q I r h
  obtain ⟨x, R, d, t, rfl, e, rb, q⟩ := h
  obtain ⟨u, w', rfl, rx, rt⟩ := vals2 r
  cases (show w' = Value.type t.name from rt)
  have go : ∀ (T : Value), TyX X.K H x T → PySem.W.kitOne X.K T (.type t.name) = some (isD t d) → wpAny (model X.prog X.w) X.A (call (.builtin "isinstance") [u, .type t.name]) (EP X pins σ Q) X.xe s := fun T ty k => by
    obtain ⟨P, Z, pz, hx⟩ := kit_of I rx ty
    exact PySem.W.kia_one Z I.kIn pz k hx fun tk => ⟨.bl _, H, I.tok tk, rfl, q⟩
  have frzT : ∀ (a : Addr) (o : Obj) (kvs : List (List Key × V)), x = .ref a → H a = some (.frz o (.dT kvs)) → PySem.W.kitOne X.K (.type "dict") (.type t.name) = some (isD t d) → wpAny (model X.prog X.w) X.A (call (.builtin "isinstance") [u, .type t.name]) (EP X pins σ Q) X.xe s := fun a o kvs ex ha k => by
    subst ex
    cases (show u = Value.ref a from rx)
    obtain ⟨h1, h2⟩ := (show ObjOk X.prog X.w H s.heap a (.frz o (.dT kvs)) from I.hok a _ ha)
    obtain ⟨_, _, xs, _, o', es, ep, h3, h4, _⟩ := h2
    exact PySem.W.kia_one PySem.W.kitx_dict I.kIn ⟨o', h3, h4.1⟩ k (fun z => nomatch z) fun tk => ⟨.bl _, H, I.tok tk, rfl, q⟩
  have kk : ∀ T : String, (∀ b, isD t d = b → PySem.W.kitOne X.K (.type T) (.type t.name) = some b) → PySem.W.kitOne X.K (.type T) (.type t.name) = some (isD t d) := fun T h => h _ rfl
  cases rb with
  | sh h =>
    cases h with
    | non => exact go _ (.base .non) (by cases t <;> rfl)
    | bl i => exact go _ (.base (.bl i)) (by cases t <;> rfl)
    | int i => exact go _ (.base (.int i)) (by cases t <;> rfl)
    | str i => exact go _ (.base (.str i)) (by cases t <;> rfl)
    | lst h1 h2 =>
      rcases h1 with h1 | ⟨o, h1⟩
      · exact go _ (.base (.lst (e _ _ h1))) (by cases t <;> rfl)
      · exact go _ (.base (.frz (e _ _ h1))) (by cases t <;> rfl)
    | tup h1 h2 =>
      rcases h1 with h1 | ⟨_, (h1 | ⟨o, h1⟩) | ⟨o, _, _, h1, h3, _⟩⟩
      · exact go _ (.base (.tup (e _ _ h1))) (by cases t <;> rfl)
      · exact go _ (.base (.tup (e _ _ h1))) (by cases t <;> rfl)
      · exact go _ (.fTuple (e _ _ h1)) (by cases t <;> rfl)
      · exact go _ (.kTuple (by rw [← hK]; exact h1) h3) (by cases t <;> rfl)
    | dK h1 h2 => exact go _ (.fDict (e _ _ h1)) (by cases t <;> rfl)
    | dT h1 h2 => exact frzT _ _ _ rfl (e _ _ h1) (by cases t <;> rfl)
  | ow hv h =>
    subst hv
    cases h with
    | lst h1 h2 => exact go _ (.base (.lst h1)) (by cases t <;> rfl)
    | dK h1 h2 => exact go _ (.base (.dK h1)) (by cases t <;> rfl)
    | dT h1 h2 => exact go _ (.base (.dT h1)) (by cases t <;> rfl)
theorem ty_boot (t : Ty) : bootBuiltins (Str.ofString t.name) = some (.type t.name) := by cases t <;> decide +kernel
theorem pv_isi {t : Ty} {p1 p2 : Pos} (hg : Gl X "isinstance") (hm : X.mg "isinstance" = none) (hg2 : Gl X (Str.ofString t.name)) (hm2 : X.mg (Str.ofString t.name) = none) (hn : notStar x = true) (ha : PE X x (rd (kc X ct) Φ ct .B a)) :
    PE X (.Call (.Name "isinstance" p) [x, .Name (Str.ofString t.name) p1] [] pos) (rd (kc X ct) Φ ct .S (.isi t a)) := by
  have nn : Str.ofString t.name ≠ ("__name__" : Str) := by cases t <;> decide +kernel
  have nd : (Str.ofString t.name == ("__debug__" : Str)) = false := by cases t <;> decide +kernel
  have hb : PE X (.Name (Str.ofString t.name) p1) (tC (.ty t.name)) := pe_bltn hg2 hm2 (ty_boot t) rfl nn nd
  have pa : PA X [x, .Name (Str.ofString t.name) p1] (tCons (rd (kc X ct) Φ ct .B a) (tCons (tC (.ty t.name)) tNil)) := pa_cons ha (pa_cons hb pa_nil (star_no rfl _ _)) (star_no hn _ _)
  refine pe_weak (pe_callB (id := "isinstance") (isi_ok (K := kc X ct) rfl) hg hm (by decide +kernel) pa (by decide +kernel) (by decide +kernel) (star_no hn _ _) (star_any _ _ rfl)) fun σ H Q ⟨sp, R, ρ, c, d, c', S, ev, q⟩ => ?_
  simp only [evE] at ev
  split at ev
  · rename_i d1 c1 e1
    cases ev
    refine ⟨sp, R, ρ, c, d1, _, S, e1, fun v R' H' e l r => ?_⟩
    exact ⟨v, R', d1, t, rfl, e.le, Rv.rb r, q _ R' H' e l (.bl _)⟩
  · cases ev

/-! ### tuple(range(..)), list(range(..)) -/
theorem rng_rep {K : Kc} {R : Hp} (lo : Int) : ∀ n : Nat, RpL K R ((List.range n).map fun i => V.int (lo + (i : Nat))) ((List.range n).map fun i => PyData.int (lo + (i : Nat))) := by
  intro n
  have : ∀ l : List Nat, RpL K R (l.map fun i => V.int (lo + (i : Nat))) (l.map fun i => PyData.int (lo + (i : Nat))) := fun l => by
    induction l with
    | nil => exact .nil
    | cons i l ih => exact .cons (.int _) ih
  exact this _
end
end Pv
end
section
set_option Elab.async false
set_option linter.all false
set_option maxRecDepth 100000
/-! Pv.L: methods that read; the defs of the text: what they promise, how they are called. -/
namespace Pv
open PySem PySem.Spec L2
section
variable {X : Cx} {Φ : List Fn} {ct : Ct} {pos p apos : Pos} {x y z : Expr} {a b c : IE}

/-! ### methods -/
/-- a method of a built-in type, the receiver's type told by the reading -/
theorem pe_mx {T id : String} {name : Str} {o e : Expr} {es : List Expr} {to : TE} {t : TA} {r : V → List V → Hp → VK → Prop} {ty : V → Hp → Prop} (pa : PlainAttrs T) (slot : Slot T name id) (hty : typeOf (.builtin id) = pure (.type "method_descriptor"))
    (hT : ∀ (pins : List (Addr × Obj)) (σ : St) (H : Hp) (s : Shared) (v : V) (u : Value), Inv X pins σ H s → RelV v u → ty v H → s.TypeIs u T ∧ ∀ a, u = .ref a → ∃ ob, s.heap.get? a = some ob ∧ ob.dict = none)
    (hm : MtR X id r) (ho : PE X o to) (ha : PA X (e :: es) t) (hb : attributeBase o name X.env (eval o X.env) = eval o X.env) (hn : noStar (e :: es) = true) (hl : (e :: es).length < 30) (hline : (apos.endLine == pos.line) = true) :
    PE X (.Call (.Attribute o name apos) (e :: es) [] pos) (fun σ H Q => to σ H fun v H1 => ty v H1 ∧ t σ H1 fun vs H2 => r v vs H2 Q) := by
  have n1 : notStar e = true := by simp only [noStar, List.all_cons, Bool.and_eq_true] at hn; exact hn.1
  have n2 : noStar es = true := by simp only [noStar, List.all_cons, Bool.and_eq_true] at hn; exact hn.2
  have few : ((backTo pos (starEach (e :: es) X.env)).all (fun x => !x.1) && (backToKw pos (keywordEach [] X.env)).all (fun x => x.1.isSome)
      && decide ((e :: es).length + ([] : List Keyword).length + (if ([] : List Keyword).isEmpty then 0 else 1) < 30)) = true := by
    have h1 : (backTo pos (starEach (e :: es) X.env)).all (fun x => !x.1) = true := by
      have h0 := star_any pos X.env hn
      rw [List.all_eq_true]
      intro q hq
      rw [List.any_eq_false] at h0
      have := h0 q hq
      simpa using this
    rw [h1]
    have h2 : (backToKw pos (keywordEach [] X.env)).all (fun x => x.1.isSome) = true := rfl
    rw [h2]
    simpa using hl
  refine ⟨fun pins s σ H Q I h => ?_⟩
  refine wpAny_Call_method_late hb few hline rfl (thn (ho.run pins s σ H _ I h) fun v s1 ⟨w, H1, I1, r1, ty1, q1⟩ => ?_)
  obtain ⟨g1, g2⟩ := hT _ _ _ _ _ _ I1 r1 ty1
  refine ⟨T, id, pa, slot, hty, g1, g2, ?_⟩
  have hA := ha.run pos pins s1 σ H1 _ I1 q1
  rw [star_no n1] at hA ⊢
  refine Calls.callWith_builtin ?_ (Calls.evalArgs_plain (thn hA fun us s2 ⟨vs, H2, I2, r2, q2⟩ => hm pins s2 σ H2 w vs v us Q I2 r1 r2 q2))
  have h3 := star_any pos X.env n2
  unfold backTo at h3 ⊢
  simpa using h3
def isLst (v : V) (H : Hp) : Prop := ∃ a xs, v = .ref a ∧ Rd H a (.lst xs)
def isDct (v : V) (H : Hp) : Prop := ∃ a, v = .ref a ∧ ((∃ kvs, Rd H a (.dK kvs)) ∨ ∃ kvs, Rd H a (.dT kvs))
theorem isLst_ty {pins : List (Addr × Obj)} {σ : St} {H : Hp} {s : Shared} {v : V} {u : Value} (I : Inv X pins σ H s) (r : RelV v u) (h : isLst v H) : s.TypeIs u "list" ∧ ∀ a, u = .ref a → ∃ ob, s.heap.get? a = some ob ∧ ob.dict = none := by
  obtain ⟨a, xs, rfl, h⟩ := h
  exact tyV_is I r (.inl ⟨rfl, xs, .inl h⟩)
theorem isDct_ty {pins : List (Addr × Obj)} {σ : St} {H : Hp} {s : Shared} {v : V} {u : Value} (I : Inv X pins σ H s) (r : RelV v u) (h : isDct v H) : s.TypeIs u "dict" ∧ ∀ a, u = .ref a → ∃ ob, s.heap.get? a = some ob ∧ ob.dict = none := by
  obtain ⟨a, rfl, h⟩ := h
  cases (show u = Value.ref a from r)
  rcases h with ⟨kvs, h⟩ | ⟨kvs, h⟩
  · obtain ⟨_, _, vs, _, ob, es, ep, h1, h2, _⟩ := dk_rd I.hok h
    exact ⟨⟨ob, h1, h2.1⟩, fun b e => by cases e; exact ⟨ob, h1, h2.2.1⟩⟩
  · obtain ⟨_, _, vs, _, ob, es, ep, h1, h2, _⟩ := dt_rd I.hok h
    exact ⟨⟨ob, h1, h2.1⟩, fun b e => by cases e; exact ⟨ob, h1, h2.2.1⟩⟩
def rGetX : V → List V → Hp → VK → Prop := fun x xs H Q => ∃ a k d o, x = .ref a ∧ xs = [k, d] ∧ DGx H a k o ∧ Q (o.getD d) H
theorem mt_getX (hu : X.A.units + 100 < cLine) : MtR X "dict.get" rGetX := by
  intro pins s σ H x xs v us Q I rx rv h
  obtain ⟨a, k, d, o, rfl, rfl, g, q⟩ := h
  cases rx
  obtain ⟨u1, u2, rfl, r1, r2⟩ := vals2 rv
  exact x_get2 (by omega) I g r1 r2 fun w' s' I' rw' => ⟨_, H, I', rw', q⟩
theorem base_name {n : Str} {name : Str} {env : Env} : attributeBase (.Name n p) name env (eval (.Name n p) env) = eval (.Name n p) env := rfl
theorem evM {m : Mt} {r : IEs} {ρ : List Sl} {c0 d c' : Dt} (ev : evE Φ ct (.meth m a r) ρ c0 = some (d, c')) :
    ∃ d1 c1 l ds, evE Φ ct a ρ c0 = some (d1, c1) ∧ evEs Φ ct r ρ c1 = some (l, c') ∧ allSh l = some ds ∧ mtD ct.kt m d1 ds = some d := by
  simp only [evE] at ev
  split at ev
  · rename_i d1 c1 e1
    split at ev
    · rename_i l c2 e2
      split at ev
      · rename_i ds hd
        obtain ⟨d', hf, e'⟩ := Option.map_eq_some_iff.mp ev
        cases e'
        exact ⟨d1, c1, l, ds, e1, e2, hd, hf⟩
      · cases ev
    · cases ev
  · cases ev
theorem pv_count {n : Str} (ho : PE X (.Name n p) (rd (kc X ct) Φ ct .B a)) {e : Expr} {r : IEs} (ha : PA X [e] (rdB (kc X ct) Φ ct r)) (hn : notStar e = true) (hline : (apos.endLine == pos.line) = true) :
    PE X (.Call (.Attribute (.Name n p) "count" apos) [e] [] pos) (rd (kc X ct) Φ ct .S (.meth .count a r)) := by
  refine pe_weak (pe_mx (ty := isLst) PySem.F.plainAttrs_list PySem.F.slot_list_count PySem.F.type_list_count (fun _ _ _ _ _ _ I r h => isLst_ty I r h) mt_lcount ho ha base_name (by simp [noStar, hn]) (by show 1 < 30; decide) hline) fun σ H Q ⟨sp, R, ρ, c, d, c', S, ev, q⟩ => ?_
  obtain ⟨d1, c1, l, ds, e1, e2, hd, hf⟩ := evM ev
  obtain ⟨xs, k, ns, rfl, rfl, hns, rfl⟩ := countD_some hf
  refine ⟨sp, R, ρ, c, _, c1, S, e1, fun v R1 H1 x1 l1 r1 => ?_⟩
  obtain ⟨p0, vs, rfl, g1, g2⟩ := (Rv.rb r1).list x1.le
  refine ⟨⟨p0, vs, rfl, g1⟩, sp, R1, ρ, c1, l, _, _, S.ext x1 l1, e2, hd, fun us R2 H2 x2 l2 r2 => ?_⟩
  obtain ⟨u, rfl, ru⟩ := pair1 (argB_rb r2)
  obtain ⟨p1, ws, hv, g3, g4⟩ := (Rv.rb (Rv.ext x2 r1)).list x2.le
  cases hv
  rw [intsD_eq hns] at g4
  exact ⟨p0, ns, k, rfl, by rw [ru.int], by rw [← g4.ints]; exact .inl g3, q _ R2 H2 (x1.trans x2) l2 (.int _)⟩
theorem pv_get {n : Str} (hu : X.A.units + 100 < cLine) (ho : PE X (.Name n p) (rd (kc X ct) Φ ct .B a)) {e f : Expr} {r : IEs} (ha : PA X [e, f] (rdB (kc X ct) Φ ct r)) (hn : notStar e = true) (hn2 : notStar f = true) (hline : (apos.endLine == pos.line) = true) :
    PE X (.Call (.Attribute (.Name n p) "get" apos) [e, f] [] pos) (rd (kc X ct) Φ ct .B (.meth .get a r)) := by
  refine pe_weak (pe_mx (ty := isDct) PySem.F.plainAttrs_dict PySem.F.slot_dict_get PySem.F.type_dict_get (fun _ _ _ _ _ _ I r h => isDct_ty I r h) (mt_getX hu) ho ha base_name (by simp [noStar, hn, hn2]) (by show 2 < 30; decide) hline) fun σ H Q ⟨sp, R, ρ, c, d, c', S, ev, q⟩ => ?_
  obtain ⟨d1, c1, l, ds, e1, e2, hd, hf⟩ := evM ev
  obtain ⟨kvs, k, e0, w, rfl, rfl, hg, rfl⟩ := getdD_some hf
  refine ⟨sp, R, ρ, c, _, c1, S, e1, fun v R1 H1 x1 l1 r1 => ?_⟩
  refine ⟨?_, sp, R1, ρ, c1, l, _, _, S.ext x1 l1, e2, hd, fun us R2 H2 x2 l2 r2 => ?_⟩
  · obtain ⟨p0, rfl, g⟩ := (Rv.rb r1).dict x1.le
    refine ⟨p0, rfl, ?_⟩
    rcases g with ⟨ps, _, g, _⟩ | ⟨ps, _, g, _⟩
    · exact .inl ⟨ps, g⟩
    · exact .inr ⟨ps, g⟩
  · cases r2 with
    | cons ra rb =>
      rename_i u1 us1
      cases rb with
      | cons rb rc =>
        rename_i u2 us2
        cases rc
        obtain ⟨p1, w', hv, g, g1, g2⟩ := look x2.le (Rv.rb (Rv.ext x2 r1)) ra.rb hg
        subst hv
        refine ⟨p1, u1, u2, w', rfl, rfl, g, ?_⟩
        cases w' with
        | none => rw [g2 rfl] at q; exact q _ R2 H2 (x1.trans x2) l2 rb
        | some z =>
          obtain ⟨dz, hz, rz⟩ := g1 z rfl
          rw [hz] at q
          exact q _ R2 H2 (x1.trans x2) l2 (.sh rz)
theorem get_int {e1 : IE} {i0 : Int} {ρ : List Sl} {c1 c' : Dt} {l : List Sl} {k e0 : Dt} {sp : Option Addr} {R H : Hp} {K : Kc} {u : V} (e2 : evEs Φ ct (.cons e1 (.cons (.int i0) .nil)) ρ c1 = some (l, c')) (hd : allSh l = some [k, e0]) (rb : Rv K sp R H u e0) : Rp K R u e0 := by
  simp only [evEs, evE] at e2
  split at e2
  · rename_i d1 c2 x1
    cases e2
    simp only [allSh, Option.map_some, Option.some.injEq, List.cons.injEq, and_true] at hd
    obtain ⟨-, rfl⟩ := hd
    cases rb with
    | sh h => exact h
    | ow hv h1 h2 h => cases h
  · cases e2
theorem pv_getS {n : Str} (hu : X.A.units + 100 < cLine) (ho : PE X (.Name n p) (rd (kc X ct) Φ ct .B a)) {e f : Expr} {r : IEs} {e1 : IE} {i0 : Int} (hr : r = .cons e1 (.cons (.int i0) .nil)) (ha : PA X [e, f] (rdB (kc X ct) Φ ct r)) (hn : notStar e = true) (hn2 : notStar f = true) (hline : (apos.endLine == pos.line) = true) :
    PE X (.Call (.Attribute (.Name n p) "get" apos) [e, f] [] pos) (rd (kc X ct) Φ ct .S (.meth .get a r)) := by
  refine pe_weak (pe_mx (ty := isDct) PySem.F.plainAttrs_dict PySem.F.slot_dict_get PySem.F.type_dict_get (fun _ _ _ _ _ _ I r h => isDct_ty I r h) (mt_getX hu) ho ha base_name (by simp [noStar, hn, hn2]) (by show 2 < 30; decide) hline) fun σ H Q ⟨sp, R, ρ, c, d, c', S, ev, q⟩ => ?_
  obtain ⟨d1, c1, l, ds, e1, e2, hd, hf⟩ := evM ev
  obtain ⟨kvs, k, e0, w, rfl, rfl, hg, rfl⟩ := getdD_some hf
  refine ⟨sp, R, ρ, c, _, c1, S, e1, fun v R1 H1 x1 l1 r1 => ?_⟩
  refine ⟨?_, sp, R1, ρ, c1, l, _, _, S.ext x1 l1, e2, hd, fun us R2 H2 x2 l2 r2 => ?_⟩
  · obtain ⟨p0, rfl, g⟩ := (Rv.rb r1).dict x1.le
    refine ⟨p0, rfl, ?_⟩
    rcases g with ⟨ps, _, g, _⟩ | ⟨ps, _, g, _⟩
    · exact .inl ⟨ps, g⟩
    · exact .inr ⟨ps, g⟩
  · cases r2 with
    | cons ra rb =>
      rename_i u1 us1
      cases rb with
      | cons rb rc =>
        rename_i u2 us2
        cases rc
        obtain ⟨p1, w', hv, g, g1, g2⟩ := look x2.le (Rv.rb (Rv.ext x2 r1)) ra.rb hg
        subst hv
        refine ⟨p1, u1, u2, w', rfl, rfl, g, ?_⟩
        cases w' with
        | none =>
          rw [g2 rfl] at q
          refine q _ R2 H2 (x1.trans x2) l2 ?_
          rw [hr] at e2
          exact get_int e2 hd rb
        | some z =>
          obtain ⟨dz, hz, rz⟩ := g1 z rfl
          rw [hz] at q
          exact q _ R2 H2 (x1.trans x2) l2 rz

/-! ### the defs of the text -/
/-- what a def promises: its arguments are data (or the cell); it hands back what f reckons; fo: an object of its own -/
def spV (K : Kc) (n : Nat) (fo : Bool) (f : Fn) : Sp := fun vs H Q _ => vs.length = n ∧ ∃ (sp : Option Addr) (R : Hp) (as : List Sl) (c d c' : Dt), Same R H ∧ Args K sp R vs as ∧ (∀ a, sp = some a → R a = none ∧ Ob K R H a c) ∧ f as c = some (d, c') ∧
  ∀ v R' H', Ext sp R H R' H' → Cel K sp R' H' c' → RepK K sp H R' H' v d (if fo then .F else .S) → Q v H'
/-- a def that keeps a promise, where nothing is being shown by repr -/
structure FnG (P : Program) (w : World) (K : PySem.W.Frag) (mg : Str → Option Value) (base : Heap) (k : Nat) (f : Addr) (fd : FuncData) (ps : List Str) (sp : Sp) : Prop where
  len : ∀ vs H Q E, sp vs H Q E → vs.length = ps.length
  go : ∀ (A : Around) (outer : List Env) (s : Shared) (H : Hp) (args : PySem.Args) (us : List Value) (vs : List V) (Q : VK), Room k A → A.guards = some [] → Env0 P w K mg base A outer s H → BindsTo s fd args (ps.zip us) → Vals vs us → sp vs H Q E0 →
    codeAny (model P w) A (.call (.ref f) args) (CR CX0 outer P w H s Q E0) s
/-- how positional arguments bind, how keywords do -/
structure Bd (fd : FuncData) (ps : List Str) : Prop where
  pos : ∀ (s : Shared) (us : List Value), us.length = ps.length → BindsTo s fd ⟨us, []⟩ (ps.zip us)
  kw : ∀ (s : Shared) (us ws : List Value) (ks : List Str) (perm : List Nat), permOk ps us.length ks perm = true → ks.length = ws.length → BindsTo s fd ⟨us, ks.zip ws⟩ (ps.zip (permute perm (us ++ ws)))
/-- a def of the text as a context knows it -/
structure Has (X : Cx) (kt : Bool) (x : Str) (ps : List Str) (fo : Bool) (f : Fn) : Prop where
  ar : ∀ as c r, f as c = some r → as.length = ps.length
  ex : ∃ (k : Nat) (a : Addr) (fd : FuncData), FnG X.prog X.w X.K X.mg X.base k a fd ps (spV ⟨X.K, kt⟩ ps.length fo f) ∧ Room k X.A ∧ X.mg x = some (.ref a) ∧ PySem.W.keepIn X.K (.ref a) = true ∧ Bd fd ps
theorem run_g {k : Nat} {f : Addr} {fd : FuncData} {ps : List Str} {sp : Sp} {pins : List (Addr × Obj)} {σ : St} {H : Hp} {s : Shared} {Q : VK} {us : List Value} {vs : List V} {args : PySem.Args} (F : FnG X.prog X.w X.K X.mg X.base k f fd ps sp) (hr : Room k X.A) (hg : X.A.guards = some [])
    (I : Inv X pins σ H s) (hb : BindsTo s fd args (ps.zip us)) (r : Vals vs us) (h : sp vs H Q E0) : codeAny (model X.prog X.w) X.A (.call (.ref f) args) (fun r s' => match r with | .ok (.ret u) => EP X pins σ Q u s' | _ => False) s := by
  refine codeAny_mono (F.go X.A X.stack s H args us vs Q hr hg I.env0 hb r h) fun r s' hq => ?_
  cases r with
  | error e => exact hq
  | ok fl =>
    cases fl with
    | ret u => exact I.after hq
    | next => exact hq
    | brk => exact hq
    | cont => exact hq
end
end Pv
end
section
set_option Elab.async false
set_option linter.all false
set_option maxRecDepth 100000
/-! Pv.M: calls of the text's own defs; a def's promise from its body. -/
namespace Pv
open PySem PySem.Spec L2
section
variable {X : Cx} {Φ : List Fn} {ct : Ct} {pos p : Pos} {x y z : Expr} {a b c : IE}
theorem args_len {K : Kc} {sp : Option Addr} {R : Hp} : ∀ {vs : List V} {l : List Sl}, Args K sp R vs l → vs.length = l.length
  | _, _, .nil => rfl
  | _, _, .cons _ t => by rw [List.length_cons, List.length_cons, args_len t]
/-- the reading of a call: from evaluated arguments to the promise -/
theorem sp_of {K : Kc} {n : Nat} {fo : Bool} {f : Fn} {sp : Option Addr} {R H : Hp} {vs : List V} {as : List Sl} {c d c' : Dt} {Q : VK} {E : XK} (hn : vs.length = n) (e : Same R H) (r : Args K sp R vs as) (hc : ∀ a, sp = some a → R a = none ∧ Ob K R H a c) (ev : f as c = some (d, c'))
    (q : ∀ v R' H', Ext sp R H R' H' → Cel K sp R' H' c' → RepK K sp H R' H' v d (if fo then .F else .S) → Q v H') : spV K n fo f vs H Q E :=
  ⟨hn, sp, R, as, c, d, c', e, r, hc, ev, q⟩
theorem pv_call {k : Nat} {n : Str} {ps : List Str} {fo : Bool} {f : Fn} {es : List Expr} {r : IEs} (h : Has X ct.kt n ps fo f) (hf : Φ[k]? = some f) (hg : Gl X n) (hd : (n == ("__debug__" : Str)) = false) (hgd : X.A.guards = some []) (hl : (x :: es).length = ps.length)
    (hn : notStar x = true) (hs : noStar es = true) (ha : PA X (x :: es) (rdA (kc X ct) Φ ct r)) : PE X (.Call (.Name n p) (x :: es) [] pos) (rd (kc X ct) Φ ct (if fo then .F else .S) (.call k r)) := by
  obtain ⟨j, fa, fd, F, hr, hm, hk, bd⟩ := h.ex
  refine ⟨fun pins s σ H Q I ⟨sp, R, ρ, c, d, c', S, ev, q⟩ => ?_⟩
  simp only [evE, hf] at ev
  split at ev
  · rename_i l c1 e1
    refine wpAny_Call_Name_kw (ld_glob I hg hm ?_ hd)
    have q1 : rdA (kc X ct) Φ ct r σ H (fun vs H1 => ∃ R1, Ext sp R H R1 H1 ∧ Cel (kc X ct) sp R1 H1 c1 ∧ Args (kc X ct) sp R1 vs l) := ⟨sp, R, ρ, c, l, c1, S, e1, fun vs R1 H1 x1 l1 r1 => ⟨R1, x1, l1, r1⟩⟩
    refine PySem.W.callWith_K (h₀ := X.base) I.ok.mod.kin hk ?_ (star_no hn _ _) (star_any _ _ hs)
    have hA := ha.run pos pins s σ H _ I q1
    refine thn hA fun us s1 ⟨vs, H1, I1, rv, R1, x1, l1, r1⟩ => ⟨I1.kIn, ?_⟩
    -- as many values as parameters, or the promise says nothing: its length is asked below
    have S1 := S.ext x1 l1
    have hv : vs.length = ps.length := by rw [args_len r1]; exact h.ar _ _ _ ev
    have hsp : spV (kc X ct) ps.length fo f vs H1 (fun v H' => ∃ R', Ext sp R H R' H' ∧ Cel (kc X ct) sp R' H' c' ∧ RepK (kc X ct) sp H R' H' v d (if fo then .F else .S)) E0 :=
      sp_of hv x1.le r1 (fun a ha => ⟨(S1.cel a ha).1, l1 a ha⟩) ev fun v R' H' x2 l2 r2 => ⟨R', x1.trans x2, l2, RepK.low (fun a h => x1.back h) r2⟩
    have hu : us.length = ps.length := by rw [← rv.length]; exact hv
    refine wpAny_call (codeAny_mono (run_g F hr hgd I1 (bd.pos s1 us hu) rv hsp) fun rr s' hq => ?_)
    cases rr with
    | error e => exact False.elim hq
    | ok fl =>
      cases fl with
      | ret u =>
        obtain ⟨v, H', I', ru, R', x2, l2, r2⟩ := hq
        exact ⟨v, H', I', ru, q v R' H' x2 l2 r2⟩
      | next => exact False.elim hq
      | brk => exact False.elim hq
      | cont => exact False.elim hq
  · cases ev
/-! ### keywords -/
theorem pk_weak {ks : List Keyword} {t t' : TA} (h : PK X ks t) (w : ∀ σ H Q, t' σ H Q → t σ H Q) : PK X ks t' := ⟨fun pos pins s σ H Q I q => h.run pos pins s σ H Q I (w σ H Q q)⟩
theorem qk_nil : PK X [] (rdA (kc X ct) Φ ct .nil) := pk_weak pk_nil fun σ H Q ⟨sp, R, ρ, c, l, c', S, ev, q⟩ => by cases ev; exact q [] R H (.refl S.le) S.cell .nil
theorem qk_cons {ks : List Keyword} {r : IEs} {nm : Option Str} {kp : Pos} (ha : PE X x (rd (kc X ct) Φ ct .S a)) (hr : PK X ks (rdA (kc X ct) Φ ct r)) : PK X (⟨nm, x, kp⟩ :: ks) (rdA (kc X ct) Φ ct (.cons a r)) := by
  refine pk_weak (pk_cons ha hr) fun σ H Q ⟨sp, R, ρ, c, l, c', S, ev, q⟩ => ?_
  simp only [evEs] at ev
  split at ev
  · rename_i d c1 ea
    split at ev
    · rename_i l' c2 er
      cases ev
      refine ⟨sp, R, ρ, c, d, c1, S, ea, fun v R1 H1 e1 l1 r1 => ⟨sp, R1, ρ, c1, l', _, S.ext e1 l1, er, fun vs R2 H2 e2 l2 r2 => ?_⟩⟩
      exact q _ R2 H2 (e1.trans e2) l2 (.cons (.sh (Rp.mono e2.r r1)) r2)
    · cases ev
  · cases ev
theorem qk_cel {ks : List Keyword} {r : IEs} {nm : Option Str} {kp : Pos} {i : Nat} {n : Str} (hN : X.N[i]? = some n) (hv : Vis X.env.scope n) (h1 : (n == ("__debug__" : Str)) = false) (h2 : (n == ("__classdict__" : Str)) = false) (hr : PK X ks (rdA (kc X ct) Φ ct r)) :
    PK X (⟨nm, .Name n p, kp⟩ :: ks) (rdA (kc X ct) Φ ct (.cel i r)) := by
  refine pk_weak (pk_cons (pe_var hN hv h1 h2) hr) fun σ H Q ⟨sp, R, ρ, c, l, c', S, ev, q⟩ => ?_
  simp only [evEs] at ev
  split at ev
  · rename_i hs
    split at ev
    · rename_i l' c2 er
      cases ev
      obtain ⟨a, g1, g2⟩ := S.slot i _ hs
      exact ⟨_, g1, sp, R, ρ, c, l', _, S, er, fun vs R2 H2 e2 l2 r2 => q _ R2 H2 e2 l2 (.cons (.cell g2) r2)⟩
    · cases ev
  · cases ev
theorem kw_some (pos : Pos) (env : Env) : ∀ {ks : List Keyword} {ns : List Str}, kwNames ks = some ns →
    (backToKw pos (keywordEach ks env)).all (·.1.isSome) = true ∧ (backToKw pos (keywordEach ks env)).filterMap (·.1) = ns ∧ (backToKw pos (keywordEach ks env)).any (·.1.isNone) = false
  | [], ns, h => by cases h; exact ⟨rfl, rfl, rfl⟩
  | ⟨none, v, kp⟩ :: r, ns, h => by cases h
  | ⟨some n, v, kp⟩ :: r, ns, h => by
    obtain ⟨l, hl, rfl⟩ := Option.map_eq_some_iff.mp (show (kwNames r).map (fun l => n :: l) = some ns from h)
    obtain ⟨h1, h2, h3⟩ := kw_some pos env hl
    unfold backToKw at h1 h2 h3 ⊢
    simp only [keywordEach, List.map_cons, List.all_cons, List.any_cons, List.filterMap_cons]
    refine ⟨by simpa using h1, by simpa using h2, by simpa using h3⟩
theorem kwNames_len : ∀ {ks : List Keyword} {ns : List Str}, kwNames ks = some ns → ns.length = (kwVals ks).length
  | [], ns, h => by cases h; rfl
  | ⟨none, v, kp⟩ :: r, ns, h => by cases h
  | ⟨some n, v, kp⟩ :: r, ns, h => by
    obtain ⟨l, hl, rfl⟩ := Option.map_eq_some_iff.mp (show (kwNames r).map (fun l => n :: l) = some ns from h)
    have := kwNames_len hl
    simp only [kwVals, List.map_cons, List.length_cons] at this ⊢
    omega
theorem paired_get {α β : Type} {F : α → β → Prop} : ∀ {l : List α} {m : List β}, Paired F l m → ∀ (i : Nat), (∀ x, l[i]? = some x → ∃ y, m[i]? = some y ∧ F x y) ∧ (l[i]? = none → m[i]? = none)
  | _, _, .nil, i => ⟨fun x h => by simp at h, fun _ => by simp⟩
  | _, _, .cons h t, 0 => ⟨fun x e => by simp at e; subst e; exact ⟨_, rfl, h⟩, fun e => by simp at e⟩
  | _, _, .cons h t, i + 1 => by simpa using paired_get t i
theorem permute_pair {α β : Type} {F : α → β → Prop} {l : List α} {m : List β} (h : Paired F l m) : ∀ perm : List Nat, Paired F (permute perm l) (permute perm m)
  | [] => .nil
  | i :: r => by
    unfold permute
    rw [List.filterMap_cons, List.filterMap_cons]
    have ih := permute_pair h r
    unfold permute at ih
    obtain ⟨g1, g2⟩ := paired_get h i
    cases q : l[i]? with
    | none => rw [g2 q]; exact ih
    | some x =>
      obtain ⟨y, hy, f⟩ := g1 x q
      rw [hy]
      exact .cons f ih
theorem paired_app {α β : Type} {F : α → β → Prop} : ∀ {l l' : List α} {m m' : List β}, Paired F l m → Paired F l' m' → Paired F (l ++ l') (m ++ m')
  | _, _, _, _, .nil, h => h
  | _, _, _, _, .cons h t, q => .cons h (paired_app t q)
theorem pv_callK {k : Nat} {n : Str} {ps : List Str} {fo : Bool} {f : Fn} {es : List Expr} {kws : List Keyword} {ns : List Str} {r w : IEs} {perm : List Nat} (h : Has X ct.kt n ps fo f) (hf : Φ[k]? = some f) (hg : Gl X n) (hd : (n == ("__debug__" : Str)) = false) (hgd : X.A.guards = some [])
    (hp : permOk ps es.length ns perm = true) (hk : kwNames kws = some ns) (hs : noStar es = true) (hr0 : es = [] → r = .nil) (ha : PA X es (rdA (kc X ct) Φ ct r)) (hw : PK X kws (rdA (kc X ct) Φ ct w))
    (hr1 : ∀ ρ c l c', evEs Φ ct r ρ c = some (l, c') → l.length = es.length) (hr2 : ∀ ρ c l c', evEs Φ ct w ρ c = some (l, c') → l.length = (kwVals kws).length) :
    PE X (.Call (.Name n p) es kws pos) (rd (kc X ct) Φ ct (if fo then .F else .S) (.callK k r w perm)) := by
  obtain ⟨j, fa, fd, F, hr, hm, hkp, bd⟩ := h.ex
  refine ⟨fun pins s σ H Q I ⟨sp, R, ρ, c, d, c', S, ev, q⟩ => ?_⟩
  simp only [evE, hf] at ev
  split at ev
  · rename_i l c1 e1
    split at ev
    · rename_i m c2 e2
      refine wpAny_Call_Name_kw (ld_glob I hg hm ?_ hd)
      obtain ⟨k1, k2, k3⟩ := kw_some pos X.env hk
      -- behind all values
      have core : ∀ (us ws : List Value) (vs zs : List V) (s2 : Shared) (R2 H2 : Hp), Inv X pins σ H2 s2 → Vals vs us → Vals zs ws → Ext sp R H R2 H2 → Cel (kc X ct) sp R2 H2 c2 → Args (kc X ct) sp R2 vs l → Args (kc X ct) sp R2 zs m →
          wpAny (model X.prog X.w) X.A (call (.ref fa) us (ns.zip ws)) (EP X pins σ Q) X.xe s2 := fun us ws vs zs s2 R2 H2 I2 rv rz x2 l2 r1 r2 => by
        have ra : Args (kc X ct) sp R2 (permute perm (vs ++ zs)) (permute perm (l ++ m)) := permute_pair (paired_app r1 r2) perm
        have hv : (permute perm (vs ++ zs)).length = ps.length := by rw [args_len ra]; exact h.ar _ _ _ ev
        have S2 := S.ext x2 l2
        have hsp : spV (kc X ct) ps.length fo f (permute perm (vs ++ zs)) H2 (fun v H' => ∃ R', Ext sp R H R' H' ∧ Cel (kc X ct) sp R' H' c' ∧ RepK (kc X ct) sp H R' H' v d (if fo then .F else .S)) E0 :=
          sp_of hv x2.le ra (fun a ha => ⟨(S2.cel a ha).1, l2 a ha⟩) ev fun v R' H' x3 l3 r3 => ⟨R', x2.trans x3, l3, RepK.low (fun a h => x2.back h) r3⟩
        have u1 : us.length = es.length := by rw [← rv.length, args_len r1]; exact hr1 _ _ _ _ e1
        have u2 : ns.length = ws.length := by rw [← rz.length, args_len r2, hr2 _ _ _ _ e2]; exact kwNames_len hk
        have bb := bd.kw s2 us ws ns perm (by rw [u1]; exact hp) u2
        have rr : Vals (permute perm (vs ++ zs)) (permute perm (us ++ ws)) := permute_pair (paired_app rv rz) perm
        refine wpAny_call (codeAny_mono (run_g F hr hgd I2 bb rr hsp) fun rr s' hq => ?_)
        cases rr with
        | error e => exact False.elim hq
        | ok fl =>
          cases fl with
          | ret u =>
            obtain ⟨v, H', I', ru, R', x3, l3, r3⟩ := hq
            exact ⟨v, H', I', ru, q v R' H' x3 l3 r3⟩
          | next => exact False.elim hq
          | brk => exact False.elim hq
          | cont => exact False.elim hq
      cases es with
      | nil =>
        have l0 : l = [] := List.eq_nil_of_length_eq_zero (hr1 _ _ _ _ e1)
        subst l0
        have hn := hr0 rfl
        subst hn
        cases e1
        refine PySem.W.callWith_KW0 (h₀ := X.base) I.ok.mod.kin hkp k1 ?_ (by rw [k3]; rfl)
        have q2 : rdA (kc X ct) Φ ct w σ H (fun zs H2 => ∃ R2, Ext sp R H R2 H2 ∧ Cel (kc X ct) sp R2 H2 c2 ∧ Args (kc X ct) sp R2 zs m) := ⟨sp, R, ρ, c, m, c2, S, e2, fun vs R2 H2 x2 l2 r2 => ⟨R2, x2, l2, r2⟩⟩
        refine thn (hw.run pos pins s σ H _ I q2) fun ws s2 ⟨zs, H2, I2, rz, R2, x2, l2, r2⟩ => ⟨I2.kIn, ?_⟩
        rw [k2]
        exact core [] ws [] zs s2 R2 H2 I2 .nil rz x2 l2 .nil r2
      | cons e0 es =>
        have n1 : notStar e0 = true := by simp only [noStar, List.all_cons, Bool.and_eq_true] at hs; exact hs.1
        have q1 : rdA (kc X ct) Φ ct r σ H (fun vs H1 => ∃ R1, Ext sp R H R1 H1 ∧ Cel (kc X ct) sp R1 H1 c1 ∧ Args (kc X ct) sp R1 vs l) := ⟨sp, R, ρ, c, l, c1, S, e1, fun vs R1 H1 x1 l1 r1 => ⟨R1, x1, l1, r1⟩⟩
        refine PySem.W.callWith_KW (h₀ := X.base) I.ok.mod.kin hkp k1 (thn (ha.run pos pins s σ H _ I q1) fun us s1 ⟨vs, H1, I1, rv, R1, x1, l1, r1⟩ => ?_) (by rw [k3, star_any _ _ hs]; rfl) (star_no n1 _ _)
        have q2 : rdA (kc X ct) Φ ct w σ H1 (fun zs H2 => ∃ R2, Ext sp R1 H1 R2 H2 ∧ Cel (kc X ct) sp R2 H2 c2 ∧ Args (kc X ct) sp R2 zs m) := ⟨sp, R1, ρ, c1, m, c2, S.ext x1 l1, e2, fun vs R2 H2 x2 l2 r2 => ⟨R2, x2, l2, r2⟩⟩
        refine thn (hw.run pos pins s1 σ H1 _ I1 q2) fun ws s2 ⟨zs, H2, I2, rz, R2, x2, l2, r2⟩ => ⟨I2.kIn, ?_⟩
        rw [k2]
        exact core us ws vs zs s2 R2 H2 I2 rv rz (x1.trans x2) l2 (Args.mono x2.r r1) r2
    · cases ev
  · cases ev
end
end Pv
end
section
set_option Elab.async false
set_option linter.all false
set_option maxRecDepth 100000
/-! Pv.N: how written arguments come to parameters; a def's promise from its body. -/
namespace Pv
open PySem PySem.Spec L2
open PyProof.Rows (envOfC)
/-! ### binding -/
theorem lookup_zip {α : Type} : ∀ {L : List Str} {vs : List α} {i : Nat} {x : Str} {v : α}, L.Nodup → L[i]? = some x → vs[i]? = some v → (L.zip vs).lookup x = some v
  | [], _, _, _, _, _, h, _ => by simp at h
  | _ :: _, [], _, _, _, _, _, h => by simp at h
  | y :: L, w :: vs, 0, x, v, nd, h1, h2 => by
    simp at h1 h2; subst h1; subst h2
    simp [List.zip_cons_cons, List.lookup]
  | y :: L, w :: vs, i + 1, x, v, nd, h1, h2 => by
    obtain ⟨n1, n2⟩ := List.nodup_cons.mp nd
    have hx : x ∈ L := List.mem_of_getElem? (by simpa using h1)
    have hne : (x == y) = false := by
      rw [beq_eq_false_iff_ne]; rintro rfl; exact n1 hx
    rw [List.zip_cons_cons, List.lookup_cons, hne]
    exact lookup_zip n2 (by simpa using h1) (by simpa using h2)
theorem lookup_zip_none {α : Type} : ∀ {L : List Str} {vs : List α} {x : Str}, x ∉ L → (L.zip vs).lookup x = none
  | [], _, _, _ => rfl
  | _ :: _, [], _, _ => rfl
  | y :: L, w :: vs, x, h => by
    simp only [List.mem_cons, not_or] at h
    have hne : (x == y) = false := by rw [beq_eq_false_iff_ne]; exact h.1
    rw [List.zip_cons_cons, List.lookup_cons, hne]
    exact lookup_zip_none h.2
theorem lookup_app {α : Type} {x : Str} : ∀ {l m : List (Str × α)}, l.lookup x = none → (l ++ m).lookup x = m.lookup x
  | [], _, _ => rfl
  | (y, v) :: l, m, h => by
    rw [List.lookup_cons] at h
    rw [List.cons_append, List.lookup_cons]
    cases e : x == y with
    | true => rw [e] at h; cases h
    | false => rw [e] at h; exact lookup_app h
theorem forIn_kw {ps : List Str} {f : Str × Value → List (Str × Value) × List (Str × Value) → Sem (ForInStep (List (Str × Value) × List (Str × Value)))}
    (hf : ∀ k v s, k ∈ ps → s.1.lookup k = none → f (k, v) s = pure (.yield (s.1 ++ [(k, v)], s.2))) :
    ∀ (kw : List (Str × Value)) (sl ex : List (Str × Value)), (∀ q ∈ kw, q.1 ∈ ps) → (kw.map (·.1)).Nodup → (∀ q ∈ kw, sl.lookup q.1 = none) → forIn kw (sl, ex) f = pure (sl ++ kw, ex)
  | [], sl, ex, _, _, _ => by rw [List.forIn_nil, List.append_nil]
  | (k, v) :: r, sl, ex, h1, h2, h3 => by
    rw [List.forIn_cons, hf k v (sl, ex) (h1 _ List.mem_cons_self) (h3 _ List.mem_cons_self), pure_bind]
    obtain ⟨n1, n2⟩ := List.nodup_cons.mp h2
    refine (forIn_kw hf r (sl ++ [(k, v)]) ex (fun q hq => h1 q (List.mem_cons_of_mem _ hq)) n2 fun q hq => ?_).trans ?_
    · rw [lookup_app (h3 q (List.mem_cons_of_mem _ hq)), List.lookup_cons]
      have : (q.1 == k) = false := by
        rw [beq_eq_false_iff_ne]; rintro e
        exact n1 (List.mem_map.mpr ⟨q, hq, e⟩)
      rw [this]; rfl
    · rw [List.append_assoc]; rfl
theorem permute_zip {ps L : List Str} {vs : List Value} {perm : List Nat} (hp : perm.map (fun j => L[j]?) = ps.map some) (nd : L.Nodup) (hl : L.length = vs.length) :
    ps.filterMap (fun n => ((L.zip vs).lookup n).map fun v => (n, v)) = ps.zip (permute perm vs) ∧ (∀ n ∈ ps, ((L.zip vs).lookup n).isSome = true) := by
  induction perm generalizing ps with
  | nil =>
    cases ps with
    | nil => exact ⟨rfl, fun _ h => nomatch h⟩
    | cons _ _ => simp at hp
  | cons j r ih =>
    cases ps with
    | nil => simp at hp
    | cons p ps =>
      simp only [List.map_cons, List.cons.injEq] at hp
      obtain ⟨e1, e2⟩ := hp
      have hj : j < vs.length := by rw [← hl]; exact (List.getElem?_eq_some_iff.mp e1).1
      have hv : vs[j]? = some vs[j] := List.getElem?_eq_getElem hj
      have hk := lookup_zip nd e1 hv
      obtain ⟨i1, i2⟩ := ih e2
      refine ⟨?_, fun n hn => ?_⟩
      · rw [List.filterMap_cons, hk]
        simp only [Option.map_some]
        unfold permute at i1 ⊢
        rw [List.filterMap_cons, hv]
        simp only [List.zip_cons_cons, List.cons.injEq, true_and]
        exact i1
      · rcases List.mem_cons.mp hn with rfl | hn
        · rw [hk]; rfl
        · exact i2 n hn
theorem bind_kw {fd : FuncData} {us ws : List Value} {ks ps : List Str} {perm : List Nat} (h1 : fd.params.posonlyargs = []) (h2 : fd.params.args.map (·.arg) = ps) (h3 : fd.params.vararg = none) (h4 : fd.params.kwonlyargs = []) (h5 : fd.params.kwarg = none)
    (h6 : fd.defaults = .none) (hp : permOk ps us.length ks perm = true) (hk : ks.length = ws.length) : bindArgs fd ⟨us, ks.zip ws⟩ = pure (ps.zip (permute perm (us ++ ws))) := by
  unfold permOk at hp
  simp only [Bool.and_eq_true, decide_eq_true_eq] at hp
  obtain ⟨⟨⟨⟨p1, p2⟩, p3⟩, p4⟩, p5⟩ := hp
  have hut : (ps.take us.length).length = us.length := by rw [List.length_take]; omega
  have z0 : ps.zip us = (ps.take us.length).zip us := by
    rw [List.zip_eq_zip_take_min]
    have e : min ps.length us.length = us.length := by omega
    rw [e, List.take_length]
  have zz : ps.zip us ++ ks.zip ws = (ps.take us.length ++ ks).zip (us ++ ws) := by
    rw [z0, List.zip_append hut]
  have hL : (ps.take us.length ++ ks).length = (us ++ ws).length := by rw [List.length_append, List.length_append, hut, hk]
  obtain ⟨b1, b2⟩ := permute_zip p1 p4 hL
  have inps : ∀ q ∈ ks.zip ws, q.1 ∈ ps := fun q hq => by
    have := List.all_eq_true.mp p5 q.1 (List.of_mem_zip hq).1
    simpa using this
  have noks : ∀ q ∈ ks.zip ws, (ps.zip us).lookup q.1 = none := fun q hq => by
    rw [z0]
    refine lookup_zip_none fun hm => ?_
    have := List.nodup_append.mp p4
    exact this.2.2 _ hm _ (List.of_mem_zip hq).1 rfl
  unfold bindArgs
  simp only [h1, h2, h3, h4, h5, h6, List.map_nil, List.nil_append, List.append_nil]
  rw [forIn_kw (ps := ps) ?_ _ _ _ inps ?_ noks]
  · rw [pure_bind, zz]
    have e1 : seqItems? Value.none = pure none := rfl
    rw [e1, pure_bind]
    have hle : ¬ us.length > ps.length := by omega
    have miss : (ps.filter fun n => (List.lookup n ((ps.take us.length ++ ks).zip (us ++ ws))).isNone) = [] := by
      rw [List.filter_eq_nil_iff]
      intro n hn
      have := b2 n hn
      cases q : List.lookup n ((ps.take us.length ++ ks).zip (us ++ ws)) with
      | none => rw [q] at this; cases this
      | some _ => simp
    simp only [hle, decide_false, Bool.false_and, Option.getD_none, List.drop_nil, List.length_nil, Nat.sub_zero, List.take_length, Bool.false_eq_true, if_false, miss, List.isEmpty_nil, Bool.not_true, List.drop_length, List.zip_nil_left, List.forIn_nil, pure_bind, b1]
  · intro k v s hk hs
    have hc : ps.contains k = true := by simpa using hk
    simp only [hc, Bool.true_or, if_true, hs, Option.isSome_none, Bool.false_eq_true, if_false]
  · have : (ks.zip ws).map (·.1) = ks := by
      rw [List.map_fst_zip]
      omega
    rw [this]; exact p2
theorem permute_range (us : List Value) : permute (List.range us.length) us = us := by
  unfold permute
  have : ∀ (l : List Value), (List.range l.length).filterMap (fun j => l[j]?) = l := fun l => by
    induction l with
    | nil => rfl
    | cons x l ih =>
      rw [List.length_cons, List.range_succ_eq_map, List.filterMap_cons]
      simp only [List.getElem?_cons_zero, List.filterMap_map, Function.comp_def, List.getElem?_cons_succ]
      rw [ih]
  exact this us
theorem bd_of {fd : FuncData} {ps : List Str} (h1 : fd.params.posonlyargs = []) (h2 : fd.params.args.map (·.arg) = ps) (h3 : fd.params.vararg = none) (h4 : fd.params.kwonlyargs = []) (h5 : fd.params.kwarg = none)
    (h6 : fd.defaults = .none) (nd : ps.Nodup) : Bd fd ps where
  pos := fun s us hl => by
    have hp : permOk ps us.length [] (List.range ps.length) = true := by
      unfold permOk
      simp only [Bool.and_eq_true, decide_eq_true_eq, List.append_nil, List.length_nil, Nat.add_zero, List.all_nil, and_true]
      refine ⟨⟨⟨?_, List.nodup_nil⟩, hl⟩, (List.take_sublist _ _).nodup nd⟩
      rw [hl, List.take_length]
      apply List.ext_getElem?
      intro i
      rw [List.getElem?_map, List.getElem?_map]
      by_cases hi : i < ps.length
      · rw [List.getElem?_range hi, List.getElem?_eq_getElem hi]
        show some (ps[i]?) = some (some ps[i])
        rw [List.getElem?_eq_getElem hi]
      · rw [List.getElem?_eq_none (by simpa using hi), List.getElem?_eq_none (by omega)]; rfl
    have := bind_kw (ws := []) h1 h2 h3 h4 h5 h6 hp rfl
    rw [List.append_nil, ← hl, permute_range] at this
    exact .of_eq this
  kw := fun s us ws ks perm hp hk => .of_eq (bind_kw h1 h2 h3 h4 h5 h6 hp hk)

/-! ### a def keeps its promise, by its body -/
theorem fn_g {P : Program} {w : World} {K : PySem.W.Frag} {mg : Str → Option Value} {base : Heap} {k : Nat} {f : Addr} {name qual : Str} {params : Arguments} {body : List Stmt} {scope : Scope} {dV kV doc pm cdv ct oc : Value} {an od : Option Addr}
    {osl : Array (Option Value)} {N ps : List Str} {sp : Sp} (lk : K.lookup f = some ⟨oc, od, .func (PySem.W.fnOf name qual params body scope dV kV doc pm an cdv ct), osl⟩) (hcd : PySem.W.codeIn K cdv qual = true) (S : FnScope N ps scope)
    (len : ∀ vs H Q E, sp vs H Q E → vs.length = ps.length)
    (hb : ∀ (A : Around) (outer : List Env) (s : Shared) (H : Hp) (vs : List V) (Q : VK), Room k (A.deeper (envOfC qual scope s.heap.objs.size f cdv)) → A.guards = some [] → sp vs H Q E0 →
      ∃ t, PSs (cxOf CX0 P w K mg base N qual scope f cdv A outer s H E0).nox body t ∧ t { nx := fun _ H' => Q .non H', rt := Q } (start N vs) H) :
    FnG P w K mg base (k + 1) f (PySem.W.fnOf name qual params body scope dV kV doc pm an cdv ct) ps sp := by
  constructor
  · exact len
  intro A outer s H args us vs Q hr hgd e0 bt r hsp
  have ln := len vs H Q E0 hsp
  have kin : K.In s.heap := e0.mod.kin.keeps fun b o e => (e0.bs b o e).1
  have nolim : s.heap.NoLimit := e0.mod.nolimit.keeps fun b o e => (e0.bs b o e).1
  have kinds : ∀ q ∈ ps.zip us, scope.names.lookup q.1 = some .local ∨ (scope.names.lookup q.1 = some .cell ∧ ((cellsFrom (s.heap.objs.size + 1) scope.names []).lookup q.1).isSome = true) := by
    rintro ⟨n, v⟩ hq
    rcases S.par n (List.of_mem_zip hq).1 with z | z
    · exact .inl z
    · exact .inr ⟨z, PySem.W.cellsFrom_some _ _ _ (.inl z)⟩
  refine codeAny_call_function hr.depth (kin _ _ lk) rfl S.co S.gen rfl (PySem.W.codeRec_of kin hcd) (bt _ _ _ _ ?_)
  refine wpAny_newFunctionEnv_cells S.kind kinds fun env he s1 x => ?_
  subst he
  constructor
  · exact nolim.keeps x.toInCall.keep
  refine codeAny_func ?_
  obtain ⟨t, ht, hq⟩ := hb A outer s H vs Q (hr.deeper _) hgd hsp
  have I0 : Inv (cxOf CX0 P w K mg base N qual scope f cdv A outer s H E0) [] (start N vs) H s1 := inv_start S hr.hd e0 ln r x
  refine wpAny_mono (ht.nox.run [] s1 (start N vs) H _ I0 hq) ?_ fun _ _ z => z
  intro fl s' hs
  have done : ∀ {σ' : L2.St} {H' : Hp} {v : V} {u : Value}, Inv (cxOf CX0 P w K mg base N qual scope f cdv A outer s H E0) [] σ' H' s' → RelV v u → Q v H' → CE outer P w H s Q u s' :=
    fun {σ' H' v u} J rv q => ⟨v, H', J.os, J.bare, J.base, J.hok, rv, q⟩
  cases fl with
  | ret u => obtain ⟨v, σ', H', J, rv, q⟩ := hs; exact done J rv q
  | next => obtain ⟨σ', H', J, q⟩ := hs; exact done (v := .non) (u := .none) J rfl q
  | brk => obtain ⟨_, _, _, q⟩ := hs; exact q.elim
  | cont => obtain ⟨_, _, _, q⟩ := hs; exact q.elim
end Pv
end
section
set_option Elab.async false
set_option linter.all false
set_option maxRecDepth 100000
/-! Pv.O: enumerate and zip over lists and tuples alike. -/
namespace Pv
open PySem PySem.Spec L2
/-- t: a tuple; else a list -/
def IsSq (t : Bool) (h : Heap) (a : Addr) (its : Array Value) : Prop := if t then h.IsTuple a its else h.IsList a its
def IsQi (t : Bool) (h : Heap) (it a : Addr) (i : Nat) : Prop := if t then h.IsTupleIter it a i else h.IsListIter it a i
def qiObj (t : Bool) (a : Addr) : Obj := if t then { cls := .type "tuple_iterator", data := .fields #[.ref a, .int 0 0] } else { cls := .type "list_iterator", data := .fields #[.ref a, .int 0 0] }
def Sqv (t : Bool) (K : PySem.W.Frag) (H : Hp) (a : Addr) (xs : List V) : Prop := if t then SqT K H a xs else SqL K H a xs
theorem begins_sq (t : Bool) (a : Addr) (its : Array Value) : Begins (.ref a) (qiObj t a) fun h => IsSq t h a its := by
  cases t with
  | true => exact begins_tuple a its
  | false => exact begins_list a its
theorem draws_sq {prog : Program} {w : World} {A : Around} (hh : A.handled = none) (t : Bool) (it a : Addr) (hne : a ≠ it) (its : Array Value) :
    Draws prog w A it [it, a] its.size (fun i v => its[i]? = some v) (fun i h => IsQi t h it a i ∧ IsSq t h a its) := by
  cases t with
  | true => exact .tuple hh it a hne its
  | false => exact .list hh it a hne its
theorem isQi_new {t : Bool} {h : Heap} {it a : Addr} (e : h.get? it = some (qiObj t a)) : IsQi t h it a 0 := by
  cases t with
  | true => exact ⟨_, e, rfl, rfl⟩
  | false => exact ⟨_, e, rfl, rfl⟩
theorem isQi_at {t : Bool} {h h' : Heap} {it a : Addr} {i : Nat} (q : IsQi t h it a i) (k : ∀ o, h.get? it = some o → h'.get? it = some o) : IsQi t h' it a i := by
  cases t with
  | true => exact Heap.IsTupleIter.at q k
  | false => exact Heap.IsListIter.at q k
theorem isQi_obj {t : Bool} {h : Heap} {it a : Addr} {i : Nat} (q : IsQi t h it a i) : ∃ o, h.get? it = some o ∧ (∀ v, o.data ≠ .cell v) ∧ o.cls ≠ .type "tuple" ∧ o.cls ≠ .type "list" := by
  cases t with
  | true =>
    obtain ⟨o, e, c, d⟩ := q
    exact ⟨o, e, fun v z => (by rw [d] at z; cases z), by rw [c]; decide, by rw [c]; decide⟩
  | false =>
    obtain ⟨o, e, c, d⟩ := q
    exact ⟨o, e, fun v z => (by rw [d] at z; cases z), by rw [c]; decide, by rw [c]; decide⟩
theorem isSq_obj {t : Bool} {h : Heap} {a : Addr} {its : Array Value} (q : IsSq t h a its) : ∃ o, h.get? a = some o ∧ (o.cls = .type "tuple" ∨ o.cls = .type "list") := by
  cases t with
  | true =>
    obtain ⟨o, e, c, d⟩ := q
    exact ⟨o, e, .inl c⟩
  | false =>
    obtain ⟨o, e, c, d⟩ := q
    exact ⟨o, e, .inr c⟩
theorem isSq_ne {t t' : Bool} {h : Heap} {it a b : Addr} {i : Nat} {its : Array Value} (q : IsQi t h it a i) (r : IsSq t' h b its) : b ≠ it := fun z => by
  subst z
  obtain ⟨o, e, _, n1, n2⟩ := isQi_obj q
  obtain ⟨o', e', c⟩ := isSq_obj r
  rw [e] at e'; cases e'
  rcases c with c | c
  · exact n1 c
  · exact n2 c
section
variable {X : Cx} {pins : List (Addr × Obj)} {σ : St} {H : Hp} {s : Shared}
theorem inv_sq (I : Inv X pins σ H s) {t : Bool} {a : Addr} {xs : List V} (h : Sqv t X.K H a xs) : ∃ its, Vals xs its ∧ IsSq t s.heap a its.toArray ∧ xs.length ≤ sizeLine := by
  cases t with
  | true =>
    obtain ⟨its, rv, p, hz⟩ := I.tuple h
    exact ⟨its, rv, p, hz⟩
  | false =>
    obtain ⟨its, rv, p, hz⟩ := I.list h
    exact ⟨its, rv, p.isList, hz⟩
theorem sq_inj (I : Inv X pins σ H s) {t : Bool} {a : Addr} {xs ys : List V} (h : Sqv t X.K H a xs) (h' : Sqv t X.K H a ys) : xs = ys := by
  cases t with
  | true => exact I.tuple_inj h h'
  | false => exact I.list_inj h h'
end
/-- each item of the list or tuple at a, in a new pair -/
def Iq (t : Bool) (K : PySem.W.Frag) (a : Addr) : It :=
  ⟨fun i H => ∃ (xs : List V) (x : V), Sqv t K H a xs ∧ xs[i]? = some x, fun i H v H' => ∃ T x, v = .ref T ∧ H T = none ∧ H' = upd H T (.tup [.int (i : Nat), x]) ∧ ∀ xs, Sqv t K H a xs → xs[i]? = some x, fun i H => ∃ xs : List V, Sqv t K H a xs ∧ xs.length = i⟩
theorem turn_enumQ {P : Program} {w : World} {K : PySem.W.Frag} {elts : List Expr} {kk : Nat} {tpos : Pos} (t : Bool) (a e it : Addr) :
    Turn P w K (.Tuple elts kk tpos) (Iq t K a) [e, it] e (fun i h => (∃ old, IsEnum h e it ((i : Nat) : Int) old) ∧ IsQi t h it a i ∧ e ≠ it) where
  mem := by simp
  obj := fun i h st b hb => by
    obtain ⟨⟨old, he⟩, hi, _⟩ := st
    have e' : b = e ∨ b = it := by simpa using hb
    rcases e' with z | z
    · rw [z]; exact ⟨_, he, fun v q => nomatch q⟩
    · rw [z]
      obtain ⟨o, ho, hd, _⟩ := isQi_obj hi
      exact ⟨o, ho, hd⟩
  keep := fun i h h' st k => let ⟨⟨old, he⟩, hi, hne⟩ := st; ⟨⟨old, k e (by simp) _ he⟩, isQi_at hi fun o q => k it (by simp) o q, hne⟩
  item := by
    intro X hP hw hK hc i pins s σ H E I hf st hg
    subst hP hw hK
    obtain ⟨⟨old, he⟩, hit, hne⟩ := st
    obtain ⟨xs, x, hq, hx⟩ := hg
    obtain ⟨its, rv, p, hz⟩ := inv_sq I hq
    obtain ⟨u, hu, ru⟩ := rv.get hx
    have hel : e < s.heap.objs.size := Heap.lt_size he
    have hil : it < s.heap.objs.size := by obtain ⟨_, q, _⟩ := isQi_obj hit; exact Heap.lt_size q
    have hai : a ≠ it := isSq_ne hit p
    have hae : e ≠ a := fun z => by
      obtain ⟨o, q, c⟩ := isSq_obj p
      rw [← z] at q; rw [he] at q; cases q
      rcases c with c | c
      · injection c with c; exact absurd c (by decide)
      · injection c with c; exact absurd c (by decide)
    have hsz : i < its.toArray.size := by
      rw [List.size_toArray, ← rv.length]
      exact (List.getElem?_eq_some_iff.mp hx).1
    refine wpAny_pyNext_enum_itemC (draws_sq (A := X.A.in1) (I.ok.hd hc) t it a hai its.toArray) he ⟨hit, p⟩ hsz hne (by simp [hne, hae]) fun x1 h' tk hx1 ho ⟨hit', p'⟩ hT hsz hk => ?_
    have eu : x1 = u := by
      have : its.toArray[i]? = some u := by simpa using hu
      rw [this] at hx1; cases hx1; rfl
    subst eu
    refine ⟨_, rfl, wpAny_letOwnedTupleGo_enum (s := { s with heap := h', toks := tk + 1 }) ho fun h'' he' sb => ?_⟩
    have hT2 : h''.get? s.heap.objs.size = some { cls := .type "tuple", data := .seq #[.int i tk, x1] } := (sb.2 _ (Nat.ne_of_gt hel)).trans hT
    have new : ObjOk X.prog X.w (upd H s.heap.objs.size (.tup [.int (i : Nat), x])) h'' s.heap.objs.size (.tup [.int (i : Nat), x]) :=
      ⟨by show 2 ≤ sizeLine; decide, [.int i tk, x1], .cons ⟨_, rfl⟩ (.cons ru .nil), ⟨_, hT2, rfl, _, rfl⟩⟩
    have I1 : Inv X pins σ (upd H s.heap.objs.size (.tup [.int (i : Nat), x])) { s with heap := h'', toks := tk + 1 } :=
      I.turnedNew (ch := [e, it]) (fun b ob hb q => (sb.2 b (fun z => hb (by simp [z]))).trans (hk b ob (fun z => hb (by simp [z])) (fun z => hb (by simp [z])) q)) hf (Nat.le_refl _) new
    refine ⟨.ref s.heap.objs.size, _, I1, rfl, ⟨_, x, rfl, I.hok.fresh (Nat.le_refl _), rfl, fun ys hy => by rw [sq_inj I hy hq]; exact hx⟩, ⟨⟨x1, ?_⟩, isQi_at hit' fun o q => (sb.2 it (Ne.symm hne)).trans q, hne⟩, fun b hb => ?_⟩
    · have e1 : ((i + 1 : Nat) : Int) = (i : Int) + 1 := by omega
      rw [e1]; exact he'
    · have hb' : b < s.heap.objs.size := by
        have e' : b = e ∨ b = it := by simpa using hb
        rcases e' with z | z
        · rw [z]; exact hel
        · rw [z]; exact hil
      rw [upd_ne (Nat.ne_of_lt hb')]
      exact (hf b hb).1
  done := by
    intro X hP hw hK hc i pins s σ H E I hf st hg
    subst hP hw hK
    obtain ⟨⟨old, he⟩, hit, hne⟩ := st
    obtain ⟨xs, hq, hx⟩ := hg
    obtain ⟨its, rv, p, hz⟩ := inv_sq I hq
    have hai : a ≠ it := isSq_ne hit p
    have hl : i = its.toArray.size := by rw [List.size_toArray, ← rv.length]; exact hx.symm
    exact wpAny_pyNext_enum_endD (draws_sq (A := X.A.in1) (I.ok.hd hc) t it a hai its.toArray) he ⟨hl ▸ hit, p⟩ fun h' eb => ⟨rfl, I.turnedL (t' := s.toks) (ch := [e, it]) (fun b o hb q => eb b o (fun z => hb (by simp [z])) q) hf⟩
  self := fun A i s Q E st h => let ⟨⟨_, he⟩, _⟩ := st; wpAny_pyIter_enum he h
end Pv
end
section
set_option Elab.async false
set_option linter.all false
set_option maxRecDepth 100000
/-! Pv.P: enumerate(v), zip(v, w) begin; zip's turns. -/
namespace Pv
open PySem PySem.Spec L2
set_option maxHeartbeats 1000000 in
theorem meets_enum1 {v : Value} {o : Obj} {H : Heap → Prop} (B : Begins v o H) :
    Meets (Builtin.«enumerate.__new__» ⟨[.type "enumerate", v], []⟩) (fun _ R s => H s.heap ∧
      R (.ok (.ret (.ref (s.heap.push o).objs.size))) { s with heap := (s.heap.push o).push { cls := .type "enumerate", data := .fields #[.none, .bool false, .ref s.heap.objs.size, rawInt 0, .none, .none] } }) :=
  .of_wp fun prog w A R s h => by
    obtain ⟨hp, g, d, tk, os⟩ := s; obtain ⟨h1, h⟩ := h
    have hsub := sub_enumerate
    have q1 : ∀ {A' : Around} {E : Value → Shared → Prop} {Q : Value → Shared → Prop}, Q (.ref hp.objs.size) ⟨hp.push o, g, d, tk, os⟩ → wpAny (model prog w) A' (pyIter v) Q E ⟨hp, g, d, tk, os⟩ :=
      fun q => B.iter prog w _ _ ⟨hp, g, d, tk, os⟩ _ h1 q
    wp_walk using q1
    refine wpAny_stack_any fun st => wpAny_pure ?_
    split
    · rename_i c _ _ _ _ _
      cases (c == Value.type "enumerate")
      · wp_walk using q1
        exact ⟨_, rfl, h⟩
      · wp_walk using q1
        exact ⟨_, rfl, h⟩
    · wp_walk using q1
      exact ⟨_, rfl, h⟩
theorem enum_begins1 {prog : Program} {w : World} {A : Around} {E : Value → Shared → Prop} {s : Shared} {v : Value} {o : Obj} {H : Heap → Prop} {Q : Value → Shared → Prop} (B : Begins v o H) (h1 : H s.heap)
    (h : ∀ h', IsEnum h' (s.heap.objs.size + 1) s.heap.objs.size 0 .none → h'.get? s.heap.objs.size = some o →
      (∀ b o, s.heap.get? b = some o → h'.get? b = some o) → Q (.ref (s.heap.objs.size + 1)) { s with heap := h' }) :
    wpAny (model prog w) A (call (.type "enumerate") [v]) Q E s := by
  refine callType_new F.called_enumerate (by decide) (F.typeCall_enumerate_1 _) (F.newCall_enumerate_1 _) (fun obj => F.args_object_init_2 obj _) F.entry_enumerate_new
    (meets_enum1 B) ⟨h1, ?_⟩
  have hz : (s.heap.push o).objs.size = s.heap.objs.size + 1 := Heap.size_push ..
  show _ ∧ _
  rw [hz]
  have he : IsEnum ((s.heap.push o).push { cls := .type "enumerate", data := .fields #[.none, .bool false, .ref s.heap.objs.size, rawInt 0, .none, .none] }) (s.heap.objs.size + 1) s.heap.objs.size 0 .none := by
    have := Heap.get?_push_size (s.heap.push o) (o := { cls := .type "enumerate", data := .fields #[.none, .bool false, .ref s.heap.objs.size, rawInt 0, .none, .none] }) rfl
    rw [hz] at this; exact this
  exact ⟨⟨_, he, rfl⟩, h _ he (Heap.get?_push_of_some _ (Heap.get?_push_size _ B.free)) fun b o x => Heap.get?_push_of_some _ (Heap.get?_push_of_some _ x)⟩

def iEnumQ (K : PySem.W.Frag) (ta : TA) : TI := fun σ H R => ta σ H fun vs H1 => ∃ t a xs, vs = [.ref a] ∧ Sqv t K H1 a xs ∧ R (Iq t K a) H1
theorem boot_enum : bootBuiltins "enumerate" = some (.type "enumerate") := by decide +kernel
theorem boot_zip : bootBuiltins "zip" = some (.type "zip") := by decide +kernel
theorem pi_enumQ {X : Cx} {e : Expr} {ta : TA} {p pos tpos : Pos} {elts : List Expr} {kk : Nat} (hg : Gl X "enumerate") (hm : X.mg "enumerate" = none) (ha : PA X [e] ta) (hs : starEach [e] X.env = [(false, eval e X.env)]) :
    PI X (.Tuple elts kk tpos) (.Call (.Name "enumerate" p) [e] [] pos) (iEnumQ X.K ta) := by
  refine ⟨fun pins s σ H R I h => ?_⟩
  refine PyProof.Rows.Call_ (ld_blt I hg hm boot_enum (PyProof.Rows.callWith_type1 (thn (ha.run pos pins s σ H _ I h) fun us s1 ⟨vs, H1, I1, r1, q1⟩ => ?_) hs rfl))
  obtain ⟨t, a, xs, ex, hq, q⟩ := q1
  subst ex
  cases r1 with
  | cons r rr =>
    cases rr
    cases r
    obtain ⟨its, rv, p', hz⟩ := inv_sq I1 hq
    refine enum_begins1 (begins_sq t a its.toArray) p' fun h' he hit hk => wpAny_pyIter_enum he ?_
    have I2 : Inv X pins σ H1 { s1 with heap := h' } := I1.kept (t' := s1.toks) hk
    refine ⟨s1.heap.objs.size + 1, [s1.heap.objs.size + 1, s1.heap.objs.size], _, _, H1, rfl, I2, turn_enumQ t a (s1.heap.objs.size + 1) s1.heap.objs.size, ⟨⟨.none, he⟩, isQi_new hit, Nat.succ_ne_self _⟩, fun b hb => ?_, q⟩
    have e' : b = s1.heap.objs.size + 1 ∨ b = s1.heap.objs.size := by simpa using hb
    have hle : s1.heap.objs.size ≤ b := by
      rcases e' with z | z
      · rw [z]; exact Nat.le_add_right _ _
      · rw [z]; exact Nat.le_refl _
    exact I1.fpOk hle (I1.hok.fresh hle)

/-! ### zip -/
/-- the items of the two, in new pairs -/
def Iz (t t' : Bool) (K : PySem.W.Frag) (a b : Addr) : It :=
  ⟨fun i H => ∃ (xs ys : List V) (x y : V), Sqv t K H a xs ∧ Sqv t' K H b ys ∧ xs[i]? = some x ∧ ys[i]? = some y,
    fun i H v H' => ∃ T x y, v = .ref T ∧ H T = none ∧ H' = upd H T (.tup [x, y]) ∧ (∀ xs, Sqv t K H a xs → xs[i]? = some x) ∧ ∀ ys, Sqv t' K H b ys → ys[i]? = some y,
    fun i H => ∃ (xs ys : List V), Sqv t K H a xs ∧ Sqv t' K H b ys ∧ i = min xs.length ys.length⟩
structure Zd (z TI TO i1 i2 : Addr) : Prop where
  h1 : TI ≠ z
  h2 : TO ≠ z
  h3 : TI ≠ TO
  h4 : TI ≠ i1
  h5 : TI ≠ i2
  h6 : z ≠ i1
  h7 : z ≠ i2
  h8 : TO ≠ i1
  h9 : TO ≠ i2
  h10 : i1 ≠ i2
theorem turn_zipQ {P : Program} {w : World} {K : PySem.W.Frag} {elts : List Expr} {kk : Nat} {tpos : Pos} (t t' : Bool) {z TI TO i1 i2 a b : Addr} (D : Zd z TI TO i1 i2) (hTa : TO ≠ a) (hTb : TO ≠ b) :
    Turn P w K (.Tuple elts kk tpos) (Iz t t' K a b) [z, TI, TO, i1, i2] z (fun i h => IsZip h z TI TO .none ∧ IsTupOf2 h TI (.ref i1) (.ref i2) ∧ (∃ x y, IsTupOf2 h TO x y) ∧ IsQi t h i1 a i ∧ IsQi t' h i2 b i) where
  mem := by simp
  obj := fun i h st c hc => by
    obtain ⟨hz, hTI, ⟨x, y, hTO⟩, h1, h2⟩ := st
    have e' : c = z ∨ c = TI ∨ c = TO ∨ c = i1 ∨ c = i2 := by simpa using hc
    rcases e' with q | q | q | q | q
    · rw [q]; exact ⟨_, hz, fun v r => nomatch r⟩
    · rw [q]; exact ⟨_, hTI, fun v r => nomatch r⟩
    · rw [q]; exact ⟨_, hTO, fun v r => nomatch r⟩
    · rw [q]
      obtain ⟨o, ho, hd, _⟩ := isQi_obj h1
      exact ⟨o, ho, hd⟩
    · rw [q]
      obtain ⟨o, ho, hd, _⟩ := isQi_obj h2
      exact ⟨o, ho, hd⟩
  keep := fun i h h' st k => by
    obtain ⟨hz, hTI, ⟨x, y, hTO⟩, h1, h2⟩ := st
    exact ⟨k _ (by simp) _ hz, k _ (by simp) _ hTI, ⟨x, y, k _ (by simp) _ hTO⟩, isQi_at h1 fun o q => k _ (by simp) o q, isQi_at h2 fun o q => k _ (by simp) o q⟩
  item := by
    intro X hP hw hK hc i pins s σ H E I hf st hg
    subst hP hw hK
    obtain ⟨hz, hTI, ⟨x0, y0, hTO⟩, h1, h2⟩ := st
    obtain ⟨xs, ys, x, y, hqx, hqy, hx, hy⟩ := hg
    obtain ⟨its, rv, p, _⟩ := inv_sq I hqx
    obtain ⟨its2, rv2, p2, _⟩ := inv_sq I hqy
    obtain ⟨u, hu, ru⟩ := rv.get hx
    obtain ⟨u2, hu2, ru2⟩ := rv2.get hy
    have hzl : z < s.heap.objs.size := Heap.lt_size hz
    have n1 : a ≠ i1 := isSq_ne h1 p
    have n2 : b ≠ i2 := isSq_ne h2 p2
    have n3 : a ≠ i2 := isSq_ne h2 p
    have n4 : b ≠ i1 := isSq_ne h1 p2
    have zz : ∀ {t : Bool} {c : Addr} {l : Array Value}, IsSq t s.heap c l → c ≠ z := fun q e => by
      obtain ⟨o, q, c⟩ := isSq_obj q
      rw [e] at q; rw [hz] at q; cases q
      rcases c with c | c
      · injection c with c; exact absurd c (by decide)
      · injection c with c; exact absurd c (by decide)
    have S : ZipSep2 z TI TO i1 i2 [i1, a] [i2, b] :=
      { TIz := D.h1, TOz := D.h2, TITO := D.h3, TIi1 := D.h4, mem1 := by simp, zf1 := by simp [D.h6, (zz p).symm], Tf1 := by simp [D.h8, hTa],
        TIi2 := D.h5, mem2 := by simp, zf2 := by simp [D.h7, (zz p2).symm], Tf2 := by simp [D.h9, hTb], sep1_2 := by simp [D.h10, n4.symm], sep2_1 := by simp [D.h10.symm, n3.symm] }
    have hs1 : i < its.toArray.size := by
      rw [List.size_toArray, ← rv.length]
      exact (List.getElem?_eq_some_iff.mp hx).1
    have hs2 : i < its2.toArray.size := by
      rw [List.size_toArray, ← rv2.length]
      exact (List.getElem?_eq_some_iff.mp hy).1
    refine wpAny_pyNext_zipD2_item S (draws_sq (A := X.A.in1) (I.ok.hd hc) t i1 a n1 its.toArray) (draws_sq (A := X.A.in1) (I.ok.hd hc) t' i2 b n2 its2.toArray) hz hTI hTO ⟨h1, p⟩ ⟨h2, p2⟩ hs1 hs2 fun x1 x2 h' tk g1 g2 z' TO' st1 st2 hT hsz hk => ?_
    have eu : x1 = u := by
      have : its.toArray[i]? = some u := by simpa using hu
      rw [this] at g1; cases g1; rfl
    have eu2 : x2 = u2 := by
      have : its2.toArray[i]? = some u2 := by simpa using hu2
      rw [this] at g2; cases g2; rfl
    subst eu eu2
    refine ⟨_, rfl, wpAny_letOwnedTupleGo_zip (s := { s with heap := h', toks := tk }) z' fun h'' z'' sb => ?_⟩
    have hT2 : h''.get? s.heap.objs.size = some { cls := .type "tuple", data := .seq #[x1, x2] } := (sb.2 _ (Nat.ne_of_gt hzl)).trans hT
    have new : ObjOk X.prog X.w (upd H s.heap.objs.size (.tup [x, y])) h'' s.heap.objs.size (.tup [x, y]) :=
      ⟨by show 2 ≤ sizeLine; decide, [x1, x2], .cons ru (.cons ru2 .nil), ⟨_, hT2, rfl, _, rfl⟩⟩
    have I1 : Inv X pins σ (upd H s.heap.objs.size (.tup [x, y])) { s with heap := h'', toks := tk } :=
      I.turnedNew (t' := tk) (ch := [z, TI, TO, i1, i2]) (fun c o hb q => (sb.2 c (fun q' => hb (by simp [q']))).trans (hk c o (fun q' => hb (by simp [q'])) (fun q' => hb (by simp [q'])) (fun q' => hb (by simp [q'])) (fun q' => hb (by simp [q'])) q)) hf (Nat.le_refl _) new
    refine ⟨.ref s.heap.objs.size, _, I1, rfl, ⟨_, x, y, rfl, I.hok.fresh (Nat.le_refl _), rfl, fun l hl => by rw [sq_inj I hl hqx]; exact hx, fun l hl => by rw [sq_inj I hl hqy]; exact hy⟩, ⟨z'', ?_, ⟨x1, x2, ?_⟩, ?_, ?_⟩, fun c hcm => ?_⟩
    · exact (sb.2 _ D.h1).trans (hk _ _ D.h1 D.h3 D.h4 D.h5 hTI)
    · exact (sb.2 _ D.h2).trans TO'
    · exact isQi_at st1.1 fun o q => (sb.2 _ D.h6.symm).trans q
    · exact isQi_at st2.1 fun o q => (sb.2 _ D.h7.symm).trans q
    · have hlt : c < s.heap.objs.size := by
        have e' : c = z ∨ c = TI ∨ c = TO ∨ c = i1 ∨ c = i2 := by simpa using hcm
        rcases e' with q | q | q | q | q
        · rw [q]; exact hzl
        · rw [q]; exact Heap.lt_size hTI
        · rw [q]; exact Heap.lt_size hTO
        · rw [q]; obtain ⟨_, e1, _⟩ := isQi_obj h1; exact Heap.lt_size e1
        · rw [q]; obtain ⟨_, e2, _⟩ := isQi_obj h2; exact Heap.lt_size e2
      rw [upd_ne (Nat.ne_of_lt hlt)]
      exact (hf c hcm).1
  done := by
    intro X hP hw hK hc i pins s σ H E I hf st hg
    subst hP hw hK
    obtain ⟨hz, hTI, ⟨x0, y0, hTO⟩, h1, h2⟩ := st
    obtain ⟨xs, ys, hqx, hqy, hend⟩ := hg
    obtain ⟨its, rv, p, _⟩ := inv_sq I hqx
    obtain ⟨its2, rv2, p2, _⟩ := inv_sq I hqy
    have n1 : a ≠ i1 := isSq_ne h1 p
    have n2 : b ≠ i2 := isSq_ne h2 p2
    have n3 : a ≠ i2 := isSq_ne h2 p
    have n4 : b ≠ i1 := isSq_ne h1 p2
    have zz : ∀ {t : Bool} {c : Addr} {l : Array Value}, IsSq t s.heap c l → c ≠ z := fun q e => by
      obtain ⟨o, q, c⟩ := isSq_obj q
      rw [e] at q; rw [hz] at q; cases q
      rcases c with c | c
      · injection c with c; exact absurd c (by decide)
      · injection c with c; exact absurd c (by decide)
    have S : ZipSep2 z TI TO i1 i2 [i1, a] [i2, b] :=
      { TIz := D.h1, TOz := D.h2, TITO := D.h3, TIi1 := D.h4, mem1 := by simp, zf1 := by simp [D.h6, (zz p).symm], Tf1 := by simp [D.h8, hTa],
        TIi2 := D.h5, mem2 := by simp, zf2 := by simp [D.h7, (zz p2).symm], Tf2 := by simp [D.h9, hTb], sep1_2 := by simp [D.h10, n4.symm], sep2_1 := by simp [D.h10.symm, n3.symm] }
    have l1 := rv.length
    have l2 := rv2.length
    have e1 : i = min its.toArray.size its2.toArray.size := by rw [List.size_toArray, List.size_toArray, ← l1, ← l2]; exact hend
    refine wpAny_pyNext_zipD2_end S (draws_sq (A := X.A.in1) (I.ok.hd hc) t i1 a n1 its.toArray) (draws_sq (A := X.A.in1) (I.ok.hd hc) t' i2 b n2 its2.toArray) hz hTI hTO ⟨h1, p⟩ ⟨h2, p2⟩ (by omega) (by omega) (by omega) fun h' tk hk => ⟨rfl, I.turnedL (t' := tk) (ch := [z, TI, TO, i1, i2]) (fun c o hb q =>
      hk c o (fun q' => hb (by simp [q'])) (fun q' => hb (by simp [q'])) (fun q' => hb (by simp [q'])) (fun q' => hb (by simp [q'])) q) hf⟩
  self := fun A i s Q E st h => wpAny_pyIter_zip st.1 h
def iZipQ (K : PySem.W.Frag) (ta : TA) : TI := fun σ H R => ta σ H fun vs H1 => ∃ t t' a b xs ys, vs = [.ref a, .ref b] ∧ Sqv t K H1 a xs ∧ Sqv t' K H1 b ys ∧ R (Iz t t' K a b) H1
theorem pi_zipQ {X : Cx} {e e2 : Expr} {ta : TA} {p pos tpos : Pos} {elts : List Expr} {kk : Nat} (hg : Gl X "zip") (hm : X.mg "zip" = none) (ha : PA X [e, e2] ta)
    (hs : starEach [e, e2] X.env = (false, eval e X.env) :: starEach [e2] X.env) (hpl : (backTo pos (starEach [e2] X.env)).any (·.1) = false) :
    PI X (.Tuple elts kk tpos) (.Call (.Name "zip" p) [e, e2] [] pos) (iZipQ X.K ta) := by
  refine ⟨fun pins s σ H R I h => ?_⟩
  refine PyProof.Rows.Call_ (ld_blt I hg hm boot_zip (PyProof.Rows.callWith_type1 (thn (ha.run pos pins s σ H _ I h) fun us s1 ⟨vs, H1, I1, r1, q1⟩ => ?_) hs hpl))
  obtain ⟨t, t', a, b, xs, ys, ex, hqx, hqy, q⟩ := q1
  subst ex
  cases r1 with
  | cons r rr =>
    cases rr with
    | cons r' rr =>
      cases rr
      cases r
      cases r'
      obtain ⟨its, rv, p1, _⟩ := inv_sq I1 hqx
      obtain ⟨its2, rv2, p2, _⟩ := inv_sq I1 hqy
      have la : a < s1.heap.objs.size := by obtain ⟨o, e, _⟩ := isSq_obj p1; exact Heap.lt_size e
      have lb : b < s1.heap.objs.size := by obtain ⟨o, e, _⟩ := isSq_obj p2; exact Heap.lt_size e
      refine zip_begins2 (begins_sq t a its.toArray) (begins_sq t' b its2.toArray) p1 p2 fun h' hz hTI hTO h1 h2 hsz hk => wpAny_pyIter_zip hz ?_
      have I2 : Inv X pins σ H1 { s1 with heap := h' } := I1.kept (t' := s1.toks) hk
      have fresh5 : ∀ c, c ∈ [s1.heap.objs.size + 4, s1.heap.objs.size + 2, s1.heap.objs.size + 3, s1.heap.objs.size, s1.heap.objs.size + 1] → FpOk X pins H1 c := fun c hcm => by
        have e' : c = s1.heap.objs.size + 4 ∨ c = s1.heap.objs.size + 2 ∨ c = s1.heap.objs.size + 3 ∨ c = s1.heap.objs.size ∨ c = s1.heap.objs.size + 1 := by simpa using hcm
        have hle : s1.heap.objs.size ≤ c := by
          rcases e' with z | z | z | z | z
          · rw [z]; exact Nat.le_add_right _ _
          · rw [z]; exact Nat.le_add_right _ _
          · rw [z]; exact Nat.le_add_right _ _
          · rw [z]; exact Nat.le_refl _
          · rw [z]; exact Nat.le_add_right _ _
        exact I1.fpOk hle (I1.hok.fresh hle)
      have zd : ∀ n : Nat, Zd (n + 4) (n + 2) (n + 3) n (n + 1) := fun n => by
        constructor <;> (intro z; have z' : (_ : Nat) = _ := z; omega)
      exact ⟨s1.heap.objs.size + 4, [s1.heap.objs.size + 4, s1.heap.objs.size + 2, s1.heap.objs.size + 3, s1.heap.objs.size, s1.heap.objs.size + 1], _, _, H1, rfl, I2, turn_zipQ t t' (zd _) (Nat.ne_of_gt (Nat.lt_add_right 3 la)) (Nat.ne_of_gt (Nat.lt_add_right 3 lb)),
        ⟨hz, hTI, ⟨_, _, hTO⟩, isQi_new h1, isQi_new h2⟩, fresh5, q⟩
end Pv
end
section
set_option Elab.async false
set_option linter.all false
set_option maxRecDepth 100000
/-! Pv.Q: what a for and a comprehension walk. -/
namespace Pv
open PySem PySem.Spec L2
/-- the walk J yields just the data ds, in order -/
structure ItOk (K : Kc) (J : It) (R : Hp) (ds : List Dt) : Prop where
  go : ∀ (i : Nat) (H : Hp), Same R H → i < ds.length → J.go i H
  stop : ∀ (i : Nat) (H : Hp), Same R H → i = ds.length → J.stop i H
  yld : ∀ (i : Nat) (x : V) (sp : Option Addr) (R1 H H1 : Hp) (c : Dt), Same R R1 → Same R1 H → Cel K sp R1 H c → i < ds.length → J.yld i H x H1 → ∃ d, ds[i]? = some d ∧ ∃ R2, Ext sp R1 H R2 H1 ∧ Cel K sp R2 H1 c ∧ Rp K R2 x d
  few : ds.length ≤ line
def rdI (K : Kc) (Φ : List Fn) (ct : Ct) (it : II) : TI := fun σ H G =>
  ∃ (sp : Option Addr) (R : Hp) (ρ : List Sl) (c : Dt) (ds : List Dt) (c' : Dt), SRel K sp R H σ ρ c ∧ evI Φ ct it ρ c = some (ds, c') ∧
    ∀ J R' H', Ext sp R H R' H' → Cel K sp R' H' c' → ItOk K J R' ds → G J H'
section
variable {X : Cx} {Φ : List Fn} {ct : Ct} {pos p : Pos} {x y z tg : Expr} {a b c : IE} {K : Kc}
theorem ItOk.list {R : Hp} {p : Addr} {xs : List V} {ds : List Dt} (h : Rd R p (.lst xs)) (r : RpL K R xs ds) (few : ds.length ≤ line) : ItOk K (Itl K.f p) R ds where
  go := fun i H e hi => by
    obtain ⟨v, h1, _⟩ := r.get (List.getElem?_eq_getElem hi)
    exact ⟨xs, v, .inl (rd_mono e h), h1⟩
  stop := fun i H e hi => ⟨xs, .inl (rd_mono e h), by rw [r.length]; omega⟩
  yld := fun i x sp R1 H H1 c e1 e2 l hi y => by
    obtain ⟨rfl, y⟩ := y
    have hx := y xs (.inl (rd_mono (e1.trans e2) h))
    obtain ⟨d, h1, h2⟩ := r.getV hx
    exact ⟨d, h1, R1, .refl e2, l, h2.mono e1⟩
  few := few
theorem ItOk.tup {R : Hp} {p : Addr} {xs : List V} {ds : List Dt} (h : Tq K R p xs) (r : RpL K R xs ds) (few : ds.length ≤ line) : ItOk K (Itt K.f p) R ds where
  go := fun i H e hi => by
    obtain ⟨v, h1, _⟩ := r.get (List.getElem?_eq_getElem hi)
    exact ⟨xs, v, sqT_mono e h.sq, h1⟩
  stop := fun i H e hi => ⟨xs, sqT_mono e h.sq, by rw [r.length]; omega⟩
  yld := fun i x sp R1 H H1 c e1 e2 l hi y => by
    obtain ⟨rfl, y⟩ := y
    have hx := y xs (sqT_mono (e1.trans e2) h.sq)
    obtain ⟨d, h1, h2⟩ := r.getV hx
    exact ⟨d, h1, R1, .refl e2, l, h2.mono e1⟩
  few := few
theorem rng_get (lo : Int) (n i : Nat) (h : i < n) : (rngD (lo, n))[i]? = some (.int (lo + (i : Nat))) := by
  unfold rngD
  rw [List.getElem?_map, List.getElem?_range h]; rfl
theorem rng_len (lo : Int) (n : Nat) : (rngD (lo, n)).length = n := by unfold rngD; simp
theorem ItOk.rng {R : Hp} (lo : Int) (n : Nat) (few : n ≤ line) : ItOk K (Itr lo n) R (rngD (lo, n)) where
  go := fun i H e hi => by rw [rng_len] at hi; exact hi
  stop := fun i H e hi => by rw [rng_len] at hi; exact Nat.le_of_eq hi.symm
  yld := fun i x sp R1 H H1 c e1 e2 l hi y => by
    obtain ⟨rfl, rfl⟩ := y
    rw [rng_len] at hi
    exact ⟨_, rng_get lo n i hi, R1, .refl e2, l, .int _⟩
  few := by rw [rng_len]; exact few
/-- a pair made at a turn -/
theorem pair_yld {sp : Option Addr} {R1 H : Hp} {c : Dt} {T : Addr} {xs : List V} {ds : List Dt} (e2 : Same R1 H) (l : Cel K sp R1 H c) (hT : H T = none) (r : RpL K R1 xs ds) :
    ∃ R2, Ext sp R1 H R2 (upd H T (.tup xs)) ∧ Cel K sp R2 (upd H T (.tup xs)) c ∧ Rp K R2 (.ref T) (.tuple ds) := by
  obtain ⟨x1, x2⟩ := new_tup (sp := sp) e2 hT r
  exact ⟨_, x1, cel_of x1 (keep_upd hT) l, x2⟩
theorem enum_len : ∀ (n : Nat) (ds : List Dt), (enumD n ds).length = ds.length
  | _, [] => rfl
  | n, _ :: r => by rw [enumD, List.length_cons, List.length_cons, enum_len (n + 1) r]
theorem enum_get : ∀ (n : Nat) (ds : List Dt) (i : Nat) (d : Dt), ds[i]? = some d → (enumD n ds)[i]? = some (.tuple [.int ((n + i : Nat) : Int), d])
  | _, [], _, _, h => by simp at h
  | n, x :: r, 0, d, h => by simp at h; subst h; rfl
  | n, x :: r, i + 1, d, h => by
    have := enum_get (n + 1) r i d (by simpa using h)
    rw [enumD, List.getElem?_cons_succ, this]
    congr 4
    omega
theorem zip_len : ∀ (a b : List Dt), (zipD a b).length = min a.length b.length
  | [], b => by simp [zipD]
  | x :: r, [] => by simp [zipD]
  | x :: r, y :: q => by rw [zipD, List.length_cons, zip_len r q, List.length_cons, List.length_cons]; omega
theorem zip_get : ∀ (a b : List Dt) (i : Nat) (x y : Dt), a[i]? = some x → b[i]? = some y → (zipD a b)[i]? = some (.tuple [x, y])
  | [], _, _, _, _, h, _ => by simp at h
  | _ :: _, [], _, _, _, _, h => by simp at h
  | x :: r, y :: q, 0, _, _, h, h' => by simp at h h'; subst h h'; rfl
  | x :: r, y :: q, i + 1, _, _, h, h' => by
    rw [zipD, List.getElem?_cons_succ]
    exact zip_get r q i _ _ (by simpa using h) (by simpa using h')
/-- a list or a tuple that stands in the region -/
structure SqR (K : Kc) (R : Hp) (t : Bool) (a : Addr) (xs : List V) (ds : List Dt) : Prop where
  at_ : ∀ H, Same R H → Sqv t K.f H a xs
  rep : RpL K R xs ds
theorem sq_rep {R : Hp} {v : V} {d : Dt} {ds : List Dt} (r : Rp K R v d) (hd : seqD d = some ds) : ∃ t a xs, v = .ref a ∧ SqR K R t a xs ds := by
  cases d with
  | list l =>
    cases hd
    cases r with
    | lst h1 h2 => exact ⟨false, _, _, rfl, fun H e => .inl (rd_mono e h1), h2⟩
  | tuple l =>
    cases hd
    cases r with
    | tup h1 h2 => exact ⟨true, _, _, rfl, fun H e => sqT_mono e h1.sq, h2⟩
  | _ => cases hd
theorem ItOk.enum {R : Hp} {t : Bool} {p : Addr} {xs : List V} {ds : List Dt} (h : SqR K R t p xs ds) (few : ds.length ≤ line) : ItOk K (Iq t K.f p) R (enumD 0 ds) where
  go := fun i H e hi => by
    rw [enum_len] at hi
    obtain ⟨v, h1, _⟩ := h.rep.get (List.getElem?_eq_getElem hi)
    exact ⟨xs, v, h.at_ H e, h1⟩
  stop := fun i H e hi => by
    rw [enum_len] at hi
    exact ⟨xs, h.at_ H e, by rw [h.rep.length]; exact hi.symm⟩
  yld := fun i x sp R1 H H1 c e1 e2 l hi y => by
    obtain ⟨T, v, rfl, hT, rfl, y⟩ := y
    have hx := y xs (h.at_ H (e1.trans e2))
    obtain ⟨d, h1, h2⟩ := h.rep.getV hx
    refine ⟨_, enum_get 0 ds i d h1, ?_⟩
    rw [Nat.zero_add]
    exact pair_yld e2 l hT (.cons (.int _) (.cons (h2.mono e1) .nil))
  few := by rw [enum_len]; exact few
theorem ItOk.zip {R : Hp} {t t' : Bool} {p q : Addr} {xs ys : List V} {ds es : List Dt} (h : SqR K R t p xs ds) (h' : SqR K R t' q ys es) (few : ds.length ≤ line) : ItOk K (Iz t t' K.f p q) R (zipD ds es) where
  go := fun i H e hi => by
    rw [zip_len] at hi
    obtain ⟨v, h1, _⟩ := h.rep.get (List.getElem?_eq_getElem (show i < ds.length by omega))
    obtain ⟨u, h2, _⟩ := h'.rep.get (List.getElem?_eq_getElem (show i < es.length by omega))
    exact ⟨xs, ys, v, u, h.at_ H e, h'.at_ H e, h1, h2⟩
  stop := fun i H e hi => by
    rw [zip_len] at hi
    exact ⟨xs, ys, h.at_ H e, h'.at_ H e, by rw [h.rep.length, h'.rep.length]; exact hi⟩
  yld := fun i x sp R1 H H1 c e1 e2 l hi y => by
    obtain ⟨T, v, u, rfl, hT, rfl, y1, y2⟩ := y
    obtain ⟨d, g1, g2⟩ := h.rep.getV (y1 xs (h.at_ H (e1.trans e2)))
    obtain ⟨d', g3, g4⟩ := h'.rep.getV (y2 ys (h'.at_ H (e1.trans e2)))
    exact ⟨_, zip_get ds es i d d' g1 g3, pair_yld e2 l hT (.cons (g2.mono e1) (.cons (g4.mono e1) .nil))⟩
  few := by rw [zip_len]; omega
/-- the keys of a locked dict -/
theorem ItOk.keys {R : Hp} {d : Addr} {o : Obj} {kvs : List (Key × V)} (h : R d = some (.frz o (.dK kvs))) (few : kvs.length ≤ line) : ItOk K (Itk d o kvs) R (kvs.map fun p => kD p.1) where
  go := fun i H e hi => ⟨e _ _ h, by simpa using hi⟩
  stop := fun i H e hi => ⟨e _ _ h, by rw [hi]; simp⟩
  yld := fun i x sp R1 H H1 c e1 e2 l hi y => by
    obtain ⟨rfl, k, v, hk, rfl⟩ := y
    refine ⟨kD k, by rw [List.getElem?_map, hk]; rfl, R1, .refl e2, l, ?_⟩
    cases k <;> constructor
  few := by simpa using few
theorem keys_rep {R : Hp} : ∀ ks : List Key, RpL K R (ks.map kV) (ks.map kD)
  | [] => .nil
  | k :: ks => .cons (by cases k <;> constructor) (keys_rep ks)
theorem ItOk.keysT {R : Hp} {d : Addr} {o : Obj} {kvs : List (List Key × V)} (h : R d = some (.frz o (.dT kvs))) (few : kvs.length ≤ line) : ItOk K (Itkt d o kvs) R (kvs.map fun p => .tuple (p.1.map kD)) where
  go := fun i H e hi => ⟨e _ _ h, by simpa using hi⟩
  stop := fun i H e hi => ⟨e _ _ h, by rw [hi]; simp⟩
  yld := fun i x sp R1 H H1 c e1 e2 l hi y => by
    obtain ⟨eh, k, v, q, hk, rfl, hq⟩ := y
    subst eh
    refine ⟨.tuple (k.map kD), by rw [List.getElem?_map, hk]; rfl, ?_⟩
    -- the key's tuple joins the region
    have nsp : sp ≠ some q := fun z => by
      have := l q z
      cases this with
      | lst a _ => rw [a] at hq; cases hq
      | dK a _ => rw [a] at hq; cases hq
      | dT a _ => rw [a] at hq; cases hq
    have up : Same R1 (upd R1 q (.tup (k.map kV))) := fun b o z => by
      by_cases w : b = q
      · subst w
        have := e2 _ _ z
        rw [hq] at this; cases this
        exact upd_same
      · rw [upd_ne w]; exact z
    have lo : Same (upd R1 q (.tup (k.map kV))) H1 := fun b o z => by
      by_cases w : b = q
      · subst w; rw [upd_same] at z; cases z; exact hq
      · rw [upd_ne w] at z; exact e2 _ _ z
    refine ⟨upd R1 q (.tup (k.map kV)), ⟨up, lo, fun b o z => ?_, fun b o z _ => z, fun b o z => ⟨o, z⟩⟩, fun b hb => ?_, .tup (.inl upd_same) (keys_rep k)⟩
    · by_cases w : b = q
      · subst w; exact .inr (.inr ⟨nsp, _, hq⟩)
      · rw [upd_ne w] at z; exact .inl z
    · exact (l b hb).mono up fun o z => z
  few := by simpa using few

/-! ### from source text to walk -/
theorem pi_up {wi wi' : TI} (h : PI X tg x wi) (w : ∀ σ H G, wi' σ H G → wi σ H (fun J H1 => ∀ pins σ s, Inv X pins σ H1 s → G J H1)) : PI X tg x wi' := by
  refine ⟨fun pins s σ H G I q => ?_⟩
  refine thn (h.run pins s σ H _ I (w σ H G q)) fun v s1 hq => ?_
  refine thn hq fun itv s2 ⟨it, fp, tn, J, H', e1, I', t, t0, f, g⟩ => ?_
  exact ⟨it, fp, tn, J, H', e1, I', t, t0, f, g _ _ _ I'⟩
theorem pi_case {wi : TI} (h : ∀ σ H G, wi σ H G → ∃ wi', PI X tg x wi' ∧ wi' σ H G) : PI X tg x wi := by
  refine ⟨fun pins s σ H G I q => ?_⟩
  obtain ⟨wi', p, q'⟩ := h σ H G q
  exact p.run pins s σ H G I q'
theorem zip_fst {α : Type} {f : α → Dt} : ∀ {ps : List α} {ds : List Dt}, ps.length = ds.length → ((ps.map f).zip ds).map (·.1) = ps.map f
  | [], _, _ => rfl
  | p :: ps, [], h => by cases h
  | p :: ps, d :: ds, h => by
    rw [List.map_cons, List.zip_cons_cons, List.map_cons, zip_fst (by simpa using h)]
/-- the walk over a value whose data are of the form f xs -/
def rdIf (K : Kc) (Φ : List Fn) (ct : Ct) (a : IE) (P : Dt → List Dt → Prop) : TI := fun σ H G =>
  ∃ (sp : Option Addr) (R : Hp) (ρ : List Sl) (c d : Dt) (ds : List Dt) (c' : Dt), SRel K sp R H σ ρ c ∧ evE Φ ct a ρ c = some (d, c') ∧ P d ds ∧
    ∀ J R' H', Ext sp R H R' H' → Cel K sp R' H' c' → ItOk K J R' ds → G J H'
theorem few_list {pins : List (Addr × Obj)} {σ : St} {H : Hp} {s : Shared} {a : Addr} {xs : List V} (I : Inv X pins σ H s) (h : SqL X.K H a xs) : xs.length ≤ line := by
  obtain ⟨_, _, _, hz⟩ := I.list h
  rw [← line_eq]; exact hz
theorem few_tup {pins : List (Addr × Obj)} {σ : St} {H : Hp} {s : Shared} {a : Addr} {xs : List V} (I : Inv X pins σ H s) (h : SqT X.K H a xs) : xs.length ≤ line := by
  obtain ⟨_, _, _, hz⟩ := I.tuple h
  rw [← line_eq]; exact hz
theorem few_dict {pins : List (Addr × Obj)} {σ : St} {H : Hp} {s : Shared} {d : Addr} {o : Obj} {kvs : List (Key × V)} (I : Inv X pins σ H s) (h : H d = some (.frz o (.dK kvs))) : kvs.length ≤ line := by
  have := (I.hok d _ h).2.1
  rw [← line_eq]; exact this
theorem few_dictT {pins : List (Addr × Obj)} {σ : St} {H : Hp} {s : Shared} {d : Addr} {o : Obj} {kvs : List (List Key × V)} (I : Inv X pins σ H s) (h : H d = some (.frz o (.dT kvs))) : kvs.length ≤ line := by
  have := (I.hok d _ h).2.1
  rw [← line_eq]; exact this
theorem pi_flist (ha : PE X x (rd (kc X ct) Φ ct .S a)) : PI X tg x (rdIf (kc X ct) Φ ct a fun d ds => d = .list ds) := by
  refine pi_up (pi_list ha) fun σ H G ⟨sp, R, ρ, c, d, ds, c', S, ea, hd, q⟩ => ?_
  subst hd
  refine ⟨sp, R, ρ, c, _, _, S, ea, fun v R' H' e l r => ?_⟩
  cases r with
  | lst h1 h2 => exact ⟨_, rfl, ⟨_, .inl (rd_mono e.le h1)⟩, fun pins σ s I => q _ R' H' e l (.list h1 h2 (by rw [← h2.length]; exact few_list I (.inl (rd_mono e.le h1))))⟩
theorem pi_ftup (ha : PE X x (rd (kc X ct) Φ ct .S a)) : PI X tg x (rdIf (kc X ct) Φ ct a fun d ds => d = .tuple ds) := by
  refine pi_up (pi_tup ha) fun σ H G ⟨sp, R, ρ, c, d, ds, c', S, ea, hd, q⟩ => ?_
  subst hd
  refine ⟨sp, R, ρ, c, _, _, S, ea, fun v R' H' e l r => ?_⟩
  cases r with
  | tup h1 h2 => exact ⟨_, rfl, ⟨_, sqT_mono e.le h1.sq⟩, fun pins σ s I => q _ R' H' e l (.tup h1 h2 (by rw [← h2.length]; exact few_tup I (sqT_mono e.le h1.sq)))⟩
theorem pi_fkeys (ha : PE X x (rd (kc X ct) Φ ct .S a)) : PI X tg x (rdIf (kc X ct) Φ ct a fun d ds => ∃ kvs, d = .dict kvs ∧ ds = kvs.map (·.1)) := by
  refine pi_up (pi_keys ha) fun σ H G ⟨sp, R, ρ, c, d, ds, c', S, ea, ⟨kvs, hd, hs⟩, q⟩ => ?_
  subst hd hs
  refine ⟨sp, R, ρ, c, _, _, S, ea, fun v R' H' e l r => ?_⟩
  cases r with
  | dK h1 h2 =>
    refine ⟨_, _, rfl, .inl ⟨_, e.le _ _ h1, fun pins σ s I => q _ R' H' e l ?_⟩⟩
    rw [zip_fst (by rw [← h2.length, List.length_map])]
    exact .keys h1 (few_dict I (e.le _ _ h1))
  | dT h1 h2 =>
    refine ⟨_, _, rfl, .inr ⟨_, e.le _ _ h1, fun pins σ s I => q _ R' H' e l ?_⟩⟩
    rw [zip_fst (by rw [← h2.length, List.length_map])]
    exact .keysT h1 (few_dictT I (e.le _ _ h1))
theorem pv_seq (ha : PE X x (rd (kc X ct) Φ ct .S a)) : PI X tg x (rdI (kc X ct) Φ ct (.seq a)) := by
  refine pi_case fun σ H G ⟨sp, R, ρ, c, ds, c', S, ev, q⟩ => ?_
  simp only [evI] at ev
  split at ev
  · rename_i d c1 ea
    obtain ⟨ds', hd, e'⟩ := Option.map_eq_some_iff.mp ev
    cases e'
    cases d with
    | list xs => cases hd; exact ⟨_, pi_flist ha, sp, R, ρ, c, _, _, _, S, ea, rfl, q⟩
    | tuple xs => cases hd; exact ⟨_, pi_ftup ha, sp, R, ρ, c, _, _, _, S, ea, rfl, q⟩
    | dict kvs => cases hd; exact ⟨_, pi_fkeys ha, sp, R, ρ, c, _, _, _, S, ea, ⟨kvs, rfl, rfl⟩, q⟩
    | _ => cases hd
  · cases ev
theorem line_val : line = 16777216 := by decide
theorem pv_range1 (hg : Gl X "range") (hm : X.mg "range" = none) (ha : PA X [x] (rdA (kc X ct) Φ ct (.cons a .nil))) (hs : notStar x = true) : PI X tg (.Call (.Name "range" p) [x] [] pos) (rdI (kc X ct) Φ ct (.range (.cons a .nil))) := by
  refine pi_up (pi_range1 hg hm ha (star_no hs _ _)) fun σ H G ⟨sp, R, ρ, c, ds, c', S, ev, q⟩ => ?_
  simp only [evI] at ev
  split at ev
  · rename_i l c1 e1
    split at ev
    · rename_i as hd
      obtain ⟨pr, hp, e'⟩ := Option.map_eq_some_iff.mp ev
      cases e'
      refine ⟨sp, R, ρ, c, l, _, S, e1, fun vs R' H' e l2 rr => ?_⟩
      have r2 := rr.all hd
      simp only [evEs] at e1
      split at e1
      · rename_i d c2 ea
        cases e1
        cases hd
        cases d with
        | int n =>
          simp only [rangeD] at hp
          split at hp
          · rename_i hn
            cases hp
            cases r2 with
            | cons r3 r4 =>
              cases r4
              cases r3
              have := line_val
              exact ⟨n, rfl, hn.2, by omega, fun pins σ s I => q _ R' H' e l2 (.rng 0 _ hn.1)⟩
          · cases hp
        | _ => cases hp
      · cases e1
    · cases ev
  · cases ev
theorem pv_range2 (hg : Gl X "range") (hm : X.mg "range" = none) (ha : PA X [x, y] (rdA (kc X ct) Φ ct (.cons a (.cons b .nil)))) (hs : notStar x = true) (hs2 : notStar y = true) : PI X tg (.Call (.Name "range" p) [x, y] [] pos) (rdI (kc X ct) Φ ct (.range (.cons a (.cons b .nil)))) := by
  refine pi_up (pi_range2 hg hm ha (by rw [star_no hs, star_no hs2]; rfl) (star_no hs2 _ _)) fun σ H G ⟨sp, R, ρ, c, ds, c', S, ev, q⟩ => ?_
  simp only [evI] at ev
  split at ev
  · rename_i l c1 e1
    split at ev
    · rename_i as hd
      obtain ⟨pr, hp, e'⟩ := Option.map_eq_some_iff.mp ev
      cases e'
      refine ⟨sp, R, ρ, c, l, _, S, e1, fun vs R' H' e l2 rr => ?_⟩
      have r2 := rr.all hd
      simp only [evEs] at e1
      split at e1
      · rename_i d c2 ea
        split at e1
        · rename_i l1 c3 e2
          split at e2
          · rename_i d2 c4 eb
            cases e2; cases e1
            cases hd
            cases d with
            | int n =>
              cases d2 with
              | int m =>
                simp only [rangeD] at hp
                split at hp
                · rename_i hn
                  cases hp
                  cases r2 with
                  | cons r3 r4 =>
                    cases r4 with
                    | cons r4 r5 =>
                      cases r5
                      cases r3; cases r4
                      exact ⟨n, m, rfl, ⟨hn.2.1, hn.2.2.1, hn.2.2.2.1, hn.2.2.2.2⟩, fun pins σ s I => q _ R' H' e l2 (.rng n _ hn.1)⟩
                · cases hp
              | _ => cases hp
            | _ => cases hp
          · cases e2
        · cases e1
      · cases e1
    · cases ev
  · cases ev
theorem few_sq {pins : List (Addr × Obj)} {σ : St} {H : Hp} {s : Shared} {t : Bool} {a : Addr} {xs : List V} (I : Inv X pins σ H s) (h : Sqv t X.K H a xs) : xs.length ≤ line := by
  obtain ⟨_, _, _, hz⟩ := inv_sq I h
  rw [← line_eq]; exact hz
theorem pv_enum {es : List Expr} {kk : Nat} {tpos : Pos} (hg : Gl X "enumerate") (hm : X.mg "enumerate" = none) (ha : PE X x (rd (kc X ct) Φ ct .S a)) (hs : notStar x = true) : PI X (.Tuple es kk tpos) (.Call (.Name "enumerate" p) [x] [] pos) (rdI (kc X ct) Φ ct (.enum a)) := by
  refine pi_up (pi_enumQ hg hm (pa_cons ha pa_nil (star_no hs _ _)) (star_no hs _ _)) fun σ H G ⟨sp, R, ρ, c, ds, c', S, ev, q⟩ => ?_
  simp only [evI] at ev
  split at ev
  · rename_i d c1 ea
    obtain ⟨ds', hd, e'⟩ := Option.map_eq_some_iff.mp ev
    cases e'
    refine ⟨sp, R, ρ, c, d, _, S, ea, fun v R' H' e l r => ?_⟩
    obtain ⟨t, p, xs, rfl, sq⟩ := sq_rep (show Rp (kc X ct) R' v d from r) hd
    exact ⟨t, p, xs, rfl, sq.at_ _ e.le, fun pins σ s I => q _ R' H' e l (.enum sq (by rw [← sq.rep.length]; exact few_sq I (sq.at_ _ e.le)))⟩
  · cases ev
theorem pv_zip {es : List Expr} {kk : Nat} {tpos : Pos} (hg : Gl X "zip") (hm : X.mg "zip" = none) (ha : PE X x (rd (kc X ct) Φ ct .S a)) (hb : PE X y (rd (kc X ct) Φ ct .S b)) (hs : notStar x = true) (hs2 : notStar y = true) :
    PI X (.Tuple es kk tpos) (.Call (.Name "zip" p) [x, y] [] pos) (rdI (kc X ct) Φ ct (.zip a b)) := by
  refine pi_up (pi_zipQ hg hm (pa_cons ha (pa_cons hb pa_nil (star_no hs2 _ _)) (star_no hs _ _)) (star_no hs _ _) (star_any pos _ (by simp [noStar, hs2]))) fun σ H G ⟨sp, R, ρ, c, ds, c', S, ev, q⟩ => ?_
  simp only [evI] at ev
  split at ev
  · rename_i d c1 ea
    split at ev
    · rename_i d2 c2 eb
      split at ev
      · rename_i l1 l2 h1 h2
        cases ev
        refine ⟨sp, R, ρ, c, d, c1, S, ea, fun v R1 H1 e1 k1 r1 => ⟨sp, R1, ρ, c1, d2, _, S.ext e1 k1, eb, fun u R2 H2 e2 k2 r2 => ?_⟩⟩
        obtain ⟨t, p, xs, rfl, sq⟩ := sq_rep (Rp.mono e2.r (show Rp (kc X ct) R1 v d from r1)) h1
        obtain ⟨t', p', ys, rfl, sq'⟩ := sq_rep (show Rp (kc X ct) R2 u d2 from r2) h2
        exact ⟨t, t', p, p', xs, ys, rfl, sq.at_ _ e2.le, sq'.at_ _ e2.le, fun pins σ s I => q _ R2 H2 (e1.trans e2) k2 (.zip sq sq' (by rw [← sq.rep.length]; exact few_sq I (sq.at_ _ e2.le)))⟩
      · cases ev
    · cases ev
  · cases ev
end
end Pv
end
section
set_option Elab.async false
set_option linter.all false
set_option maxRecDepth 100000
/-! Pv.R: targets; list comprehensions. -/
namespace Pv
open PySem PySem.Spec L2
def setV (σ : St) (is : List Nat) (xs : List V) : St := (is.zip xs).foldl (fun r p => r.set p.1 (some p.2)) σ
def gTg (K : PySem.W.Frag) (tg : Tg) : TG := fun v σ H Q => match tg with
  | .nm i => Q (σ.set i (some v)) H
  | .tp is => ∃ a xs, v = .ref a ∧ (SqT K H a xs ∨ SqL K H a xs) ∧ xs.length = is.length ∧ Q (setV σ is xs) H
section
variable {X : Cx}
theorem loc_of {sc : Scope} {fnk : Str → Bool} {n : Str} (hs : X.env.scope = sc) (hf : X.fn = fnk) (h : locC sc fnk n = true) : Loc X.env.scope n ∧ (X.fn n = true ∨ X.env.scope.names.lookup n = some .local) := by
  unfold locC at h
  split at h
  · rename_i e; rw [hs]; exact ⟨.inl e, .inr e⟩
  · rename_i e; rw [hs, hf]; exact ⟨.inr e, .inl h⟩
  · cases h
theorem names_pgs (hN : X.N.Nodup) {sc : Scope} {fnk : Str → Bool} (hs : X.env.scope = sc) (hf : X.fn = fnk) : ∀ {is : List Nat} {es : List Expr}, namesTg X.N sc fnk is es = true →
    PGs X es (fun xs σ H Q => xs.length = is.length ∧ Q (setV σ is xs) H) ∧ (assignEach es X.env).length = is.length ∧ (assignEach es X.env).findIdx? (·.1) = none
  | [], [], _ => ⟨⟨fun pins s σ H vs us Q I r ⟨h1, h2⟩ => pgs_nil.run pins s σ H vs us Q I r ⟨List.length_eq_zero_iff.mp h1, by rw [List.length_eq_zero_iff.mp h1] at h2; exact h2⟩⟩, rfl, rfl⟩
  | i :: is, .Name n p :: es, h => by
    simp only [namesTg, Bool.and_eq_true] at h
    obtain ⟨⟨h1, h2⟩, h3⟩ := h
    obtain ⟨l1, l2⟩ := loc_of hs hf h2
    obtain ⟨i1, i2, i3⟩ := names_pgs hN hs hf h3
    have h0 : assignEach (.Name n p :: es) X.env = (false, assign (.Name n p) X.env) :: assignEach es X.env := rfl
    refine ⟨⟨fun pins s σ H vs us Q I r ⟨q1, q2⟩ => ?_⟩, by rw [h0, List.length_cons, i2, List.length_cons], by rw [h0, List.findIdx?_cons, i3]; rfl⟩
    cases vs with
    | nil => cases q1
    | cons v vr =>
      refine (pgs_cons (pg_name hN (of_decide_eq_true h1) l1 l2) i1 (by rw [h0]; rfl)).run pins s σ H _ us Q I r ⟨v, vr, rfl, by simpa using q1, ?_⟩
      exact q2
  | [], _ :: _, h => by cases h
  | _ :: _, [], h => by cases h
theorem pg_tg (hc : X.calm = true) (hN : X.N.Nodup) {sc : Scope} {fnk : Str → Bool} (hs : X.env.scope = sc) (hf : X.fn = fnk) {tg : Tg} {e : Expr} (h : tgC X.N sc fnk tg e = true) : PG X e (gTg X.K tg) := by
  cases tg with
  | nm i =>
    cases e with
    | Name n p =>
      simp only [tgC, Bool.and_eq_true] at h
      obtain ⟨l1, l2⟩ := loc_of hs hf h.2
      exact pg_name hN (of_decide_eq_true h.1) l1 l2
    | _ => cases h
  | tp is =>
    cases e with
    | Tuple es k p =>
      simp only [tgC, Bool.and_eq_true] at h
      obtain ⟨i1, i2, i3⟩ := names_pgs hN hs hf h.1.1
      exact ⟨fun pins s σ H v u Q I r ⟨a, xs, hv, hq, hl, q⟩ => hq.elim (fun hq => (pg_tup hc i1 i2 i3).run pins s σ H v u Q I r ⟨a, xs, hv, hq, hl, hl, q⟩) (fun hq => (pg_unl hc i1 i2 i3).run pins s σ H v u Q I r ⟨a, xs, hv, hq, hl, hl, q⟩)⟩
    | _ => cases h
end
section
variable {K : Kc} {sp : Option Addr} {R H : Hp} {σ : St} {ρ : List Sl} {c : Dt}
theorem SRel.forget (S : SRel K sp R H σ ρ c) (i : Nat) (x : Option V) : SRel K sp R H (σ.set i x) (ρ.set i .no) c := by
  refine ⟨S.le, by rw [List.length_set, List.length_set]; exact S.len, fun j x h => ?_, fun j k dj dk a h1 h2 h3 h4 => ?_, S.cel, fun a j dj hs h1 h2 => ?_⟩
  · by_cases e : i = j
    · subst e
      have hl : i < ρ.length := by have := (List.getElem?_eq_some_iff.mp h).1; rwa [List.length_set] at this
      rw [List.getElem?_set_self hl] at h; cases h
      exact True.intro
    · rw [List.getElem?_set_ne e] at h ⊢
      exact S.slot j x h
  · have n1 : i ≠ j := fun e => by
      subst e
      by_cases hl : i < ρ.length
      · rw [List.getElem?_set_self hl] at h1; cases h1
      · rw [List.getElem?_eq_none (by rw [List.length_set]; omega)] at h1; cases h1
    have n2 : i ≠ k := fun e => by
      subst e
      by_cases hl : i < ρ.length
      · rw [List.getElem?_set_self hl] at h2; cases h2
      · rw [List.getElem?_eq_none (by rw [List.length_set]; omega)] at h2; cases h2
    rw [List.getElem?_set_ne n1] at h1 h3
    rw [List.getElem?_set_ne n2] at h2 h4
    exact S.sep j k dj dk a h1 h2 h3 h4
  · have n1 : i ≠ j := fun e => by
      subst e
      by_cases hl : i < ρ.length
      · rw [List.getElem?_set_self hl] at h1; cases h1
      · rw [List.getElem?_eq_none (by rw [List.length_set]; omega)] at h1; cases h1
    rw [List.getElem?_set_ne n1] at h1 h2
    exact S.celO a j dj hs h1 h2
theorem SRel.wipe (S : SRel K sp R H σ ρ c) : ∀ vs : List Nat, SRel K sp R H (wipe σ vs) (wipeS ρ vs) c
  | [] => S
  | v :: vs => (SRel.wipe S vs).forget v none
theorem set_comm {α : Type} (l : List α) (i j : Nat) (x y : α) (h : i ≠ j) : (l.set i x).set j y = (l.set j y).set i x := List.set_comm x y h
theorem wipe_set (σ : St) (x : Option V) {i : Nat} : ∀ {vs : List Nat}, i ∈ vs → wipe (σ.set i x) vs = wipe σ vs
  | v :: vs, h => by
    unfold L2.wipe
    by_cases hm : i ∈ vs
    · rw [wipe_set σ x hm]
    · have hv : i = v := by
        rcases List.mem_cons.mp h with z | z
        · exact z
        · exact absurd z hm
      subst hv
      have : ∀ ws : List Nat, i ∉ ws → L2.wipe (σ.set i x) ws = (L2.wipe σ ws).set i x := fun ws => by
        induction ws with
        | nil => intro _; rfl
        | cons w ws ih =>
          intro hn
          simp only [List.mem_cons, not_or] at hn
          unfold L2.wipe
          rw [ih hn.2, set_comm _ _ _ _ _ hn.1]
      rw [this vs hm, List.set_set]
theorem wipe_wipe (σ : St) {vs : List Nat} : ∀ {ws : List Nat}, (∀ i ∈ ws, i ∈ vs) → L2.wipe (L2.wipe σ ws) vs = L2.wipe σ vs
  | [], _ => rfl
  | w :: ws, h => by
    show L2.wipe ((L2.wipe σ ws).set w none) vs = _
    rw [wipe_set _ _ (h w List.mem_cons_self), wipe_wipe σ fun i hi => h i (List.mem_cons_of_mem _ hi)]
theorem wipe_setV : ∀ {is : List Nat} {xs : List V} (σ : St) {vs : List Nat}, (∀ i ∈ is, i ∈ vs) → L2.wipe (setV σ is xs) vs = L2.wipe σ vs
  | [], xs, σ, vs, _ => by unfold setV; simp
  | i :: is, [], σ, vs, _ => by unfold setV; simp
  | i :: is, x :: xs, σ, vs, h => by
    have := wipe_setV (is := is) (xs := xs) (σ.set i (some x)) (vs := vs) fun j hj => h j (List.mem_cons_of_mem _ hj)
    unfold setV at this ⊢
    rw [List.zip_cons_cons, List.foldl_cons, this, wipe_set _ _ (h i List.mem_cons_self)]
theorem SRel.puts : ∀ {is : List Nat} {xs : List V} {ds : List Dt} {σ : St} {ρ : List Sl}, SRel K sp R H σ ρ c → RpL K R xs ds →
    SRel K sp R H (setV σ is xs) ((is.zip ds).foldl (fun r p => r.set p.1 (.sh p.2)) ρ) c
  | [], _, _, _, _, S, _ => by unfold setV; simpa using S
  | _ :: _, _, _, _, _, S, .nil => by unfold setV; simpa using S
  | i :: is, _, _, _, _, S, .cons r t => by
    have := SRel.puts (is := is) (S.put r i) t
    unfold setV at this ⊢
    simpa using this
theorem use_tg {tg : Tg} {v : V} {d : Dt} {ρ' : List Sl} {Q : St → Hp → Prop} (S : SRel K sp R H σ ρ c) (r : Rp K R v d) (hp : putTg tg d ρ = some ρ')
    (q : ∀ σ', SRel K sp R H σ' ρ' c → (∀ vs, (∀ i ∈ tgIx tg, i ∈ vs) → L2.wipe σ' vs = L2.wipe σ vs) → Q σ' H) : gTg K.f tg v σ H Q := by
  cases tg with
  | nm i =>
    cases hp
    exact q _ (S.put r i) fun vs h => wipe_set _ _ (h i (List.mem_singleton_self i))
  | tp is =>
    cases d with
    | tuple ds =>
      simp only [putTg] at hp
      split at hp
      · rename_i hl
        cases hp
        cases r with
        | tup h1 h2 => exact ⟨_, _, rfl, .inl (sqT_mono S.le h1.sq), by rw [h2.length, hl], q _ (S.puts h2) fun vs h => wipe_setV _ h⟩
      · cases hp
    | list ds =>
      simp only [putTg] at hp
      split at hp
      · rename_i hl
        cases hp
        cases r with
        | lst h1 h2 => exact ⟨_, _, rfl, .inr (.inl (rd_mono S.le h1)), by rw [h2.length, hl], q _ (S.puts h2) fun vs h => wipe_setV _ h⟩
      · cases hp
    | _ => cases hp
/-- a list that is being made stands outside -/
theorem Ext.at {R' H' : Hp} (e : Ext sp R H R' H') {a : Addr} {o : HO} (h : H a = none) (h2 : R' a = none) : Ext sp R H R' (upd H' a o) := by
  refine ⟨e.r, fun b u z => ?_, e.fresh, fun b u z n => ?_, fun b u z => ?_⟩
  · rw [upd_ne (ne_of_none z h2)]; exact e.le _ _ z
  · rw [upd_ne (ne_of_none z h)]; exact e.keep _ _ z n
  · rw [upd_ne (ne_of_none z h)]; exact e.dom _ _ z
theorem Cel.at {a : Addr} {o : HO} (h : Cel K sp R H c) (n : sp ≠ some a) : Cel K sp R (upd H a o) c := fun b hb => (h b hb).mono (Same.refl _) fun u z => by
  rw [upd_ne (fun e => n (by rw [← e]; exact hb))]; exact z
end
end Pv
end
section
set_option Elab.async false
set_option linter.all false
set_option maxRecDepth 100000
/-! Pv.S: list comprehensions of one clause. -/
namespace Pv
open PySem PySem.Spec L2
section
variable {X : Cx} {Φ : List Fn} {ct : Ct} {pos : Pos} {x y z : Expr} {a b c : IE}
/-- one turn of a comprehension -/
def compF (Φ : List Fn) (ct : Ct) (tg : Tg) (ifs : IEs) (elt : IE) (ρ0 : List Sl) : Dt → Dt → Option (List Dt × Dt) := fun d c => match putTg tg d ρ0 with
  | some ρ1 => match evB Φ ct true ifs ρ1 c with
    | some (.bool true, c2) => match evE Φ ct elt ρ1 c2 with
      | some (y, c3) => some ([y], c3)
      | none => none
    | some (.bool false, c2) => some ([], c2)
    | _ => none
  | none => none
theorem compF_some {tg : Tg} {ifs : IEs} {elt : IE} {ρ0 : List Sl} {d c c' : Dt} {ys : List Dt} (h : compF Φ ct tg ifs elt ρ0 d c = some (ys, c')) :
    ∃ ρ1 b c2, putTg tg d ρ0 = some ρ1 ∧ evE Φ ct (.bop true ifs) ρ1 c = some (.bool b, c2) ∧ ((b = false ∧ ys = [] ∧ c' = c2) ∨ (b = true ∧ ∃ y, ys = [y] ∧ evE Φ ct elt ρ1 c2 = some (y, c'))) := by
  unfold compF at h
  split at h
  · rename_i ρ1 hp
    split at h
    · rename_i c2 eb
      split at h
      · rename_i y c3 ee
        cases h
        exact ⟨ρ1, true, c2, hp, by simp only [evE]; exact eb, .inr ⟨rfl, y, rfl, ee⟩⟩
      · cases h
    · rename_i c2 eb
      cases h
      exact ⟨ρ1, false, _, hp, by simp only [evE]; exact eb, .inl ⟨rfl, rfl, rfl⟩⟩
    · cases h
  · cases h
theorem compGo_cons {f : Dt → Dt → Option (List Dt × Dt)} {d : Dt} {ds : List Dt} {c c' : Dt} {ys : List Dt} (h : compGo f (d :: ds) c = some (ys, c')) :
    ∃ zs c1 rest, f d c = some (zs, c1) ∧ compGo f ds c1 = some (rest, c') ∧ ys = zs ++ rest := by
  unfold compGo at h
  split at h
  · rename_i zs c1 h1
    split at h
    · rename_i rest c2 h2
      cases h
      exact ⟨zs, c1, rest, h1, h2, rfl⟩
    · cases h
  · cases h
theorem comp_core {own : List (Str × Nat)} {tg : Tg} {it : II} {ifs : IEs} {elt : IE} {σ : St} {H : Hp} {Q : VK} (hw : wipeOk own tg = true) {sp : Option Addr} {R : Hp} {ρ : List Sl} {c d c' : Dt} (S : SRel (kc X ct) sp R H σ ρ c)
    (ev : evE Φ ct (.comp own tg it ifs elt) ρ c = some (d, c')) (q : ∀ v R' H', Ext sp R H R' H' → Cel (kc X ct) sp R' H' c' → RepK (kc X ct) sp H R' H' v d .F → Q v H') :
    tLc (rdI (kc X ct) Φ ct it) (gTg X.K tg) (rdT (kc X ct) Φ ct (.bop true ifs)) (rd (kc X ct) Φ ct .S elt) (own.map (·.2)) σ H Q := by
  simp only [evE] at ev
  split at ev
  · rename_i xs c1 eI
    split at ev
    · rename_i ys c2 eG
      cases ev
      refine ⟨sp, R, ρ, c, xs, c1, S, eI, fun J R1 H1 e1 l1 ok => fun D hD => ?_⟩
      have hD0 : H D = none := e1.back hD
      have nsp : sp ≠ some D := fun z => by
        obtain ⟨o, h⟩ := (S.cel D z).2.there
        rw [hD0] at h; cases h
      have hR : R1 D = none := e1.le.free hD
      have eG : compGo (compF Φ ct tg ifs elt (wipeS ρ (own.map (·.2)))) xs c1 = some (ys, c') := eG
      generalize hf : compF Φ ct tg ifs elt (wipeS ρ (own.map (·.2))) = f at eG
      refine ⟨fun i m H2 => m = xs.length - i ∧ i ≤ xs.length ∧ ∃ Ri vs zs ci rest, Ext sp R1 H1 Ri H2 ∧ Cel (kc X ct) sp Ri H2 ci ∧ Ri D = none ∧ H2 D = some (.lst vs) ∧ RpL (kc X ct) Ri vs zs ∧ zs.length ≤ i ∧ compGo f (xs.drop i) ci = some (rest, c') ∧ ys = zs ++ rest,
        ⟨xs.length, rfl, Nat.zero_le _, R1, [], [], c1, ys, Ext.at (.refl e1.le) hD hR, l1.at nsp, hR, upd_same, .nil, Nat.le_refl _, eG, rfl⟩, ?_⟩
      rintro i m H2 ⟨rfl, hi, Ri, vs, zs, ci, rest, e2, l2, hRi, hH2, rp, hz, eg, eys⟩
      have same : Same R1 H2 := e2.r.trans e2.le
      by_cases hlt : i < xs.length
      · refine .inr ⟨ok.go i H2 same hlt, fun H' => _, fun H' h => ⟨xs.length - (i + 1), by omega, h⟩, fun x H3 y => ?_⟩
        obtain ⟨d, hd, R3, e3, l3, r3⟩ := ok.yld i x sp Ri H2 H3 ci e2.r e2.le l2 hlt y
        rw [List.drop_eq_getElem_cons hlt] at eg
        have hd' : xs[i] = d := by rw [List.getElem?_eq_getElem hlt] at hd; exact Option.some.inj hd
        rw [hd'] at eg
        obtain ⟨y1, c3, rest', f1, f2, f3⟩ := compGo_cons eg
        rw [← hf] at f1
        obtain ⟨ρ1, b, c4, hp, hb, hy⟩ := compF_some f1
        have hH3 : H3 D = some (.lst vs) := e3.keep D _ hH2 nsp
        have hR3 : R3 D = none := e3.stay hRi (.lst hH2 rp)
        have S3 := (((S.ext e1 l1).ext e2 l2).ext e3 l3).wipe (own.map (·.2))
        refine use_tg (K := kc X ct) S3 r3 hp fun σ2 S4 wp => ⟨(wp _ (fun i hi => ?_)).trans (wipe_wipe σ fun i hi => hi), ?_⟩
        · unfold wipeOk at hw
          simpa using List.all_eq_true.mp hw i hi
        refine ⟨sp, R3, ρ1, ci, b, c4, S4, hb, fun R5 H5 e5 l5 => ?_⟩
        have hH5 : H5 D = some (.lst vs) := e5.keep D _ hH3 nsp
        have rp3 := rp.mono e3.r
        have hR5 : R5 D = none := e5.stay hR3 (.lst hH3 rp3)
        rcases hy with ⟨rfl, rfl, rfl⟩ | ⟨rfl, yv, rfl, ee⟩
        · refine iteF ?_
          exact ⟨rfl, hlt, R5, vs, zs, _, rest', (e2.trans e3).trans e5, l5, hR5, hH5, rp3.mono e5.r, Nat.le_succ_of_le hz, f2, by rw [eys, f3]; rfl⟩
        · refine iteT ?_
          refine ⟨sp, R5, ρ1, c4, yv, c3, S4.ext e5 l5, ee, fun v R6 H6 e6 l6 r6 => ?_⟩
          have hH6 : H6 D = some (.lst vs) := e6.keep D _ hH5 nsp
          have rp5 := rp3.mono e5.r
          have hR6 : R6 D = none := e6.stay hR5 (.lst hH5 rp5)
          have fw := ok.few
          refine ⟨vs, hH6, by rw [rp.length, line_eq]; omega, rfl, hlt, R6, vs ++ [v], zs ++ [yv], c3, rest', Ext.at (((e2.trans e3).trans e5).trans e6) hD hR6, l6.at nsp, hR6, upd_same, (rp5.mono e6.r).append (.cons r6 .nil), ?_, f2, ?_⟩
          · rw [List.length_append]; exact Nat.succ_le_succ hz
          · rw [eys, f3, List.append_assoc]
      · have e : i = xs.length := by omega
        subst e
        rw [List.drop_length] at eg
        cases eg
        rw [List.append_nil] at eys
        subst eys
        exact .inl ⟨ok.stop _ H2 same rfl, q _ Ri H2 (e1.trans e2) l2 (.inl ⟨rfl, D, rfl, hRi, hD0, .lst hH2 rp⟩)⟩
    · cases ev
  · cases ev
theorem pts_v {ifs : IEs} {cs : List Expr} (h : cs.length ≤ 1) (hp : ∀ x, cs = [x] → ∃ a, ifs = .cons a .nil ∧ PT X x (rdT (kc X ct) Φ ct a)) (hn : cs = [] → ifs = .nil) : PTs X cs (rdT (kc X ct) Φ ct (.bop true ifs)) := by
  match cs, h with
  | [], _ =>
    rw [hn rfl]
    refine ⟨fun pins s σ H Q I ⟨sp, R, ρ, c, b, c', S, ev, q⟩ => pts_nil.run pins s σ H Q I ?_⟩
    simp only [evE, evB] at ev
    cases ev
    exact q R H (.refl S.le) S.cell
  | [x], _ =>
    obtain ⟨a, rfl, pa⟩ := hp x rfl
    refine ⟨fun pins s σ H Q I ⟨sp, R, ρ, c, b, c', S, ev, q⟩ => (pts_one pa).run pins s σ H Q I ?_⟩
    simp only [evE, evB] at ev
    split at ev
    · rename_i b1 c1 ea
      split at ev
      · rename_i e; cases ev; exact ⟨sp, R, ρ, c, _, _, S, ea, by rw [e]; exact q⟩
      · cases ev; exact ⟨sp, R, ρ, c, _, _, S, ea, q⟩
    · cases ev
theorem pv_comp {own : List (Str × Nat)} {tg : Tg} {it : II} {ifs : IEs} {elt : IE} {te tgt iter : Expr} {cs : List Expr} {scope : Scope} (hc : X.calm = true) (hN : X.N.Nodup) (ok : BlkOk X.N X.env.scope scope own) (hw : wipeOk own tg = true)
    (hi : PI X tgt iter (rdI (kc X ct) Φ ct it)) (hs : ∀ x, foldedSetIterable iter X.env x = pure x)
    (hg : ∀ (s : Shared) (H : Hp) (C : Addr) (cl : List (Str × Addr)) (fp : List Addr), PG (X.blk s H scope (compEnvC scope cl C X.env) fp) tgt (gTg X.K tg))
    (ht : ∀ (s : Shared) (H : Hp) (C : Addr) (cl : List (Str × Addr)) (fp : List Addr), PTs (X.blk s H scope (compEnvC scope cl C X.env) fp) cs (rdT (kc X ct) Φ ct (.bop true ifs)))
    (he : ∀ (s : Shared) (H : Hp) (C : Addr) (cl : List (Str × Addr)) (fp : List Addr), PE (X.blk s H scope (compEnvC scope cl C X.env) fp) te (rd (kc X ct) Φ ct .S elt)) :
    PE X (.ListComp te [⟨tgt, iter, cs, 0⟩] scope pos) (rd (kc X ct) Φ ct .F (.comp own tg it ifs elt)) :=
  pe_weak (pe_lc hc hN hi ok hg ht he hs) fun σ H Q ⟨sp, R, ρ, c, d, c', S, ev, q⟩ => comp_core hw S ev q
end
end Pv
end
section
set_option Elab.async false
set_option linter.all false
set_option maxRecDepth 100000
/-! Pv.T: list comprehensions of two clauses. -/
namespace Pv
open PySem PySem.Spec L2
/-- the heap without the object at D -/
def cutH (H : Hp) (D : Addr) : Hp := fun a => if a = D then none else H a
section
variable {K : Kc} {sp : Option Addr} {R R' H H' : Hp} {D : Addr} {σ : St} {ρ : List Sl} {c : Dt}
theorem cut_some {a : Addr} {o : HO} (h : cutH H D a = some o) : a ≠ D ∧ H a = some o := by
  unfold cutH at h
  split at h
  · cases h
  · exact ⟨by assumption, h⟩
theorem cut_ne {a : Addr} (h : a ≠ D) : cutH H D a = H a := if_neg h
theorem cut_at : cutH H D D = none := if_pos rfl
theorem cut_upd {o : HO} : cutH (upd H D o) D = cutH H D := by
  funext a
  unfold cutH
  by_cases h : a = D
  · rw [if_pos h, if_pos h]
  · rw [if_neg h, if_neg h, upd_ne h]
theorem cut_none (h : H D = none) : cutH H D = H := by
  funext a
  unfold cutH
  by_cases e : a = D
  · rw [if_pos e, e, h]
  · rw [if_neg e]
theorem Ext.cut (e : Ext sp R H R' H') (h : R' D = none) : Ext sp R (cutH H D) R' (cutH H' D) := by
  refine ⟨e.r, fun a o z => ?_, fun a o z => ?_, fun a o z n => ?_, fun a o z => ?_⟩
  · rw [cut_ne (ne_of_none z h)]; exact e.le _ _ z
  · rw [cut_ne (ne_of_none z h)]; exact e.fresh a o z
  · obtain ⟨z1, z2⟩ := cut_some z
    rw [cut_ne z1]; exact e.keep _ _ z2 n
  · obtain ⟨z1, z2⟩ := cut_some z
    rw [cut_ne z1]; exact e.dom _ _ z2
theorem Cel.up (h : Cel K sp R (cutH H D) c) : Cel K sp R H c := fun a ha => (h a ha).mono (Same.refl _) fun o z => (cut_some z).2
theorem Cel.down (h : Cel K sp R H c) (n : sp ≠ some D) : Cel K sp R (cutH H D) c := fun a ha => (h a ha).mono (Same.refl _) fun o z => by
  rw [cut_ne (fun e => n (by rw [← e]; exact ha))]; exact z
theorem same_up (h : Same R (cutH H D)) : Same R H := fun a o z => (cut_some (h a o z)).2
theorem SRel.up (S : SRel K sp R (cutH H D) σ ρ c) : SRel K sp R H σ ρ c := by
  refine ⟨same_up S.le, S.len, fun i x h => ?_, S.sep, fun a h => ⟨(S.cel a h).1, (S.cel a h).2.mono (Same.refl _) fun o z => (cut_some z).2⟩, S.celO⟩
  have := S.slot i x h
  cases x with
  | own d =>
    obtain ⟨a, h1, h2, h3⟩ := this
    exact ⟨a, h1, h2, h3.mono (Same.refl _) fun o z => (cut_some z).2⟩
  | _ => exact this
theorem use_tgD {tg : Tg} {v : V} {d : Dt} {ρ' : List Sl} {Q : St → Hp → Prop} (S : SRel K sp R (cutH H D) σ ρ c) (r : Rp K R v d) (hp : putTg tg d ρ = some ρ')
    (q : ∀ σ', SRel K sp R (cutH H D) σ' ρ' c → (∀ vs, (∀ i ∈ tgIx tg, i ∈ vs) → L2.wipe σ' vs = L2.wipe σ vs) → Q σ' H) : gTg K.f tg v σ H Q := by
  have := use_tg (Q := fun σ' _ => Q σ' H) S r hp q
  cases tg with
  | nm i => exact this
  | tp is =>
    obtain ⟨a, xs, h1, h2, h3, h4⟩ := this
    refine ⟨a, xs, h1, ?_, h3, h4⟩
    rcases h2 with ((h | ⟨o, h⟩) | h) | ((h | ⟨o, h⟩) | h)
    · exact .inl (.inl (.inl (cut_some h).2))
    · exact .inl (.inl (.inr ⟨o, (cut_some h).2⟩))
    · exact .inl (.inr h)
    · exact .inr (.inl (.inl (cut_some h).2))
    · exact .inr (.inl (.inr ⟨o, (cut_some h).2⟩))
    · exact .inr (.inr h)
end
section
variable {X : Cx} {Φ : List Fn} {ct : Ct} {pos : Pos} {x y z : Expr} {a b c : IE}
theorem inner_loop {J : It} {tg : Tg} {ifs : IEs} {elt : IE} {σ : St} {ρ : List Sl} {sp : Option Addr} {R1 H1 : Hp} {c1 c2 : Dt} {xs ys zs0 : List Dt} {vs0 : List V} {D : Addr} {Nx : Hp → Prop} (S : SRel (kc X ct) sp R1 (cutH H1 D) σ ρ c1)
    (h1 : H1 D = some (.lst vs0)) (hD : R1 D = none) (rp0 : RpL (kc X ct) R1 vs0 zs0) (nsp : sp ≠ some D) (ok : ItOk (kc X ct) J R1 xs) (eg : compGo (compF Φ ct tg ifs elt (wipeS ρ (tgIx tg))) xs c1 = some (ys, c2)) (few : zs0.length + ys.length ≤ line)
    (q : ∀ R2 H2 vs, Ext sp R1 (cutH H1 D) R2 (cutH H2 D) → R2 D = none → Cel (kc X ct) sp R2 (cutH H2 D) c2 → H2 D = some (.lst vs) → RpL (kc X ct) R2 vs (zs0 ++ ys) → Nx H2) :
    ∃ W1 : Nat → Nat → Hp → Prop, (∃ m, W1 0 m H1) ∧ ∀ j k H, W1 j k H →
      (J.stop j H ∧ Nx H) ∨ (J.go j H ∧ ∃ Nx1 : Hp → Prop, (∀ H', Nx1 H' → ∃ k', k' < k ∧ W1 (j + 1) k' H') ∧ ∀ x H', J.yld j H x H' → gTg X.K tg x (wipe σ (tgIx tg)) H' fun σ3 H5 => wipe σ3 (tgIx tg) = wipe σ (tgIx tg) ∧ rdT (kc X ct) Φ ct (.bop true ifs) σ3 H5 fun b H6 =>
        if b = true then rd (kc X ct) Φ ct .S elt σ3 H6 fun y H7 => ∃ acc, H7 D = some (.lst acc) ∧ acc.length < sizeLine ∧ Nx1 (upd H7 D (.lst (acc ++ [y]))) else Nx1 H6) := by
  generalize hf : compF Φ ct tg ifs elt (wipeS ρ (tgIx tg)) = f at eg
  refine ⟨fun i m H2 => m = xs.length - i ∧ i ≤ xs.length ∧ ∃ Ri vs zs ci rest, Ext sp R1 (cutH H1 D) Ri (cutH H2 D) ∧ Ri D = none ∧ Cel (kc X ct) sp Ri (cutH H2 D) ci ∧ H2 D = some (.lst vs) ∧ RpL (kc X ct) Ri vs (zs0 ++ zs) ∧ compGo f (xs.drop i) ci = some (rest, c2) ∧ ys = zs ++ rest,
    ⟨xs.length, rfl, Nat.zero_le _, R1, vs0, [], c1, ys, .refl S.le, hD, S.cell, h1, by rw [List.append_nil]; exact rp0, eg, rfl⟩, ?_⟩
  rintro i m H2 ⟨rfl, hi, Ri, vs, zs, ci, rest, e2, hRi, l2, hH2, rp, eg, eys⟩
  have same : Same Ri H2 := same_up e2.le
  by_cases hlt : i < xs.length
  · refine .inr ⟨ok.go i H2 (e2.r.trans same) hlt, fun H' => _, fun H' h => ⟨xs.length - (i + 1), by omega, h⟩, fun x H3 y => ?_⟩
    obtain ⟨d, hd, R3, e3, l3, r3⟩ := ok.yld i x sp Ri H2 H3 ci e2.r same l2.up hlt y
    rw [List.drop_eq_getElem_cons hlt] at eg
    have hd' : xs[i] = d := by rw [List.getElem?_eq_getElem hlt] at hd; exact Option.some.inj hd
    rw [hd'] at eg
    obtain ⟨y1, c3, rest', f1, f2, f3⟩ := compGo_cons eg
    rw [← hf] at f1
    obtain ⟨ρ1, b, c4, hp, hb, hy⟩ := compF_some f1
    have hH3 : H3 D = some (.lst vs) := e3.keep D _ hH2 nsp
    have hR3 : R3 D = none := e3.stay hRi (.lst hH2 rp)
    have e3c := e3.cut hR3
    have S3 := ((S.ext e2 l2).ext e3c (l3.down nsp)).wipe (tgIx tg)
    refine use_tgD (K := kc X ct) S3 r3 hp fun σ2 S4 wp => ⟨(wp _ (fun i hi => hi)).trans (wipe_wipe σ fun i hi => hi), ?_⟩
    refine ⟨sp, R3, ρ1, ci, b, c4, S4.up, hb, fun R5 H5 e5 l5 => ?_⟩
    have hH5 : H5 D = some (.lst vs) := e5.keep D _ hH3 nsp
    have rp3 := rp.mono e3.r
    have hR5 : R5 D = none := e5.stay hR3 (.lst hH3 rp3)
    have e5c := e5.cut hR5
    rcases hy with ⟨rfl, rfl, rfl⟩ | ⟨rfl, yv, rfl, ee⟩
    · refine iteF ?_
      exact ⟨rfl, hlt, R5, vs, zs, _, rest', (e2.trans e3c).trans e5c, hR5, l5.down nsp, hH5, rp3.mono e5.r, f2, by rw [eys, f3]; rfl⟩
    · refine iteT ?_
      refine ⟨sp, R5, ρ1, c4, yv, c3, (S4.ext e5c (l5.down nsp)).up, ee, fun v R6 H6 e6 l6 r6 => ?_⟩
      have hH6 : H6 D = some (.lst vs) := e6.keep D _ hH5 nsp
      have rp5 := rp3.mono e5.r
      have hR6 : R6 D = none := e6.stay hR5 (.lst hH5 rp5)
      refine ⟨vs, hH6, ?_, rfl, hlt, R6, vs ++ [v], zs ++ [yv], c3, rest', by rw [cut_upd]; exact ((e2.trans e3c).trans e5c).trans (e6.cut hR6), hR6, by rw [cut_upd]; exact l6.down nsp, upd_same, ?_, f2, ?_⟩
      · rw [rp.length, line_eq, List.length_append]
        rw [eys, f3, List.length_append, List.length_append] at few
        have : [yv].length = 1 := rfl
        omega
      · rw [← List.append_assoc]
        exact (rp5.mono e6.r).append (.cons r6 .nil)
      · rw [eys, f3, List.append_assoc]
  · have e : i = xs.length := by omega
    subst e
    rw [List.drop_length] at eg
    cases eg
    rw [List.append_nil] at eys
    subst eys
    exact .inl ⟨ok.stop _ H2 (e2.r.trans same) rfl, q Ri H2 vs e2 hRi l2 hH2 rp⟩
def comp2F (Φ : List Fn) (ct : Ct) (tg : Tg) (ifs : IEs) (tg2 : Tg) (it2 : II) (ifs2 : IEs) (elt : IE) (ρ0 : List Sl) : Dt → Dt → Option (List Dt × Dt) := fun d c => match putTg tg d ρ0 with
  | some ρ1 => match evB Φ ct true ifs ρ1 c with
    | some (.bool true, c2) => match evI Φ ct it2 ρ1 c2 with
      | some (zs, c3) => compGo (compF Φ ct tg2 ifs2 elt (wipeS ρ1 (tgIx tg2))) zs c3
      | none => none
    | some (.bool false, c2) => some ([], c2)
    | _ => none
  | none => none
theorem comp2F_some {tg tg2 : Tg} {it2 : II} {ifs ifs2 : IEs} {elt : IE} {ρ0 : List Sl} {d c c' : Dt} {ys : List Dt} (h : comp2F Φ ct tg ifs tg2 it2 ifs2 elt ρ0 d c = some (ys, c')) :
    ∃ ρ1 b c2, putTg tg d ρ0 = some ρ1 ∧ evE Φ ct (.bop true ifs) ρ1 c = some (.bool b, c2) ∧ ((b = false ∧ ys = [] ∧ c' = c2) ∨ (b = true ∧ ∃ zs c3, evI Φ ct it2 ρ1 c2 = some (zs, c3) ∧ compGo (compF Φ ct tg2 ifs2 elt (wipeS ρ1 (tgIx tg2))) zs c3 = some (ys, c'))) := by
  unfold comp2F at h
  split at h
  · rename_i ρ1 hp
    split at h
    · rename_i c2 eb
      split at h
      · rename_i zs c3 ee
        exact ⟨ρ1, true, c2, hp, by simp only [evE]; exact eb, .inr ⟨rfl, zs, c3, ee, h⟩⟩
      · cases h
    · rename_i c2 eb
      cases h
      exact ⟨ρ1, false, _, hp, by simp only [evE]; exact eb, .inl ⟨rfl, rfl, rfl⟩⟩
    · cases h
  · cases h
theorem comp2_core {own : List (Str × Nat)} {tg tg2 : Tg} {it it2 : II} {ifs ifs2 : IEs} {elt : IE} {σ : St} {H : Hp} {Q : VK} (hw : wipeOk own tg = true) {sp : Option Addr} {R : Hp} {ρ : List Sl} {c d c' : Dt} (S : SRel (kc X ct) sp R H σ ρ c)
    (ev : evE Φ ct (.comp2 own tg it ifs tg2 it2 ifs2 elt) ρ c = some (d, c')) (q : ∀ v R' H', Ext sp R H R' H' → Cel (kc X ct) sp R' H' c' → RepK (kc X ct) sp H R' H' v d .F → Q v H') :
    tLc2 (rdI (kc X ct) Φ ct it) (gTg X.K tg) (rdT (kc X ct) Φ ct (.bop true ifs)) (rdI (kc X ct) Φ ct it2) (gTg X.K tg2) (rdT (kc X ct) Φ ct (.bop true ifs2)) (rd (kc X ct) Φ ct .S elt) (own.map (·.2)) (tgIx tg2) σ H Q := by
  simp only [evE] at ev
  split at ev
  · rename_i xs c1 eI
    split at ev
    · rename_i ys c2 eG
      split at ev
      · rename_i hlen
        cases ev
        refine ⟨sp, R, ρ, c, xs, c1, S, eI, fun J R1 H1 e1 l1 ok => fun D hD => ?_⟩
        have hD0 : H D = none := e1.back hD
        have nsp : sp ≠ some D := fun z => by
          obtain ⟨o, h⟩ := (S.cel D z).2.there
          rw [hD0] at h; cases h
        have hR : R1 D = none := e1.le.free hD
        have eG : compGo (comp2F Φ ct tg ifs tg2 it2 ifs2 elt (wipeS ρ (own.map (·.2)))) xs c1 = some (ys, c') := eG
        generalize hf : comp2F Φ ct tg ifs tg2 it2 ifs2 elt (wipeS ρ (own.map (·.2))) = f at eG
        have hH1 : cutH H1 D = H1 := cut_none hD
        refine ⟨fun i m H2 => m = xs.length - i ∧ i ≤ xs.length ∧ ∃ Ri vs zs ci rest, Ext sp R1 H1 Ri (cutH H2 D) ∧ Ri D = none ∧ Cel (kc X ct) sp Ri (cutH H2 D) ci ∧ H2 D = some (.lst vs) ∧ RpL (kc X ct) Ri vs zs ∧ compGo f (xs.drop i) ci = some (rest, c') ∧ ys = zs ++ rest,
          ⟨xs.length, rfl, Nat.zero_le _, R1, [], [], c1, ys, by rw [cut_upd, hH1]; exact .refl e1.le, hR, by rw [cut_upd, hH1]; exact l1, upd_same, .nil, eG, rfl⟩, ?_⟩
        rintro i m H2 ⟨rfl, hi, Ri, vs, zs, ci, rest, e2, hRi, l2, hH2, rp, eg, eys⟩
        have same : Same Ri H2 := same_up e2.le
        by_cases hlt : i < xs.length
        · refine .inr ⟨ok.go i H2 (e2.r.trans same) hlt, fun H' => _, fun H' h => ⟨xs.length - (i + 1), by omega, h⟩, fun x H3 y => ?_⟩
          obtain ⟨d, hd, R3, e3, l3, r3⟩ := ok.yld i x sp Ri H2 H3 ci e2.r same l2.up hlt y
          rw [List.drop_eq_getElem_cons hlt] at eg
          have hd' : xs[i] = d := by rw [List.getElem?_eq_getElem hlt] at hd; exact Option.some.inj hd
          rw [hd'] at eg
          obtain ⟨y1, c3, rest', f1, f2, f3⟩ := compGo_cons eg
          rw [← hf] at f1
          obtain ⟨ρ1, b, c4, hp, hb, hy⟩ := comp2F_some f1
          have hH3 : H3 D = some (.lst vs) := e3.keep D _ hH2 nsp
          have hR3 : R3 D = none := e3.stay hRi (.lst hH2 rp)
          have e3c := e3.cut hR3
          have S3 := (((S.ext e1 l1).ext e2 l2).ext e3c (l3.down nsp)).wipe (own.map (·.2))
          refine use_tgD (K := kc X ct) S3 r3 hp fun σ2 S4 wp => ⟨(wp _ (fun i hi => ?_)).trans (wipe_wipe σ fun i hi => hi), ?_⟩
          · unfold wipeOk at hw
            simpa using List.all_eq_true.mp hw i hi
          refine ⟨sp, R3, ρ1, ci, b, c4, S4.up, hb, fun R5 H5 e5 l5 => ?_⟩
          have hH5 : H5 D = some (.lst vs) := e5.keep D _ hH3 nsp
          have rp3 := rp.mono e3.r
          have hR5 : R5 D = none := e5.stay hR3 (.lst hH3 rp3)
          have e5c := e5.cut hR5
          have rp5 := rp3.mono e5.r
          rcases hy with ⟨rfl, rfl, rfl⟩ | ⟨rfl, ws, c5, ei, eh⟩
          · refine iteF ?_
            exact ⟨rfl, hlt, R5, vs, zs, _, rest', (e2.trans e3c).trans e5c, hR5, l5.down nsp, hH5, rp5, f2, by rw [eys, f3]; rfl⟩
          · refine iteT ?_
            have S5 := S4.ext e5c (l5.down nsp)
            refine ⟨sp, R5, ρ1, c4, ws, c5, S5.up, ei, fun J1 R6 H6 e6 l6 ok1 => ?_⟩
            have hH6 : H6 D = some (.lst vs) := e6.keep D _ hH5 nsp
            have hR6 : R6 D = none := e6.stay hR5 (.lst hH5 rp5)
            have e6c := e6.cut hR6
            refine inner_loop (X := X) (S5.ext e6c (l6.down nsp)) hH6 hR6 (rp5.mono e6.r) nsp ok1 eh ?_ fun R7 H7 vs7 e7 hR7 l7 hH7 rp7 => ?_
            · rw [eys, f3, List.length_append, List.length_append] at hlen
              omega
            · exact ⟨rfl, hlt, R7, vs7, zs ++ y1, c3, rest', (((e2.trans e3c).trans e5c).trans e6c).trans e7, hR7, l7, hH7, rp7, f2, by rw [eys, f3, List.append_assoc]⟩
        · have e : i = xs.length := by omega
          subst e
          rw [List.drop_length] at eg
          cases eg
          rw [List.append_nil] at eys
          subst eys
          have e3 : Ext sp R1 H1 Ri H2 := by
            refine ⟨e2.r, same, e2.fresh, fun a o z n => (cut_some (e2.keep a o z n)).2, fun a o z => ?_⟩
            obtain ⟨o', h⟩ := e2.dom a o z
            exact ⟨o', (cut_some h).2⟩
          exact .inl ⟨ok.stop _ H2 (e2.r.trans same) rfl, q _ Ri H2 (e1.trans e3) l2.up (.inl ⟨rfl, D, rfl, hRi, hD0, .lst hH2 rp⟩)⟩
      · cases ev
    · cases ev
  · cases ev
theorem pv_comp2 {own : List (Str × Nat)} {tg tg2 : Tg} {it it2 : II} {ifs ifs2 : IEs} {elt : IE} {te tgt iter tgt2 iter2 : Expr} {cs cs2 : List Expr} {scope : Scope} (hc : X.calm = true) (hN : X.N.Nodup) (ok : BlkOk X.N X.env.scope scope own) (hw : wipeOk own tg = true) (hw2 : wipeOk own tg2 = true)
    (hi : PI X tgt iter (rdI (kc X ct) Φ ct it)) (hs : ∀ x, foldedSetIterable iter X.env x = pure x) (hs2 : ∀ env x, foldedSetIterable iter2 env x = pure x)
    (hg : ∀ (s : Shared) (H : Hp) (C : Addr) (cl : List (Str × Addr)) (fp : List Addr), PG (X.blk s H scope (compEnvC scope cl C X.env) fp) tgt (gTg X.K tg))
    (ht : ∀ (s : Shared) (H : Hp) (C : Addr) (cl : List (Str × Addr)) (fp : List Addr), PTs (X.blk s H scope (compEnvC scope cl C X.env) fp) cs (rdT (kc X ct) Φ ct (.bop true ifs)))
    (hi1 : ∀ (s : Shared) (H : Hp) (C : Addr) (cl : List (Str × Addr)) (fp : List Addr), PI (X.blk s H scope (compEnvC scope cl C X.env) fp) tgt2 iter2 (rdI (kc X ct) Φ ct it2))
    (hg1 : ∀ (s : Shared) (H : Hp) (C : Addr) (cl : List (Str × Addr)) (fp : List Addr), PG (X.blk s H scope (compEnvC scope cl C X.env) fp) tgt2 (gTg X.K tg2))
    (ht1 : ∀ (s : Shared) (H : Hp) (C : Addr) (cl : List (Str × Addr)) (fp : List Addr), PTs (X.blk s H scope (compEnvC scope cl C X.env) fp) cs2 (rdT (kc X ct) Φ ct (.bop true ifs2)))
    (he : ∀ (s : Shared) (H : Hp) (C : Addr) (cl : List (Str × Addr)) (fp : List Addr), PE (X.blk s H scope (compEnvC scope cl C X.env) fp) te (rd (kc X ct) Φ ct .S elt)) :
    PE X (.ListComp te [⟨tgt, iter, cs, 0⟩, ⟨tgt2, iter2, cs2, 0⟩] scope pos) (rd (kc X ct) Φ ct .F (.comp2 own tg it ifs tg2 it2 ifs2 elt)) :=
  pe_weak (pe_lc2 hc hN hi ok (vs1 := tgIx tg2) (fun i hi => by unfold wipeOk at hw2; simpa using List.all_eq_true.mp hw2 i hi) hg ht hi1 hg1 ht1 he hs hs2) fun σ H Q ⟨sp, R, ρ, c, d, c', S, ev, q⟩ => comp2_core hw S ev q
end
end Pv
end
section
set_option Elab.async false
set_option linter.all false
set_option maxRecDepth 100000
/-! Pv.U: what the checker lets pass means what the evaluator reckons: expressions. -/
namespace Pv
open PySem PySem.Spec L2
section
variable {X : Cx} {Φ : List Fn} {ct : Ct} {pos p p2 : Pos} {x y z : Expr} {a b c : IE}
/-! ### ranges as values -/
theorem rng_S {es : IEs} {isT : Bool} {ρ : List Sl} {c d c' : Dt} (ev : evE Φ ct (.rngL isT es) ρ c = some (d, c')) :
    ∃ l ds pr, evEs Φ ct es ρ c = some (l, c') ∧ allSh l = some ds ∧ rangeD ds = some pr ∧ d = (if isT then .tuple (rngD pr) else .list (rngD pr)) := by
  simp only [evE] at ev
  split at ev
  · rename_i l c1 e1
    split at ev
    · rename_i ds hd
      obtain ⟨pr, hp, e'⟩ := Option.map_eq_some_iff.mp ev
      cases e'
      exact ⟨l, ds, pr, e1, hd, hp, rfl⟩
    · cases ev
  · cases ev
theorem rng_fin {K : Kc} {sp : Option Addr} {R H H0 : Hp} {c' : Dt} {pr : Int × Nat} {lo hi : Int} {Q : VK} {isT : Bool} (e : Same R H) (l : Cel K sp R H c') (h0 : ∀ a, H a = none → H0 a = none) (hp : pr = (lo, (hi - lo).toNat))
    (q : ∀ v R' H', Ext sp R H R' H' → Cel K sp R' H' c' → RepK K sp H0 R' H' v (if isT then .tuple (rngD pr) else .list (rngD pr)) .F → Q v H') :
    ∀ p, H p = none → Q (.ref p) (upd H p (if isT then .tup (rgV lo hi) else .lst (rgV lo hi))) := fun p hp0 => by
  subst hp
  have rr : RpL K R (rgV lo hi) (rngD (lo, (hi - lo).toNat)) := rng_rep lo _
  cases isT with
  | true =>
    obtain ⟨x1, x2⟩ := new_tup (sp := sp) e hp0 rr
    exact q _ _ _ x1 (cel_of x1 (keep_upd hp0) l) (rep_S x2 rfl)
  | false =>
    obtain ⟨x1, x2⟩ := new_lst (sp := sp) e hp0 rr
    exact q _ _ _ x1 (cel_of x1 (keep_upd hp0) l) (RepK.low h0 x2)
theorem pv_rng1 {isT : Bool} {pos' : Pos} (hc : X.calm = true) (hg : Gl X (if isT then "tuple" else "list")) (hm : X.mg (if isT then "tuple" else "list") = none) (hg2 : Gl X "range") (hm2 : X.mg "range" = none) (ha : PE X x (rd (kc X ct) Φ ct .B a)) (hs : notStar x = true) :
    PE X (.Call (.Name (if isT then "tuple" else "list") p) [.Call (.Name "range" p2) [x] [] pos] [] pos') (rd (kc X ct) Φ ct .F (.rngL isT (.cons a .nil))) := by
  have core : ∀ σ H Q, rd (kc X ct) Φ ct .F (.rngL isT (.cons a .nil)) σ H Q → tRg1 (rd (kc X ct) Φ ct .B a) σ H fun lo hi H1 => RgOk lo hi ∧ ∀ q, H1 q = none → Q (.ref q) (upd H1 q (if isT then .tup (rgV lo hi) else .lst (rgV lo hi))) := fun σ H Q ⟨sp, R, ρ, c, d, c', S, ev, q⟩ => by
    obtain ⟨l, ds, pr, e1, hd, hp, rfl⟩ := rng_S ev
    simp only [evEs] at e1
    split at e1
    · rename_i d1 c1 ea
      cases e1; cases hd
      cases d1 with
      | int n =>
        simp only [rangeD] at hp
        split at hp
        · rename_i hn
          cases hp
          refine ⟨sp, R, ρ, c, _, _, S, ea, fun v R1 H1 x1 l1 r1 => ?_⟩
          cases (Rv.rb r1).int
          have := line_val
          exact ⟨n, rfl, ⟨by omega, by omega, hn.2, by omega, by rw [Int.sub_zero]; exact hn.1⟩, rng_fin (K := kc X ct) x1.le l1 (fun a h => x1.back h) (by rw [Int.sub_zero]) fun v R' H' x2 l2 r2 => q v R' H' (x1.trans x2) l2 r2⟩
        · cases hp
      | _ => cases hp
    · cases e1
  cases isT with
  | true => exact pe_weak (pe_tupRg hc hg hm (prg_1 hg2 hm2 ha (star_no hs _ _)) (star_no rfl _ _)) core
  | false => exact pe_weak (pe_listRg hc hg hm (prg_1 hg2 hm2 ha (star_no hs _ _)) (star_no rfl _ _)) core
theorem pv_rng2 {isT : Bool} {pos' : Pos} (hc : X.calm = true) (hg : Gl X (if isT then "tuple" else "list")) (hm : X.mg (if isT then "tuple" else "list") = none) (hg2 : Gl X "range") (hm2 : X.mg "range" = none) (ha : PE X x (rd (kc X ct) Φ ct .B a)) (hs : notStar x = true)
    (hb : PE X y (rd (kc X ct) Φ ct .B b)) (hs2 : notStar y = true) :
    PE X (.Call (.Name (if isT then "tuple" else "list") p) [.Call (.Name "range" p2) [x, y] [] pos] [] pos') (rd (kc X ct) Φ ct .F (.rngL isT (.cons a (.cons b .nil)))) := by
  have core : ∀ σ H Q, rd (kc X ct) Φ ct .F (.rngL isT (.cons a (.cons b .nil))) σ H Q → tRg2 (rd (kc X ct) Φ ct .B a) (rd (kc X ct) Φ ct .B b) σ H fun lo hi H1 => RgOk lo hi ∧ ∀ q, H1 q = none → Q (.ref q) (upd H1 q (if isT then .tup (rgV lo hi) else .lst (rgV lo hi))) := fun σ H Q ⟨sp, R, ρ, c, d, c', S, ev, q⟩ => by
    obtain ⟨l, ds, pr, e1, hd, hp, rfl⟩ := rng_S ev
    simp only [evEs] at e1
    split at e1
    · rename_i d1 c1 ea
      split at e1
      · rename_i l1 c2 e2
        split at e2
        · rename_i d2 c3 eb
          cases e2; cases e1; cases hd
          cases d1 with
          | int n =>
            cases d2 with
            | int m =>
              simp only [rangeD] at hp
              split at hp
              · rename_i hn
                cases hp
                refine ⟨sp, R, ρ, c, _, _, S, ea, fun v R1 H1 x1 l1 r1 => ⟨sp, R1, ρ, c1, _, _, S.ext x1 l1, eb, fun u R2 H2 x2 l2 r2 => ?_⟩⟩
                cases (Rv.rb r1).int
                cases (Rv.rb r2).int
                exact ⟨n, m, rfl, rfl, ⟨hn.2.1, hn.2.2.1, hn.2.2.2.1, hn.2.2.2.2, hn.1⟩, rng_fin (K := kc X ct) x2.le l2 (fun a h => (x1.trans x2).back h) rfl fun v R' H' x3 l3 r3 => q v R' H' ((x1.trans x2).trans x3) l3 r3⟩
              · cases hp
            | _ => cases hp
          | _ => cases hp
        · cases e2
      · cases e1
    · cases e1
  cases isT with
  | true => exact pe_weak (pe_tupRg hc hg hm (prg_2 hg2 hm2 ha hb (star_no hs _ _) (star_no hs2 _ _) (star_any pos _ (by simp [noStar, hs2]))) (star_no rfl _ _)) core
  | false => exact pe_weak (pe_listRg hc hg hm (prg_2 hg2 hm2 ha hb (star_no hs _ _) (star_no hs2 _ _) (star_any pos _ (by simp [noStar, hs2]))) (star_no rfl _ _)) core
/-- a if t else b, tested -/
theorem pt_ife (hc : PT X z (rdT (kc X ct) Φ ct c)) (ha : PT X x (rdT (kc X ct) Φ ct a)) (hb : PT X y (rdT (kc X ct) Φ ct b)) : PT X (.IfExp z x y pos) (rdT (kc X ct) Φ ct (.ife c a b)) := by
  refine ⟨fun pins s σ H Q I ⟨sp, R, ρ, c0, b0, c', S, ev, q⟩ => ?_⟩
  have e0 : PySem.isTrue (.IfExp z x y pos) X.env (eval (.IfExp z x y pos) X.env) = (do if ← PySem.isTrue z X.env (eval z X.env) then PySem.isTrue x X.env (eval x X.env) else PySem.isTrue y X.env (eval y X.env)) := by simp only [PySem.isTrue]
  rw [e0]
  simp only [evE] at ev
  split at ev
  · rename_i c1 ec
    have q1 : rdT (kc X ct) Φ ct c σ H fun b1 H1 => b1 = true ∧ ∃ R1, Ext sp R H R1 H1 ∧ Cel (kc X ct) sp R1 H1 c1 := ⟨sp, R, ρ, c0, true, c1, S, ec, fun R1 H1 e1 l1 => ⟨rfl, R1, e1, l1⟩⟩
    refine wpAny_bind (thn (hc.run pins s σ H _ I q1) fun b1 s1 ⟨H1, I1, hb1, R1, e1, l1⟩ => ?_)
    subst hb1
    exact ha.run pins s1 σ H1 Q I1 ⟨sp, R1, ρ, c1, b0, c', S.ext e1 l1, ev, fun R2 H2 e2 l2 => q R2 H2 (e1.trans e2) l2⟩
  · rename_i c1 ec
    have q1 : rdT (kc X ct) Φ ct c σ H fun b1 H1 => b1 = false ∧ ∃ R1, Ext sp R H R1 H1 ∧ Cel (kc X ct) sp R1 H1 c1 := ⟨sp, R, ρ, c0, false, c1, S, ec, fun R1 H1 e1 l1 => ⟨rfl, R1, e1, l1⟩⟩
    refine wpAny_bind (thn (hc.run pins s σ H _ I q1) fun b1 s1 ⟨H1, I1, hb1, R1, e1, l1⟩ => ?_)
    subst hb1
    exact hb.run pins s1 σ H1 Q I1 ⟨sp, R1, ρ, c1, b0, c', S.ext e1 l1, ev, fun R2 H2 e2 l2 => q R2 H2 (e1.trans e2) l2⟩
  · cases ev
theorem fold_no (h : notSet x = true) : ∀ env v, foldedSetIterable x env v = pure v := by
  intro env v
  cases x <;> first | rfl | cases h

/-! ### the context -/
structure Gx (X : Cx) (T : Tb) (Φ : List Fn) (ct : Ct) (N : List Str) (sc : Scope) (fnk : Str → Bool) : Prop where
  N : X.N = N
  nd : X.N.Nodup
  sc : X.env.scope = sc
  fn : X.fn = fnk
  calm : X.calm = true
  gd : X.A.guards = some []
  hu : X.A.units + 200 < cLine
  blt : ∀ n ∈ bltNames, X.mg n = none
  gcd : T.gcd = true → X.mg "gcd" = some (.builtin "math.gcd")
  fns : ∀ (k : Nat) (n : Str) (ps : List Str) (fo : Bool), T.cs[k]? = some (n, ps, fo) → ∃ f, Φ[k]? = some f ∧ Has X ct.kt n ps fo f
  cst : ∀ (k : Nat) (n : Str), T.cn[k]? = some n → ∃ v u d0, X.mg n = some u ∧ RelV v u ∧ ct.l[k]? = some d0 ∧ ∀ R, Rp (kc X ct) R v d0
theorem Gx.blk {T : Tb} {N : List Str} {sc : Scope} {fnk : Str → Bool} (G : Gx X T Φ ct N sc fnk) (s : Shared) (H : Hp) (scope : Scope) (C : Addr) (cl : List (Str × Addr)) (fp : List Addr) :
    Gx (X.blk s H scope (compEnvC scope cl C X.env) fp) T Φ ct N (relS scope sc) (fun x => scope.names.lookup x == some .cell) where
  N := G.N
  nd := G.nd
  sc := by show relS scope X.env.scope = _; rw [G.sc]
  fn := rfl
  calm := G.calm
  gd := G.gd
  hu := G.hu
  blt := G.blt
  gcd := G.gcd
  fns := fun k n ps fo h => by
    obtain ⟨f, h1, h2⟩ := G.fns k n ps fo h
    exact ⟨f, h1, h2.ar, h2.ex⟩
  cst := G.cst
end
/-- what a word's text promises -/
structure Ok4 (X : Cx) (T : Tb) (Φ : List Fn) (ct : Ct) (ir : IE) (x : Expr) : Prop where
  b : PE X x (rd (kc X ct) Φ ct .B ir)
  s : shB ir = true → PE X x (rd (kc X ct) Φ ct .S ir)
  f : frB T ir = true → PE X x (rd (kc X ct) Φ ct .F ir)
  t : PT X x (rdT (kc X ct) Φ ct ir)
section
variable {X : Cx} {T : Tb} {Φ : List Fn} {ct : Ct} {N : List Str} {sc : Scope} {fnk : Str → Bool} {ir : IE} {x : Expr}
theorem okS (h : PE X x (rd (kc X ct) Φ ct .S ir)) (hf : frB T ir = true → PE X x (rd (kc X ct) Φ ct .F ir)) (he : ∀ whole, PySem.isTrue x X.env whole = (do let v ← whole; standAt x.pos; holding [v] (truthy v))) : Ok4 X T Φ ct ir x := ⟨SB h, fun _ => h, hf, pt_of (SB h) he⟩
theorem okT (h : PE X x (rd (kc X ct) Φ ct .S ir)) (hf : frB T ir = false) (ht : PT X x (rdT (kc X ct) Φ ct ir)) : Ok4 X T Φ ct ir x := ⟨SB h, fun _ => h, fun z => absurd (hf.symm.trans z) (by decide), ht⟩
theorem okF (h : PE X x (rd (kc X ct) Φ ct .F ir)) (he : ∀ whole, PySem.isTrue x X.env whole = (do let v ← whole; standAt x.pos; holding [v] (truthy v))) : Ok4 X T Φ ct ir x := ⟨SB (FS h), fun _ => FS h, fun _ => h, pt_of (SB (FS h)) he⟩
theorem vis_of (G : Gx X T Φ ct N sc fnk) {n : Str} (h : visC sc n = true) : Vis X.env.scope n ∧ (n == ("__debug__" : Str)) = false ∧ (n == ("__classdict__" : Str)) = false := by
  unfold visC at h
  simp only [Bool.and_eq_true, Bool.not_eq_true'] at h
  obtain ⟨⟨h1, h2⟩, h3⟩ := h
  refine ⟨?_, h2, h3⟩
  unfold Vis
  rw [G.sc]
  split at h1
  · exact .inl (by assumption)
  · exact .inr (.inl (by assumption))
  · exact .inr (.inr (by assumption))
  · cases h1
theorem nm_of (G : Gx X T Φ ct N sc fnk) {i : Nat} {n : Str} (h : nmC N i n = true) : X.N[i]? = some n := by
  rw [G.N]; exact of_decide_eq_true h
theorem opC_eq {a b : Operator} (h : opC a b = true) : a = b := by cases a <;> cases b <;> first | rfl | cases h
theorem cmpC_eq {a b : CmpOp} (h : cmpC a b = true) : a = b := by cases a <;> cases b <;> first | rfl | cases h
theorem last_plain {op op' : CmpOp} {y z : Expr} (h' : cmpPlain op' = true) : lastMarks [op, op'] [y, z] = false := by
  show behindInMarks op' z = false
  cases z with
  | Set es k p =>
    cases op' <;> first | exact absurd h' (by decide) | (show (k == 0 && false && _) = false; rw [Bool.and_false, Bool.false_and])
  | _ => rfl
end
end Pv
end
section
set_option Elab.async false
set_option linter.all false
set_option maxRecDepth 100000
/-! Pv.Ua: max, min of the values of a dict with tuple keys. -/
namespace Pv
open PySem PySem.Spec PyProof.Rows L2
theorem meets_vals {prog : Program} {w : World} (d : Addr) (hd : (d == sysModules) = false) :
    MeetsIn prog w (Builtin.«dict.values» ⟨[.ref d], []⟩) (fun _ R s => s.TypeIs (.ref d) "dict" ∧
      R (.ok (.ret (.ref s.heap.objs.size))) { s with heap := s.heap.push { cls := .type "dict_values", data := .fields #[.ref d] } }) :=
  .of_wp fun A R s ⟨hm, h⟩ => by
    refine wpAny_bind ?_
    unfold Builtin.Dict.noArgs
    refine wpAny_bind (wpAny_notOrdered_dict hm ?_)
    show wpAny _ _ (pure d) _ _ s
    refine wpAny_pure ?_
    show wpAny _ _ (Builtin.Dict.showsAll d >>= _) _ _ s
    unfold Builtin.Dict.showsAll
    rw [if_neg (by rw [hd]; exact Bool.false_ne_true)]
    refine wpAny_bind (wpAny_pure ?_)
    exact wpAny_bind (wpAny_newObj_type (wpAny_pure ⟨_, rfl, h⟩))
def tXVals (mx : Bool) (td : TE) : TE := fun σ H Q => td σ H fun x H1 => ∃ (a : Addr) (kvs : List (List Key × V)) (is : List Int), x = V.ref a ∧ Rd H1 a (.dT kvs) ∧ kvs.map (·.2) = is.map V.int ∧ is ≠ [] ∧ ∀ m, m ∈ is → (∀ j ∈ is, if mx = true then j ≤ m else m ≤ j) → Q (.int m) H1
section
variable {X : Cx} {o : Expr} {p pos apos mpos : Pos} {td : TE}
theorem dt_raw {P : Program} {w : World} {H : Hp} {h : Heap} {a : Addr} {kvs : List (List Key × V)} {is : List Int} (ok : HOk P w H h) (e : Rd H a (.dT kvs)) (hv : kvs.map (·.2) = is.map V.int) :
    (a == sysModules) = false ∧ ∃ (ob : Obj) (es : Array DictEntry) (ep : Nat), h.get? a = some ob ∧ ob.ExactDict ∧ ob.data = .dict es ep ∧ es.size = is.length ∧ ∀ (i : Nat) (en : DictEntry), es[i]? = some en → ∃ t, en.val = .int (is.getD i 0) t := by
  obtain ⟨z, hd, xs, rel, ob, es, ep, ho, hx, hdat, hes, his, hn⟩ := dt_rd ok e
  have l1 : kvs.length = xs.length := Paired.length rel
  have l2 : es.size = xs.length := by
    have := congrArg List.length hes
    rw [List.length_map, Array.length_toList] at this
    exact this
  have l3 : kvs.length = is.length := by
    have := congrArg List.length hv
    rwa [List.length_map, List.length_map] at this
  refine ⟨hd, ob, es, ep, ho, hx, hdat, by omega, fun i en hen => ?_⟩
  have h1 : es.toList[i]? = some en := by rw [Array.getElem?_toList]; exact hen
  rw [hes, List.getElem?_map] at h1
  obtain ⟨q, hq, rfl⟩ := Option.map_eq_some_iff.mp h1
  obtain ⟨y, hy, _, _, hr⟩ := L2.DX.pget rel hq
  have h2 : (kvs.map (·.2))[i]? = some y.2 := by rw [List.getElem?_map, hy]; rfl
  rw [hv, List.getElem?_map] at h2
  obtain ⟨j, hj, e2⟩ := Option.map_eq_some_iff.mp h2
  rw [← e2] at hr
  obtain ⟨t, ht⟩ := hr
  refine ⟨t, ?_⟩
  rw [List.getD_eq_getElem?_getD, hj]
  exact ht
theorem pe_minV (hc : X.calm = true) (hg : Gl X "min") (hm : X.mg "min" = none) (hd : PE X o td) (hbase : attributeBase o "values" X.env (eval o X.env) = eval o X.env) (hline : (apos.endLine == mpos.line) = true)
    (hse : starEach [Expr.Call (.Attribute o "values" apos) [] [] mpos] X.env = [(false, eval (Expr.Call (.Attribute o "values" apos) [] [] mpos) X.env)] := by rfl) :
    PE X (.Call (.Name "min" p) [.Call (.Attribute o "values" apos) [] [] mpos] [] pos) (tXVals false td) := by
  refine ⟨fun pins s σ H Q I h => ?_⟩
  refine wpAny_Call_Name_kw (ld_blt I hg hm (u := .builtin "min") (by first | rfl | decide +kernel) ?_ (by first | decide +kernel | decide) (by first | decide +kernel | decide))
  rw [hse]
  refine PySem.callWith_builtin1 (wpAny_Call_method0_late hbase hline (thn (hd.run pins s σ H _ I h) fun v s1 ⟨x, H1, I1, r1, a, kvs, is, ex, ha, hv, hne, q⟩ => ?_))
  subst ex
  obtain rfl : v = Value.ref a := r1
  obtain ⟨hsys, ob, es, ep, ho, ex, hdat, hsz, hval⟩ := dt_raw I1.hok ha hv
  refine ⟨"dict", "dict.values", F.plainAttrs_dict, F.slot_dict_values, F.type_dict_values, ⟨ob, ho, ex.1⟩, fun b e => ?_, Calls.callWith_builtin rfl (PySem.evalArgs_none ?_)⟩
  · cases e
    exact ⟨ob, ho, ex.2.1⟩
  refine call_meetsIn F.slot_dict_values ⟨ob, ho, ex.1⟩ F.entry_dict_values (F.args_dict_values_1 _) (meets_vals a hsys) ⟨⟨ob, ho, ex.1⟩, ?_⟩
  have hlt : a < s1.heap.objs.size := Heap.lt_size ho
  have hpos : 0 < is.length := List.length_pos_iff.mpr hne
  have sz1 : (s1.heap.push { cls := .type "dict_values", data := .fields #[.ref a] }).objs.size = s1.heap.objs.size + 1 := Heap.size_push _ _
  refine call_min_walk ?_
  refine DSub.iter_vals (a := a) (es := es) (ep := ep) (v := s1.heap.objs.size) (Heap.get?_push_size _ rfl) (Heap.get?_push_of_some _ ho) hdat ?_
  refine ⟨(s1.heap.push { cls := .type "dict_values", data := .fields #[.ref a] }).objs.size, [_, a], [_], es.size, fun i v => ∃ t, v = .int (is.getD i 0) t, _, fun i j => decide (is.getD i 0 < is.getD j 0), rfl, DSub.walksVal (a := a) (show X.A.in1.handled = none from I.ok.hd hc) (by rw [sz1]; exact Nat.ne_of_lt (Nat.lt_succ_of_lt hlt)) hdat hval, ⟨Heap.get?_push_size _ rfl, Heap.get?_push_of_some _ (Heap.get?_push_of_some _ ho)⟩, fun b hb => ?_, by omega, CmpOf.ints_lt (fun i => is.getD i 0) (fun i v z => z), fun v h' tk hv' hk => ?_⟩
  · show b < ((s1.heap.push _).push _).objs.size
    rw [Heap.size_push, sz1]
    rcases List.mem_cons.mp hb with z | z
    · rw [z, sz1]; exact Nat.lt_succ_self _
    · rw [List.mem_singleton.mp z]; exact Nat.lt_succ_of_lt (Nat.lt_succ_of_lt hlt)
  · obtain ⟨t, rfl⟩ := hv'
    obtain ⟨b1, b2⟩ := argBest_lt (fun i => is.getD i 0) (es.size - 1)
    refine ⟨.int _, H1, I1.kept (t' := tk) fun b u e => hk b u (fun hmem => ?_) (Heap.get?_push_of_some _ (Heap.get?_push_of_some _ e)), ⟨t, rfl⟩, q _ ?_ fun j hj => ?_⟩
    · have e1 := List.mem_singleton.mp hmem
      have e2 := Heap.lt_size e
      rw [e1, sz1] at e2
      exact absurd e2 (Nat.not_lt.mpr (Nat.le_succ _))
    · have hb : argBest (fun i j => decide (is.getD i 0 < is.getD j 0)) (es.size - 1) < is.length := by omega
      rw [List.getD_eq_getElem?_getD, List.getElem?_eq_getElem hb]
      exact List.getElem_mem hb
    · obtain ⟨i, hi, e⟩ := List.mem_iff_getElem.mp hj
      have e2 : is.getD i 0 = j := by rw [List.getD_eq_getElem?_getD, List.getElem?_eq_getElem hi, ← e] <;> rfl
      rw [if_neg (by decide), ← e2]
      exact b2 i (by omega)
theorem pe_maxV (hc : X.calm = true) (hg : Gl X "max") (hm : X.mg "max" = none) (hd : PE X o td) (hbase : attributeBase o "values" X.env (eval o X.env) = eval o X.env) (hline : (apos.endLine == mpos.line) = true)
    (hse : starEach [Expr.Call (.Attribute o "values" apos) [] [] mpos] X.env = [(false, eval (Expr.Call (.Attribute o "values" apos) [] [] mpos) X.env)] := by rfl) :
    PE X (.Call (.Name "max" p) [.Call (.Attribute o "values" apos) [] [] mpos] [] pos) (tXVals true td) := by
  refine ⟨fun pins s σ H Q I h => ?_⟩
  refine wpAny_Call_Name_kw (ld_blt I hg hm (u := .builtin "max") (by first | rfl | decide +kernel) ?_ (by first | decide +kernel | decide) (by first | decide +kernel | decide))
  rw [hse]
  refine PySem.callWith_builtin1 (wpAny_Call_method0_late hbase hline (thn (hd.run pins s σ H _ I h) fun v s1 ⟨x, H1, I1, r1, a, kvs, is, ex, ha, hv, hne, q⟩ => ?_))
  subst ex
  obtain rfl : v = Value.ref a := r1
  obtain ⟨hsys, ob, es, ep, ho, ex, hdat, hsz, hval⟩ := dt_raw I1.hok ha hv
  refine ⟨"dict", "dict.values", F.plainAttrs_dict, F.slot_dict_values, F.type_dict_values, ⟨ob, ho, ex.1⟩, fun b e => ?_, Calls.callWith_builtin rfl (PySem.evalArgs_none ?_)⟩
  · cases e
    exact ⟨ob, ho, ex.2.1⟩
  refine call_meetsIn F.slot_dict_values ⟨ob, ho, ex.1⟩ F.entry_dict_values (F.args_dict_values_1 _) (meets_vals a hsys) ⟨⟨ob, ho, ex.1⟩, ?_⟩
  have hlt : a < s1.heap.objs.size := Heap.lt_size ho
  have hpos : 0 < is.length := List.length_pos_iff.mpr hne
  have sz1 : (s1.heap.push { cls := .type "dict_values", data := .fields #[.ref a] }).objs.size = s1.heap.objs.size + 1 := Heap.size_push _ _
  refine call_max_walk ?_
  refine DSub.iter_vals (a := a) (es := es) (ep := ep) (v := s1.heap.objs.size) (Heap.get?_push_size _ rfl) (Heap.get?_push_of_some _ ho) hdat ?_
  refine ⟨(s1.heap.push { cls := .type "dict_values", data := .fields #[.ref a] }).objs.size, [_, a], [_], es.size, fun i v => ∃ t, v = .int (is.getD i 0) t, _, fun i j => decide (is.getD i 0 > is.getD j 0), rfl, DSub.walksVal (a := a) (show X.A.in1.handled = none from I.ok.hd hc) (by rw [sz1]; exact Nat.ne_of_lt (Nat.lt_succ_of_lt hlt)) hdat hval, ⟨Heap.get?_push_size _ rfl, Heap.get?_push_of_some _ (Heap.get?_push_of_some _ ho)⟩, fun b hb => ?_, by omega, CmpOf.ints_gt (fun i => is.getD i 0) (fun i v z => z), fun v h' tk hv' hk => ?_⟩
  · show b < ((s1.heap.push _).push _).objs.size
    rw [Heap.size_push, sz1]
    rcases List.mem_cons.mp hb with z | z
    · rw [z, sz1]; exact Nat.lt_succ_self _
    · rw [List.mem_singleton.mp z]; exact Nat.lt_succ_of_lt (Nat.lt_succ_of_lt hlt)
  · obtain ⟨t, rfl⟩ := hv'
    obtain ⟨b1, b2⟩ := argBest_gt (fun i => is.getD i 0) (es.size - 1)
    refine ⟨.int _, H1, I1.kept (t' := tk) fun b u e => hk b u (fun hmem => ?_) (Heap.get?_push_of_some _ (Heap.get?_push_of_some _ e)), ⟨t, rfl⟩, q _ ?_ fun j hj => ?_⟩
    · have e1 := List.mem_singleton.mp hmem
      have e2 := Heap.lt_size e
      rw [e1, sz1] at e2
      exact absurd e2 (Nat.not_lt.mpr (Nat.le_succ _))
    · have hb : argBest (fun i j => decide (is.getD i 0 > is.getD j 0)) (es.size - 1) < is.length := by omega
      rw [List.getD_eq_getElem?_getD, List.getElem?_eq_getElem hb]
      exact List.getElem_mem hb
    · obtain ⟨i, hi, e⟩ := List.mem_iff_getElem.mp hj
      have e2 : is.getD i 0 = j := by rw [List.getD_eq_getElem?_getD, List.getElem?_eq_getElem hi, ← e] <;> rfl
      rw [if_pos rfl, ← e2]
      exact b2 i (by omega)
end
theorem RpL.intsU {K : Kc} {R : Hp} : ∀ {vs : List V} {l : List Int}, RpL K R vs (l.map PyData.int) → vs = l.map V.int
  | _, [], .nil => rfl
  | _, i :: l, .cons h t => by rw [Rp.isInt h, RpL.intsU t]; rfl
theorem zip_snd {α β γ : Type} (f : α → γ) : ∀ {ps : List α} {ds : List β}, ps.length = ds.length → ((ps.map f).zip ds).map (·.2) = ds
  | [], [], _ => rfl
  | _ :: ps, d :: ds, h => by
    simp only [List.map_cons, List.zip_cons_cons, zip_snd f (ps := ps) (ds := ds) (by simpa using h)]
section
variable {X : Cx} {Φ : List Fn} {ct : Ct} {a : IE} {o : Expr} {p pos apos mpos : Pos}
/-- what the values tell -/
theorem xv_core {mx : Bool} {K : Kc} {sp : Option Addr} {R' H' : Hp} {v : V} {kvs : List (Dt × Dt)} {x : Int} {r : List Int} {Q : V → Hp → Prop} (e : Same R' H') (hr : Rb K R' H' v (.dict kvs)) (ht : (kvs.all fun p => isTupD p.1) = true) (hi : intsD (kvs.map (·.2)) = some (x :: r))
    (q : Q (.int (if mx = true then maxL (x :: r) else minL (x :: r))) H') : ∃ (a : Addr) (ps : List (List Key × V)) (is : List Int), v = V.ref a ∧ Rd H' a (.dT ps) ∧ ps.map (·.2) = is.map V.int ∧ is ≠ [] ∧ ∀ m, m ∈ is → (∀ j ∈ is, if mx = true then j ≤ m else m ≤ j) → Q (.int m) H' := by
  obtain ⟨a, rfl, hd⟩ := hr.dict e
  have hds := intsD_eq hi
  rcases hd with ⟨ps, ds, h1, h2, rfl⟩ | ⟨ps, ds, h1, h2, rfl⟩
  · exfalso
    have hl := h2.length
    rw [List.length_map] at hl
    rw [zip_snd _ hl] at hds
    cases ps with
    | nil => rw [hds] at hl; simp at hl
    | cons p ps =>
      cases ds with
      | nil => cases hds
      | cons d ds =>
        simp only [List.map_cons, List.zip_cons_cons, List.all_cons, Bool.and_eq_true] at ht
        have := ht.1
        cases hk : p.1 <;> rw [hk] at this <;> cases this
  · have hl := h2.length
    rw [List.length_map] at hl
    rw [zip_snd _ hl] at hds
    rw [hds] at h2
    refine ⟨a, ps, x :: r, rfl, h1, RpL.intsU h2, by simp, fun m m1 m2 => ?_⟩
    cases mx with
    | true =>
      obtain ⟨g1, g2⟩ := maxL_mem (x := x) (r := r)
      have : m = maxL (x :: r) := Int.le_antisymm (g2 _ m1) (by have := m2 _ g1; simpa using this)
      rw [this]; exact q
    | false =>
      obtain ⟨g1, g2⟩ := minL_mem (x := x) (r := r)
      have : m = minL (x :: r) := Int.le_antisymm (by have := m2 _ g1; simpa using this) (g2 _ m1)
      rw [this]; exact q
theorem pv_xv {mx : Bool} (hc : X.calm = true) (hg : Gl X (if mx = true then "max" else "min")) (hm : X.mg (if mx = true then "max" else "min") = none) (ha : PE X o (rd (kc X ct) Φ ct .B a)) (hbase : attributeBase o "values" X.env (eval o X.env) = eval o X.env) (hline : (apos.endLine == mpos.line) = true) :
    PE X (.Call (.Name (if mx = true then "max" else "min") p) [.Call (.Attribute o "values" apos) [] [] mpos] [] pos) (rd (kc X ct) Φ ct .S (.xv mx a)) := by
  have core : ∀ σ H Q, rd (kc X ct) Φ ct .S (.xv mx a) σ H Q → tXVals mx (rd (kc X ct) Φ ct .B a) σ H Q := fun σ H Q ⟨sp, R, ρ, c, d, c', S, ev, q⟩ => by
    simp only [evE] at ev
    split at ev
    · rename_i kvs c1 e1
      split at ev
      · rename_i ht
        split at ev
        · rename_i x r hi
          cases ev
          refine ⟨sp, R, ρ, c, _, _, S, e1, fun v R' H' e l rr => ?_⟩
          exact xv_core (mx := mx) (sp := sp) e.le (Rv.rb rr) ht hi (q _ R' H' e l (.int _))
        · cases ev
      · cases ev
    · cases ev
  cases mx with
  | true => exact pe_weak (pe_maxV hc hg hm ha hbase hline) core
  | false => exact pe_weak (pe_minV hc hg hm ha hbase hline) core
end
end Pv
end
section
set_option Elab.async false
set_option linter.all false
set_option maxRecDepth 100000
/-! Pv.Ub: for x in d.values(). -/
namespace Pv
open PySem PySem.Spec PyProof.Rows L2
/-- the values of a locked dict with tuple keys -/
def ItdT (d : Addr) (o : Obj) (kvs : List (List Key × V)) : It :=
  ⟨fun i H => H d = some (.frz o (.dT kvs)) ∧ i < kvs.length, fun i H x H' => H' = H ∧ ∃ k, kvs[i]? = some (k, x), fun i H => H d = some (.frz o (.dT kvs)) ∧ kvs.length ≤ i⟩
section
variable {X : Cx} {pins : List (Addr × Obj)} {σ : L2.St} {H : Hp} {s : Shared} {d : Addr} {o : Obj}
theorem frzT_val {kvs : List (List Key × V)} (I : Inv X pins σ H s) (h : H d = some (.frz o (.dT kvs))) :
    (d == sysModules) = false ∧ s.heap.get? d = some o ∧ o.ExactDict ∧ ∃ (es : Array DictEntry) (ep : Nat), o.data = .dict es ep ∧ es.size = kvs.length ∧
      ∀ (i : Nat) (k : List Key) (v : V), kvs[i]? = some (k, v) → ∃ (en : DictEntry), es[i]? = some en ∧ RelV v en.val := by
  obtain ⟨hd, z, hs, xs, pr, o', es, ep, ho, hx, hdt, he, _⟩ := I.hok d _ h
  rw [hd] at ho
  cases ho
  have l2 : kvs.length = xs.length := Paired.length pr
  have l1 : es.size = xs.length := by
    have := congrArg List.length he
    rw [List.length_map, Array.length_toList] at this
    exact this
  refine ⟨hs, hd, hx, es, ep, hdt, by omega, fun i k v e => ?_⟩
  have hi : i < xs.length := by
    have := (List.getElem?_eq_some_iff.mp e).1
    omega
  obtain ⟨y, hy, _, _, hr⟩ := L2.DX.pget pr (List.getElem?_eq_getElem hi)
  rw [e] at hy
  cases hy
  refine ⟨entryOfKey (tupleKind (mixKind X.prog X.w)) xs[i], ?_, hr⟩
  rw [← Array.getElem?_toList, he, List.getElem?_map, List.getElem?_eq_getElem hi]
  rfl
end
section
variable {P : Program} {w : World} {K : PySem.W.Frag} {tg : Expr} {d : Addr} {o : Obj} {es : Array DictEntry} {ep : Nat}
theorem turn_valsT {kvs : List (List Key × V)} (it : Addr) (hod : o.data = .dict es ep) : Turn P w K tg (ItdT d o kvs) [it] it (fun i h => h.get? it = some (DVw.valOb d i kvs.length ep)) where
  mem := by simp
  obj := fun i h st b hb => by
    have e : b = it := by simpa using hb
    subst e
    exact ⟨_, st, fun v z => nomatch z⟩
  keep := fun i h h' st k => k it (by simp) _ st
  item := by
    intro X hP hw hK hc i pins s σ H E I hf st hg
    subst hP hw hK
    obtain ⟨hd, hi⟩ := hg
    obtain ⟨f0, f1, f2, f3, f4, f5⟩ := hf it (by simp)
    obtain ⟨hs, hgd, hx, es', ep', hdt, hsz, ent⟩ := frzT_val I hd
    obtain ⟨rfl, rfl⟩ := dict_ep hod hdt
    obtain ⟨⟨k, v⟩, hkv⟩ : ∃ p, kvs[i]? = some p := ⟨kvs[i], List.getElem?_eq_getElem hi⟩
    obtain ⟨en, hen, hr⟩ := ent i k v hkv
    refine DVw.val_item st hgd hdt hsz hen fun h' st' sb => ?_
    have I1 : Inv X pins σ H { s with heap := h' } := I.turned (t' := s.toks) (fun b ob hb e => (sb.2 b (by simpa using hb)).trans e) f0 f1 f3 f4 f5
    exact ⟨en.val, rfl, go_of (s := { s with heap := h' }) (n := "dict_valueiterator") st' rfl rfl (by decide) ⟨v, H, I1, hr, ⟨rfl, k, hkv⟩, st', fun b hb => (hf b hb).1⟩⟩
  done := by
    intro X hP hw hK hc i pins s σ H E I hf st hg
    subst hP hw hK
    obtain ⟨hd, hi⟩ := hg
    obtain ⟨f0, f1, f2, f3, f4, f5⟩ := hf it (by simp)
    obtain ⟨hs, hgd, hx, es', ep', hdt, hsz, ent⟩ := frzT_val I hd
    obtain ⟨rfl, rfl⟩ := dict_ep hod hdt
    exact DVw.val_end (I.ok.hd hc) st hgd hdt hsz (Array.getElem?_eq_none (by omega)) fun h' eb => ⟨rfl, I.turned (t' := s.toks) (fun b ob hb e => eb b ob (by simpa using hb) e) f0 f1 f3 f4 f5⟩
  self := fun A i s Q E st h => wpAny_pyIter_valiter (i := i) (n := kvs.length) (ep := ep) (d := d) ⟨_, st, rfl, rfl⟩ h
end
def iValsX (td : TE) : TI := fun σ H R => td σ H fun x H1 => ∃ d o, x = .ref d ∧ ((∃ kvs, H1 d = some (.frz o (.dK kvs)) ∧ R (Itd d o kvs) H1) ∨ ∃ kvs, H1 d = some (.frz o (.dT kvs)) ∧ R (ItdT d o kvs) H1)
section
variable {X : Cx} {tg e : Expr} {td : TE} {apos cpos : Pos}
theorem pi_valuesX (he : PE X e td) (hbase : attributeBase e "values" X.env (eval e X.env) = eval e X.env) (hline : (apos.endLine == cpos.line) = true) : PI X tg (.Call (.Attribute e "values" apos) [] [] cpos) (iValsX td) := by
  refine ⟨fun pins s σ H R I h => ?_⟩
  refine wpAny_Call_method (T := "dict") (id := "dict.values") hbase rfl hline F.plainAttrs_dict F.slot_dict_values F.type_dict_values (thn (he.run pins s σ H _ I h) fun u s1 ⟨x, H1, I1, rx, d, o, ex, q⟩ => ?_)
  subst ex
  obtain rfl : u = Value.ref d := rx
  have I2 : Inv X pins σ H1 { s1 with heap := s1.heap.push { cls := .type "dict_values", data := .fields #[.ref d] } } := I1.kept (t' := s1.toks) fun b ob q => Heap.get?_push_of_some _ q
  rcases q with ⟨kvs, hd, q⟩ | ⟨kvs, hd, q⟩
  · obtain ⟨hs, hgd, hx, es, ep, vs, hdt, hsz, kv, hm⟩ := I1.frzK hd
    have hl : kvs.length = vs.length := Paired.length kv
    refine ⟨hm.dictOf.typeIs, hm.dictOf.mapOf.noDict, ?_⟩
    have fin : wpAny (model X.prog X.w) X.A (pyIter (.ref s1.heap.objs.size)) (PIE X pins σ tg R) X.xe { s1 with heap := s1.heap.push { cls := .type "dict_values", data := .fields #[.ref d] } } := by
      refine wpAny_pyIter_values (d := d) (knd := mixKind X.prog X.w) ⟨_, Heap.get?_push_size _ rfl, rfl, rfl⟩ (hm.push _) (pi_one (tk := s1.toks) I2 _ (turn_vals _ hdt) ⟨_, Heap.get?_push_size _ rfl, rfl, ?_⟩ q)
      rw [hl] <;> rfl
    show wpAny _ _ (callWith cpos (.builtin "dict.values") [.ref d] [] []) _ X.xe s1
    exact method_meetsIn F.slot_dict_values F.entry_dict_values rfl (PySem.evalArgs_none ⟨rfl, hm.dictOf.typeIs, F.args_dict_values_1 _, _, meets_dict_values (mixKind X.prog X.w) d hs, ⟨vs, hm.dictOf⟩, fin⟩)
  · obtain ⟨hs, hgd, hx, es, ep, hdt, hsz, ent⟩ := frzT_val I1 hd
    refine ⟨⟨o, hgd, hx.1⟩, fun b e => by cases e; exact ⟨o, hgd, hx.2.1⟩, ?_⟩
    have fin : wpAny (model X.prog X.w) X.A (pyIter (.ref s1.heap.objs.size)) (PIE X pins σ tg R) X.xe { s1 with heap := s1.heap.push { cls := .type "dict_values", data := .fields #[.ref d] } } := by
      refine DSub.iter_vals (a := d) (es := es) (ep := ep) (v := s1.heap.objs.size) (Heap.get?_push_size _ rfl) (Heap.get?_push_of_some _ hgd) hdt (pi_one (tk := s1.toks) I2 _ (turn_valsT _ hdt) ?_ q)
      rw [hsz]
      exact Heap.get?_push_size _ rfl
    show wpAny _ _ (callWith cpos (.builtin "dict.values") [.ref d] [] []) _ X.xe s1
    exact method_meetsIn F.slot_dict_values F.entry_dict_values rfl (PySem.evalArgs_none ⟨rfl, ⟨o, hgd, hx.1⟩, F.args_dict_values_1 _, _, meets_vals d hs, ⟨o, hgd, hx.1⟩, fin⟩)
end
section
variable {K : Kc} {R : Hp}
theorem ItOk.vals {d : Addr} {o : Obj} {kvs : List (Key × V)} {ds : List Dt} (h : R d = some (.frz o (.dK kvs))) (hr : RpL K R (kvs.map (·.2)) ds) (few : kvs.length ≤ line) : ItOk K (Itd d o kvs) R ds where
  go := fun i H e hi => ⟨e _ _ h, by have := hr.length; rw [List.length_map] at this; omega⟩
  stop := fun i H e hi => ⟨e _ _ h, by have := hr.length; rw [List.length_map] at this; omega⟩
  yld := fun i x sp R1 H H1 c e1 e2 l hi y => by
    obtain ⟨rfl, k, hk⟩ := y
    obtain ⟨d', g1, g2⟩ := hr.getV (show (kvs.map (·.2))[i]? = some x by rw [List.getElem?_map, hk]; rfl)
    exact ⟨d', g1, R1, .refl e2, l, g2.mono e1⟩
  few := by have := hr.length; rw [List.length_map] at this; omega
theorem ItOk.valsT {d : Addr} {o : Obj} {kvs : List (List Key × V)} {ds : List Dt} (h : R d = some (.frz o (.dT kvs))) (hr : RpL K R (kvs.map (·.2)) ds) (few : kvs.length ≤ line) : ItOk K (ItdT d o kvs) R ds where
  go := fun i H e hi => ⟨e _ _ h, by have := hr.length; rw [List.length_map] at this; omega⟩
  stop := fun i H e hi => ⟨e _ _ h, by have := hr.length; rw [List.length_map] at this; omega⟩
  yld := fun i x sp R1 H H1 c e1 e2 l hi y => by
    obtain ⟨rfl, k, hk⟩ := y
    obtain ⟨d', g1, g2⟩ := hr.getV (show (kvs.map (·.2))[i]? = some x by rw [List.getElem?_map, hk]; rfl)
    exact ⟨d', g1, R1, .refl e2, l, g2.mono e1⟩
  few := by have := hr.length; rw [List.length_map] at this; omega
theorem zip_sndF {α : Type} {f : α → Dt} : ∀ {ps : List α} {ds : List Dt}, ps.length = ds.length → ((ps.map f).zip ds).map (·.2) = ds
  | [], [], _ => rfl
  | [], _ :: _, h => by cases h
  | p :: ps, [], h => by cases h
  | p :: ps, d :: ds, h => by
    rw [List.map_cons, List.zip_cons_cons, List.map_cons, zip_sndF (by simpa using h)]
end
section
variable {X : Cx} {Φ : List Fn} {ct : Ct} {tg x : Expr} {a : IE} {apos cpos : Pos}
theorem pv_vals (ha : PE X x (rd (kc X ct) Φ ct .S a)) (hbase : attributeBase x "values" X.env (eval x X.env) = eval x X.env) (hline : (apos.endLine == cpos.line) = true) : PI X tg (.Call (.Attribute x "values" apos) [] [] cpos) (rdI (kc X ct) Φ ct (.vals a)) := by
  refine pi_up (pi_valuesX ha hbase hline) fun σ H G ⟨sp, R, ρ, c, ds, c', S, ev, q⟩ => ?_
  simp only [evI] at ev
  split at ev
  · rename_i d c1 ea
    obtain ⟨l, hd, e'⟩ := Option.map_eq_some_iff.mp ev
    cases e'
    cases d with
    | dict kvs =>
      cases hd
      refine ⟨sp, R, ρ, c, _, _, S, ea, fun v R' H' e l r => ?_⟩
      cases r with
      | dK h1 h2 =>
        refine ⟨_, _, rfl, .inl ⟨_, e.le _ _ h1, fun pins σ s I => q _ R' H' e l ?_⟩⟩
        rw [zip_sndF (by rw [← h2.length, List.length_map])]
        exact .vals h1 h2 (few_dict I (e.le _ _ h1))
      | dT h1 h2 =>
        refine ⟨_, _, rfl, .inr ⟨_, e.le _ _ h1, fun pins σ s I => q _ R' H' e l ?_⟩⟩
        rw [zip_sndF (by rw [← h2.length, List.length_map])]
        exact .valsT h1 h2 (few_dictT I (e.le _ _ h1))
    | _ => cases hd
  · cases ev
end
end Pv
end
section
set_option Elab.async false
set_option linter.all false
set_option maxRecDepth 100000
set_option maxHeartbeats 4000000
/-! Pv.Uc: xs[::-1] of lists and tuples. -/
namespace Pv
open PySem PySem.Spec PyProof.Rows L2
section
variable {prog : Program} {w : World} {A : Around} {E : Value → Shared → Prop} {s : Shared}
theorem adj_back (n : Nat) : Builtin.Slice.sliceAdjust none none (-1) (n : Int) = ((n : Int) - 1, -1) := rfl
theorem places_back (n : Nat) : Builtin.Slice.slicePlaces ((n : Int) - 1) (-1) (-1) = n := by
  unfold Builtin.Slice.slicePlaces
  rw [if_neg (by decide)]
  have e : -(-1 : Int) = 1 := by decide
  rw [e, Int.ediv_one]
  split <;> omega
theorem applied_back {sl : Addr} {vl vu vs : Value} {n : Nat} {Q : Int × Int × Nat → Shared → Prop} (hs : s.heap.IsSliceOf sl vl vu vs) (pl : IsPart vl none) (pu : IsPart vu none) (ps : IsPart vs (some (-1)))
    (h : Q ((n : Int) - 1, -1, n) s) : wpAny (model prog w) A (Builtin.Slice.sliceApplied (.ref sl) (pure (n : Int))) Q E s := by
  obtain ⟨os, hos, hcs, hds⟩ := id hs
  unfold Builtin.Slice.sliceApplied Builtin.Slice.sliceFields
  refine wpAny_bind (wpAny_bind (wpAny_field hos hds (x := vl) rfl (wpAny_bind (wpAny_field hos hds (x := vu) rfl
    (wpAny_bind (wpAny_field hos hds (x := vs) rfl (wpAny_pure ?_)))))))
  refine wpAny_bind (HT.slicePart_ ps ?_)
  show wpAny _ _ (if ((-1 : Int) == 0) = true then _ else _) _ _ s
  rw [if_neg (by decide)]
  refine wpAny_bind (HT.slicePart_ pl (wpAny_bind (HT.slicePart_ pu (wpAny_bind (wpAny_pure ?_)))))
  show wpAny _ _ (match Builtin.Slice.sliceAdjust none none (-1) (n : Int) with
    | (lo, hi) => pure (lo, (-1 : Int), Builtin.Slice.slicePlaces lo hi (-1))) _ _ s
  rw [adj_back]
  show wpAny _ _ (pure ((n : Int) - 1, (-1 : Int), Builtin.Slice.slicePlaces ((n : Int) - 1) (-1) (-1))) _ _ s
  rw [places_back]
  exact wpAny_pure h
theorem pick_back (xs : Array Value) : ((List.range xs.size).filterMap fun (k : Nat) => xs[((xs.size : Int) - 1 + (k : Int) * -1).toNat]?).toArray = xs.toList.reverse.toArray := by
  have e : (fun (k : Nat) => xs[((xs.size : Int) - 1 + (k : Int) * -1).toNat]?) = fun k => xs[xs.size - 1 - k]? := by
    funext k
    rw [show ((xs.size : Int) - 1 + (k : Int) * -1).toNat = xs.size - 1 - k by omega]
  rw [e]
  have e2 : (List.range xs.size).filterMap (fun k => xs[xs.size - 1 - k]?) = ((List.range xs.size).map fun k => xs.size - 1 - k).filterMap (xs[·]?) := by rw [List.filterMap_map]; rfl
  rw [e2, PySem.W.krv_range, List.filterMap_reverse, PySem.W.krv_all]
theorem getItem_tuple_rev {t sl : Addr} {items : Array Value} {vl vu vs : Value} {Q : Value → Shared → Prop} (ht : IsTup s.heap t items) (hs : s.heap.IsSliceOf sl vl vu vs) (pl : IsPart vl none) (pu : IsPart vu none) (ps : IsPart vs (some (-1)))
    (h : Q (.ref s.heap.objs.size) { s with heap := s.heap.push { cls := .type "tuple", data := .seq items.toList.reverse.toArray } })
    (hsz : items.size ≤ sizeLine) : wpAny (model prog w) A (getItem (.ref t) (.ref sl)) Q E s := by
  have htake : sizeOk (.seq items.toList.reverse.toArray) := by
    show items.toList.reverse.toArray.size ≤ sizeLine
    rw [List.size_toArray, List.length_reverse, Array.length_toList]
    exact hsz
  obtain ⟨os, hos, hcs, hds⟩ := id hs
  have hTs : s.TypeIs (.ref sl) "slice" := ⟨os, hos, hcs⟩
  unfold getItem
  try with_reducible refine wpAny_holding ?_
  first | refine wpAny_bind (wpAny_pure ?_) | skip
  refine wpAny_bind (wpAny_sequenceKey ht.typeIs (by decide) ?_)
  refine wpAny_bind (wpAny_callSpecial?_slot (name := Str.ofString "__getitem__") ht.typeIs slot_tuple_getitem (wpAny_call_entry
    slot_tuple_getitem ht.typeIs entry_tuple_getitem ?_ (args_tuple_getitem _ _)))
  show wpAny _ _ (Builtin.Tuple.tupleItemsOf (.ref t) >>= _) _ _ s
  refine wpAny_bind (tupleItemsOf_ ht ?_)
  refine wpAny_bind (wpAny_typeOf hTs ?_)
  rw [if_pos (by decide)]
  refine wpAny_bind (applied_back hs pl pu ps ?_)
  have hno : ¬ ((((items.size : Int) - 1) == 0 && (-1 : Int) == 1 && items.size == items.size) = true) := by
    rw [show ((-1 : Int) == 1) = false by decide, Bool.and_false, Bool.false_and]
    exact Bool.false_ne_true
  show wpAny _ _ (if (((items.size : Int) - 1) == 0 && (-1 : Int) == 1 && items.size == items.size) = true then _ else _) _ _ s
  rw [if_neg hno, pick_back]
  first
    | exact wpAny_bind (m := Builtin.Tuple.tupleExact _) (wpAny_newObj_type (wpAny_pure ⟨_, rfl, wpAny_pure h⟩) htake)
    | exact wpAny_bind (wpAny_bind (m := Builtin.Tuple.tupleExact _) (wpAny_newObj_type (wpAny_pure ⟨_, rfl, wpAny_pure h⟩) htake))
end
section
variable {X : Cx} {Φ : List Fn} {ct : Ct} {pos : Pos} {x : Expr} {a : IE}
def tRev (K : PySem.W.Frag) (te : TE) : TE := fun σ H Q => te σ H fun x H1 =>
  (∃ a xs, x = .ref a ∧ SqL K H1 a xs ∧ ∀ p, H1 p = none → Q (.ref p) (upd H1 p (.lst xs.reverse))) ∨
  ∃ a xs, x = .ref a ∧ SqT K H1 a xs ∧ ∀ p, H1 p = none → Q (.ref p) (upd H1 p (.tup xs.reverse))
theorem pe_rev {e : Expr} {te : TE} {k : Nat} {p1 p2 p3 : Pos} (he : PE X e te) : PE X (.Subscript e (.Slice none none (some (.UnaryOp .USub (.Constant (.int 1) k p1) p2)) p3) pos) (tRev X.K te) := by
  refine ⟨fun pins s σ H Q I h => ?_⟩
  refine Subscript_ (thn (he.run pins s σ H _ I h) fun v s1 ⟨x, H1, I1, r1, q1⟩ => ?_)
  have hst : PO X (some (.UnaryOp .USub (.Constant (.int 1) k p1) p2)) (tPart (tUn (rU fun i => .int (-i)) (tC (.int 1)))) := po_some (pe_un un_neg pe_int)
  refine wpAny_Slice (thn (po_none.run pins s1 σ H1 (fun o H2 => o = none ∧ H2 = H1) I1 ⟨rfl, rfl⟩) fun vl s2 ⟨l, H2, I2, pl, el, e2⟩ => ?_)
  subst el; subst e2
  refine thn (po_none.run pins s2 σ H2 (fun o H3 => o = none ∧ H3 = H2) I2 ⟨rfl, rfl⟩) fun vu s3 ⟨u, H3, I3, pu, eu, e3⟩ => ?_
  subst eu; subst e3
  refine thn (hst.run pins s3 σ H3 (fun o H4 => o = some (-1) ∧ H4 = H3) I3 ⟨1, rfl, -1, rfl, rfl, rfl⟩) fun vs s4 ⟨o, H4, I4, ps, eo, e4⟩ => ?_
  subst eo; subst e4
  have I5 : Inv X pins σ H4 { s4 with heap := s4.heap.push { cls := .type "slice", data := .fields #[vl, vu, vs] } } := I4.kept (t' := s4.toks) fun b ob q => Heap.get?_push_of_some _ q
  rcases q1 with ⟨a, xs, ex, hx, q⟩ | ⟨a, xs, ex, hx, q⟩ <;> subst ex <;> cases r1
  · obtain ⟨its, r, ht, hz⟩ := I5.list hx
    have hlen := r.length
    show wpAny (model X.prog X.w) X.A (subscriptTail e _ (.ref a) (.ref s4.heap.objs.size)) (EP X pins σ Q) X.xe { s4 with heap := s4.heap.push { cls := .type "slice", data := .fields #[vl, vu, vs] } }
    refine tail_any (ops := [.ref a, .ref s4.heap.objs.size]) ht.isList.typeIs (PySem.slot_list_getitem.lookup) ?_ (by with_unfolding_all rfl)
    refine wpAny_getItem_list_slice ht.isList (Heap.IsSliceOf.new _ vl vu vs) pl pu ps (by decide) ?_ (by simp only [List.size_toArray]; omega)
    rw [PySem.W.krv_pick]
    exact ⟨.ref _, _, I5.laid (t' := s4.toks) (o := .lst xs.reverse) (fun b ob q => Heap.get?_push_of_some _ q) (Nat.le_refl _)
      ⟨by rw [List.length_reverse]; exact hz, _, 0, r.reverse, Heap.get?_push_size _ rfl⟩, rfl, q _ (I5.hok.fresh (Nat.le_refl _))⟩
  · obtain ⟨its, r, ht, hz⟩ := I5.tuple hx
    have hlen := r.length
    show wpAny (model X.prog X.w) X.A (subscriptTail e _ (.ref a) (.ref s4.heap.objs.size)) (EP X pins σ Q) X.xe { s4 with heap := s4.heap.push { cls := .type "slice", data := .fields #[vl, vu, vs] } }
    refine tail_any (ops := [.ref a, .ref s4.heap.objs.size]) ht.typeIs (slot_tuple_getitem.lookup) ?_ (by with_unfolding_all rfl)
    refine getItem_tuple_rev ht (Heap.IsSliceOf.new _ vl vu vs) pl pu ps ?_ (by simp only [List.size_toArray]; omega)
    exact ⟨.ref _, _, I5.laid (t' := s4.toks) (o := .tup xs.reverse) (fun b ob q => Heap.get?_push_of_some _ q) (Nat.le_refl _)
      ⟨by rw [List.length_reverse]; exact hz, _, r.reverse, IsTup.new _ _⟩, rfl, q _ (I5.hok.fresh (Nat.le_refl _))⟩
theorem rev_rep {K : Kc} {R : Hp} : ∀ {xs : List V} {ds : List Dt}, RpL K R xs ds → RpL K R xs.reverse ds.reverse
  | _, _, .nil => .nil
  | _, _, .cons h t => by
    rw [List.reverse_cons, List.reverse_cons]
    exact (rev_rep t).append (.cons h .nil)
theorem pv_rev {k : Nat} {p1 p2 p3 : Pos} (ha : PE X x (rd (kc X ct) Φ ct .B a)) : PE X (.Subscript x (.Slice none none (some (.UnaryOp .USub (.Constant (.int 1) k p1) p2)) p3) pos) (rd (kc X ct) Φ ct .F (.rev a)) := by
  refine pe_weak (pe_rev ha) fun σ H Q ⟨sp, R, ρ, c, d, c', S, ev, q⟩ => ?_
  simp only [evE] at ev
  split at ev
  · rename_i xs c1 ea
    cases ev
    refine ⟨sp, R, ρ, c, _, _, S, ea, fun v R1 H1 e1 l1 r1 => ?_⟩
    obtain ⟨a, vs, rfl, h1, h2⟩ := (Rv.rb r1).list e1.le
    refine .inl ⟨a, vs, rfl, .inl h1, fun p hp => ?_⟩
    obtain ⟨x1, x2⟩ := new_lst (sp := sp) e1.le hp (rev_rep h2)
    exact q _ _ _ (e1.trans x1) (cel_of x1 (keep_upd hp) l1) (RepK.low (fun a h => e1.back h) x2)
  · rename_i xs c1 ea
    cases ev
    refine ⟨sp, R, ρ, c, _, _, S, ea, fun v R1 H1 e1 l1 r1 => ?_⟩
    obtain ⟨a, vs, rfl, h1, h2⟩ := (Rv.rb r1).tuple e1.le
    refine .inr ⟨a, vs, rfl, h1.sq, fun p hp => ?_⟩
    obtain ⟨x1, x2⟩ := new_tup (sp := sp) e1.le hp (rev_rep h2)
    exact q _ _ _ (e1.trans x1) (cel_of x1 (keep_upd hp) l1) (rep_S x2 rfl)
  · cases ev
end
end Pv
end
section
set_option Elab.async false
set_option linter.all false
set_option maxRecDepth 100000
/-! Pv.W: dict displays; a call whose argument becomes the other def's cell. -/
namespace Pv
open PySem PySem.Spec L2
section
variable {X : Cx} {Φ : List Fn} {ct : Ct} {pos p q2 : Pos} {x y z : Expr} {a b c : IE}
theorem Ext.nest {K : Kc} {sp : Option Addr} {R H R1 H1 R2 H2 : Hp} {a : Addr} {c1 : Dt} (e1 : Ext sp R H R1 H1) (l1 : Cel K sp R1 H1 c1) (ha : H a = none) (nsp : sp ≠ some a) (e2 : Ext (some a) R1 H1 R2 H2) : Ext sp R H R2 H2 ∧ Cel K sp R2 H2 c1 := by
  refine ⟨⟨e1.r.trans e2.r, e2.le, fun b o h => ?_, fun b o h n => ?_, fun b o h => ?_⟩, fun b hb => ?_⟩
  · rcases e2.fresh b o h with q | q | ⟨n, xs, q⟩
    · exact e1.fresh b o q
    · exact .inr (.inl (e1.back q))
    · right
      cases z : H b with
      | none => exact .inl rfl
      | some u =>
        have ns : sp ≠ some b := fun w => by
          have := l1 b w
          cases this with
          | lst k _ => rw [q] at k; cases k
          | dK k _ => rw [q] at k; cases k
          | dT k _ => rw [q] at k; cases k
        have := e1.keep b u z ns
        rw [q] at this; cases this
        exact .inr ⟨ns, xs, rfl⟩
  · have hb : a ≠ b := fun z => by subst z; rw [ha] at h; cases h
    exact e2.keep b o (e1.keep b o h n) (fun z => hb (Option.some.inj z))
  · obtain ⟨o', h'⟩ := e1.dom b o h
    exact e2.dom b o' h'
  · have hb' : a ≠ b := fun z => nsp (by rw [z]; exact hb)
    exact (l1 b hb).mono e2.r fun o h => e2.keep b o h (fun z => hb' (Option.some.inj z))
theorem pv_callW {k k2 : Nat} {n m : Str} {ps ps2 : List Str} {f g : Fn} {es : List Expr} {r : IEs} {p1 p2 : Pos} (h : Has X ct.kt n ps false f) (hf : Φ[k]? = some f) (hg : Gl X n) (hd : (n == ("__debug__" : Str)) = false) (hl1 : ps.length = 1)
    (h2 : Has X ct.kt m ps2 true g) (hf2 : Φ[k2]? = some g) (hg2 : Gl X m) (hd2 : (m == ("__debug__" : Str)) = false) (hgd : X.A.guards = some []) (hl : (x :: es).length = ps2.length)
    (hn : notStar x = true) (hs : noStar es = true) (ha : PA X (x :: es) (rdA (kc X ct) Φ ct r)) : PE X (.Call (.Name n p) [.Call (.Name m p2) (x :: es) [] p1] [] pos) (rd (kc X ct) Φ ct .S (.callW k k2 r)) := by
  have hin : PE X (.Call (.Name m p2) (x :: es) [] p1) (rd (kc X ct) Φ ct .F (.call k2 r)) := pv_call (fo := true) h2 hf2 hg2 hd2 hgd hl hn hs ha
  obtain ⟨j, fa, fd, F, hr, hm, hk, bd⟩ := h.ex
  refine ⟨fun pins s σ H Q I ⟨sp, R, ρ, c, d, c', S, ev, q⟩ => ?_⟩
  simp only [evE, hf, hf2] at ev
  split at ev
  · rename_i l c1 e1
    split at ev
    · rename_i d1 c2 e2
      split at ev
      · rename_i hown
        obtain ⟨pr, hp, e'⟩ := Option.map_eq_some_iff.mp ev
        obtain ⟨d2, c3⟩ := pr
        cases e'
        refine wpAny_Call_Name_kw (ld_glob I hg hm ?_ hd)
        have q1 : rd (kc X ct) Φ ct .F (.call k2 r) σ H (fun v H1 => ∃ R1, Ext sp R H R1 H1 ∧ Cel (kc X ct) sp R1 H1 c' ∧ RepK (kc X ct) sp H R1 H1 v d1 .F) :=
          ⟨sp, R, ρ, c, d1, c', S, by simp only [evE, e1, hf2, e2], fun v R1 H1 x1 l1 r1 => ⟨R1, x1, l1, r1⟩⟩
        refine PySem.W.callWith_K (h₀ := X.base) I.ok.mod.kin hk ?_ (star_no rfl _ _) (star_any _ _ rfl)
        have hA : PA X [.Call (.Name m p2) (x :: es) [] p1] (tCons (rd (kc X ct) Φ ct .F (.call k2 r)) tNil) := pa_cons hin pa_nil (star_no rfl _ _)
        refine thn (hA.run pos pins s σ H (fun vs H1 => ∃ v R1, vs = [v] ∧ Ext sp R H R1 H1 ∧ Cel (kc X ct) sp R1 H1 c' ∧ RepK (kc X ct) sp H R1 H1 v d1 .F) I (by
          obtain ⟨sp', R', ρ', c0, d0, c0', S', ev', q'⟩ := q1
          exact ⟨sp', R', ρ', c0, d0, c0', S', ev', fun v R1 H1 x1 l1 r1 => by
            obtain ⟨R2, y1, y2, y3⟩ := q' v R1 H1 x1 l1 r1
            exact ⟨v, R2, rfl, y1, y2, y3⟩⟩)) fun us s1 ⟨vs, H1, I1, rv, v, R1, ev1, x1, l1, r1⟩ => ⟨I1.kIn, ?_⟩
        subst ev1
        rcases r1 with ⟨_, ad, rfl, g1, g2, g3⟩ | ⟨no, _⟩
        · have nsp : sp ≠ some ad := fun z => by
            obtain ⟨o, w⟩ := (S.cel ad z).2.there
            rw [g2] at w; cases w
          have hsp : spV (kc X ct) ps.length false f [.ref ad] H1 (fun v H' => ∃ R', Ext (some ad) R1 H1 R' H' ∧ Rp (kc X ct) R' v d2) E0 :=
            ⟨by rw [hl1]; rfl, some ad, R1, [.cell], d1, d2, c3, x1.le, .cons (.cell rfl) .nil, fun b hb => by cases hb; exact ⟨g1, g3⟩, hp, fun v R' H' x2 l2 r2 => ⟨R', x2, r2⟩⟩
          have hu : us.length = ps.length := by rw [hl1, ← rv.length]; rfl
          refine wpAny_call (codeAny_mono (run_g F hr hgd I1 (bd.pos s1 us hu) rv hsp) fun rr s' hq => ?_)
          cases rr with
          | error e => exact False.elim hq
          | ok fl =>
            cases fl with
            | ret u =>
              obtain ⟨v, H', I', ru, R', x2, r2⟩ := hq
              obtain ⟨y1, y2⟩ := x1.nest l1 g2 nsp x2
              exact ⟨v, H', I', ru, q v R' H' y1 y2 r2⟩
            | next => exact False.elim hq
            | brk => exact False.elim hq
            | cont => exact False.elim hq
        · rw [hown] at no; cases no
      · cases ev
    · cases ev
  · cases ev
/-! ### displays of dicts -/
def trsOf (K : Kc) (Φ : List Fn) (ct : Ct) : List Key → IEs → List (TE × TE)
  | k :: ks, .cons e r => (tC (kV k), rd K Φ ct .S e) :: trsOf K Φ ct ks r
  | _, _ => []
def kvV (ks : List Key) (vs : List V) : List (Key × V) := ks.zip vs
theorem tp_of {K : Kc} {σ : St} {sp : Option Addr} {ρ : List Sl} : ∀ {ks : List Key} {es : IEs} {R H : Hp} {c c' : Dt} {l : List Sl} {ds : List Dt} {Q : List (V × V) → Hp → Prop}, consOnly es = true → SRel K sp R H σ ρ c → evEs Φ ct es ρ c = some (l, c') → allSh l = some ds → ds.length = ks.length →
    (∀ vs R' H', Ext sp R H R' H' → Cel K sp R' H' c' → RpL K R' vs ds → Q ((ks.zip vs).map fun kv => (kV kv.1, kv.2)) H') → tPairs (trsOf K Φ ct ks es) σ H Q
  | ks, .nil, R, H, c, c', l, ds, Q, hc, S, ev, hd, hl, q => by
    cases ev; cases hd
    have : ks = [] := List.length_eq_zero_iff.mp hl.symm
    subst this
    exact q [] R H (.refl S.le) S.cell .nil
  | ks, .cons e r, R, H, c, c', l, ds, Q, hc, S, ev, hd, hl, q => by
    simp only [evEs] at ev
    split at ev
    · rename_i d c1 ea
      split at ev
      · rename_i l' c2 er
        cases ev
        simp only [allSh] at hd
        split at hd
        · rename_i ds' hd'
          cases hd
          cases ks with
          | nil => cases hl
          | cons k ks =>
            refine ⟨sp, R, ρ, c, d, c1, S, ea, fun v R1 H1 e1 l1 r1 => ?_⟩
            refine tp_of (ks := ks) (es := r) hc (S.ext e1 l1) er hd' (by simpa using hl) fun vs R2 H2 e2 l2 r2 => ?_
            exact q (v :: vs) R2 H2 (e1.trans e2) l2 (.cons (Rp.mono e2.r r1) r2)
        · cases hd
      · cases ev
    · cases ev
theorem putK_new {kvs : List (Key × V)} {k : Key} {v : V} (h : k ∉ kvs.map (·.1)) : putK kvs k v = kvs ++ [(k, v)] := by
  unfold putK
  rw [if_neg]
  intro hh
  obtain ⟨kv, h1, h2⟩ := List.any_eq_true.mp hh
  exact h (List.mem_map.mpr ⟨kv, h1, of_decide_eq_true h2⟩)
theorem merge_new : ∀ {more kvs : List (Key × V)}, ((kvs ++ more).map (·.1)).Nodup → mergeK kvs more = kvs ++ more
  | [], kvs, _ => by rw [List.append_nil]; rfl
  | (k, v) :: r, kvs, h => by
    have hk : k ∉ kvs.map (·.1) := fun hm => by
      rw [List.map_append, List.map_cons] at h
      exact (List.nodup_append.mp h).2.2 _ hm _ List.mem_cons_self rfl
    show mergeK (putK kvs k v) r = _
    rw [putK_new hk, merge_new (by rw [List.append_assoc]; exact h), List.append_assoc]; rfl
theorem zip_keys : ∀ {ks : List Key} {vs : List V}, ks.length = vs.length → (ks.zip vs).map (·.1) = ks ∧ (ks.zip vs).map (·.2) = vs
  | [], [], _ => ⟨rfl, rfl⟩
  | k :: ks, v :: vs, h => by
    obtain ⟨h1, h2⟩ := zip_keys (ks := ks) (vs := vs) (by simpa using h)
    rw [List.zip_cons_cons, List.map_cons, List.map_cons, h1, h2]
    exact ⟨rfl, rfl⟩
theorem upd_upd (H : Hp) (a : Addr) (o u : HO) : upd (upd H a o) a u = upd H a u := by
  funext b
  by_cases h : b = a
  · subst h; rw [upd_same, upd_same]
  · rw [upd_ne h, upd_ne h, upd_ne h]
theorem disp0_of : ∀ σ H Q, rd (kc X ct) Φ ct .F (.dct [] .nil) σ H Q → tDNewK σ H Q := fun σ H Q ⟨sp, R, ρ, c, d, c', S, ev, q⟩ => by
  intro p hp
  have hR : R p = none := S.le.free hp
  have x0 : Ext sp R H R (upd H p (.dK [])) := Ext.newO S.le hp
  have ev' : d = .dict [] ∧ c' = c := by
    simp only [evE, evEs, allSh] at ev
    simpa [eq_comm] using ev
  obtain ⟨rfl, rfl⟩ := ev'
  exact q _ R _ x0 (cel_of x0 (keep_upd hp) S.cell) (.inl ⟨rfl, p, rfl, hR, hp, .dK (kvs := []) (ds := []) upd_same .nil⟩)
theorem disp_of {ks : List Key} {es : IEs} (hc : consOnly es = true) (nd : ks.Nodup) (h15 : ks.length ≤ 15) : ∀ σ H Q, rd (kc X ct) Φ ct .F (.dct ks es) σ H Q → tDisp (trsOf (kc X ct) Φ ct ks es) σ H Q := fun σ H Q ⟨sp, R, ρ, c, d, c', S, ev, q⟩ => by
  intro p hp
  simp only [evE] at ev
  split at ev
  · rename_i l c1 e1
    split at ev
    · rename_i ds hd
      split at ev
      · rename_i hl
        cases ev
        have hR : R p = none := S.le.free hp
        have nsp : sp ≠ some p := fun z => by
          obtain ⟨o, w⟩ := (S.cel p z).2.there
          rw [hp] at w; cases w
        have x0 : Ext sp R H R (upd H p (.dK [])) := Ext.newO S.le hp
        refine tp_of hc (S.ext x0 (cel_of x0 (keep_upd hp) S.cell)) e1 hd hl fun vs R' H' x1 l1 r1 => ?_
        have hH : H' p = some (.dK []) := x1.keep p _ upd_same nsp
        have hR' : R' p = none := Ext.stay (K := kc X ct) x1 hR (.dK (kvs := []) (ds := []) upd_same .nil)
        have hlen : ks.length = vs.length := by rw [r1.length]; exact hl.symm
        obtain ⟨z1, z2⟩ := zip_keys hlen
        refine ⟨hH, ks.zip vs, rfl, by rw [List.length_zip]; omega, ?_⟩
        have hm : mergeK [] (ks.zip vs) = ks.zip vs := by
          have := merge_new (more := ks.zip vs) (kvs := []) (by rw [List.nil_append, z1]; exact nd)
          rw [List.nil_append] at this; exact this
        rw [hm]
        refine q _ R' _ (Ext.at (x0.trans x1) hp hR') (l1.at nsp) (.inl ⟨rfl, p, rfl, hR', hp, ?_⟩)
        have hk : ks.map kD = (ks.zip vs).map fun p => kD p.1 := by
          conv => lhs; rw [← z1]
          rw [List.map_map]; rfl
        rw [hk]
        exact .dK upd_same (by rw [z2]; exact r1)
      · cases ev
    · cases ev
  · cases ev
end
end Pv
end
section
set_option Elab.async false
set_option linter.all false
set_option maxRecDepth 100000
/-! Pv.V: the checker is right, for expressions. -/
namespace Pv
open PySem PySem.Spec L2
theorem and2 {a b : Bool} (h : (a && b) = true) : a = true ∧ b = true := by
  simpa only [Bool.and_eq_true] using h
theorem and3 {a b c : Bool} (h : (a && b && c) = true) : a = true ∧ b = true ∧ c = true := by
  simp only [Bool.and_eq_true] at h; exact ⟨h.1.1, h.1.2, h.2⟩
theorem evEs_len {Φ : List Fn} {ct : Ct} {T : Tb} {N : List Str} {sc : Scope} {fnk : Str → Bool} : ∀ {r : IEs} {xs : List Expr}, noStar xs = true → mtEs T N r sc fnk xs = true → ∀ ρ c l c', evEs Φ ct r ρ c = some (l, c') → l.length = xs.length
  | .nil, [], _, _, ρ, c, l, c', ev => by cases ev; rfl
  | .nil, _ :: _, _, h, _, _, _, _, _ => by cases h
  | .cons e r, [], _, h, _, _, _, _, _ => by cases h
  | .cons e r, x :: xs, hs, h, ρ, c, l, c', ev => by
    simp only [mtEs, Bool.and_eq_true] at h
    simp only [noStar, List.all_cons, Bool.and_eq_true] at hs
    simp only [evEs] at ev
    split at ev
    · split at ev
      · rename_i l1 c2 e2
        cases ev
        rw [List.length_cons, List.length_cons, evEs_len (r := r) (xs := xs) hs.2 h.2 _ _ _ _ e2]
      · cases ev
    · cases ev
  | .star e r, [], _, h, _, _, _, _, _ => by cases h
  | .star e r, x :: xs, hs, h, ρ, c, l, c', ev => by
    cases x <;> first
      | (exfalso; simp [mtEs] at h; done)
      | (exfalso; simp [noStar, notStar] at hs; done)
  | .cel i r, [], _, h, _, _, _, _, _ => by cases h
  | .cel i r, x :: xs, hs, h, ρ, c, l, c', ev => by
    cases x with
    | Name n p =>
      simp only [mtEs, Bool.and_eq_true] at h
      simp only [noStar, List.all_cons, Bool.and_eq_true] at hs
      simp only [evEs] at ev
      split at ev
      · split at ev
        · rename_i l1 c2 e2
          cases ev
          rw [List.length_cons, List.length_cons, evEs_len (r := r) (xs := xs) hs.2 h.2 _ _ _ _ e2]
        · cases ev
      · cases ev
    | _ => cases h
theorem blt_ne {X : Cx} {T : Tb} {Φ : List Fn} {ct : Ct} {N : List Str} {sc : Scope} {fnk : Str → Bool} (G : Gx X T Φ ct N sc fnk) {n : Str} (h : bltNames.contains n = true) : X.mg n = none := G.blt n (by simpa using h)
theorem bt_blt (b : Bt) (h : b ≠ .gcd) : bltNames.contains b.name = true := by cases b <;> first | exact absurd rfl h | decide
theorem ty_blt (t : Ty) : bltNames.contains (Str.ofString t.name) = true := by cases t <;> decide
theorem callX_eq {e : Expr} {n : Str} {args : List Expr} (h : callX e = some (n, args)) : ∃ p q, e = .Call (.Name n p) args [] q := by
  cases e with
  | Call f as ks q =>
    cases f with
    | Name m p =>
      cases ks with
      | nil => cases h; exact ⟨p, q, rfl⟩
      | cons _ _ => cases h
    | _ => cases h
  | _ => cases h
theorem soleX_eq {l : List Expr} {e : Expr} (h : soleX l = some e) : l = [e] := by
  match l, h with
  | [x], h => cases h; rfl
  | [], h => cases h
  | _ :: _ :: _, h => cases h
theorem rngX_eq {e : Expr} {n m : Str} {args : List Expr} (h : rngX e = some (n, m, args)) : ∃ p1 p2 p3 p4, e = .Call (.Name n p1) [.Call (.Name m p3) args [] p4] [] p2 := by
  unfold rngX at h
  split at h
  · rename_i x l h1
    split at h
    · rename_i a h2
      split at h
      · rename_i y as h3
        cases h
        obtain ⟨p1, p2, rfl⟩ := callX_eq h1
        cases soleX_eq h2
        obtain ⟨p3, p4, rfl⟩ := callX_eq h3
        exact ⟨p1, p2, p3, p4, rfl⟩
      · cases h
    · cases h
  · cases h
theorem keysX_len : ∀ {keys : List (Option Expr)} {ks : List Key}, keysX keys = some ks → keys.length = ks.length ∧ keys.all (·.isSome) = true
  | [], ks, h => by cases h; exact ⟨rfl, rfl⟩
  | e :: r, ks, h => by
    simp only [keysX] at h
    split at h
    · rename_i k ks' h1 h2
      cases h
      obtain ⟨i1, i2⟩ := keysX_len h2
      refine ⟨by rw [List.length_cons, List.length_cons, i1], ?_⟩
      rw [List.all_cons, i2]
      cases e with
      | none => cases h1
      | some _ => rfl
    · cases h
theorem keyX_pe {X : Cx} {e : Option Expr} {k : Key} (h : keyX e = some k) : ∃ x, e = some x ∧ PE X x (tC (kV k)) := by
  unfold keyX at h
  split at h
  · cases h; exact ⟨_, rfl, pe_int⟩
  · cases h; exact ⟨_, rfl, pe_str⟩
  · cases h
set_option maxHeartbeats 1600000
mutual
theorem soE {T : Tb} {Φ : List Fn} {ct : Ct} {N : List Str} : ∀ (ir : IE) {X : Cx} {sc : Scope} {fnk : Str → Bool} (G : Gx X T Φ ct N sc fnk) {x : Expr}, mtE T N ir sc fnk x = true → Ok4 X T Φ ct ir x
  | .var i, X, sc, fnk, G, x, h => by
    cases x with
    | Name n p =>
      obtain ⟨h1, h2⟩ := Bool.and_eq_true_iff.mp h
      obtain ⟨v1, v2, v3⟩ := vis_of G h2
      exact okS (pv_var (nm_of G h1) v1 v2 v3) (fun z => by cases z) fun _ => rfl
    | _ => cases h
  | .bor i, X, sc, fnk, G, x, h => by
    cases x with
    | Name n p =>
      obtain ⟨h1, h2⟩ := Bool.and_eq_true_iff.mp h
      obtain ⟨v1, v2, v3⟩ := vis_of G h2
      have := pv_bor (X := X) (Φ := Φ) (ct := ct) (pos := p) (nm_of G h1) v1 v2 v3
      exact ⟨this, (fun z => by cases z), (fun z => by cases z), pt_of this fun _ => rfl⟩
    | _ => cases h
  | .cst k, X, sc, fnk, G, x, h => by
    cases x with
    | Name n p =>
      obtain ⟨h1, h2⟩ := Bool.and_eq_true_iff.mp h
      obtain ⟨g1, g2, g3⟩ := gl_of G.sc h2
      obtain ⟨v, u, d0, m1, m2, m3, m4⟩ := G.cst k n (of_decide_eq_true h1)
      exact okS (pv_cst g1 m1 m2 m3 m4 g2) (fun z => by cases z) fun _ => rfl
    | _ => cases h
  | .int i, X, sc, fnk, G, x, h => by
    cases x with
    | Constant k j p =>
      cases k with
      | int l => cases of_decide_eq_true h; exact okS pv_int (fun z => by cases z) fun _ => rfl
      | _ => cases h
    | _ => cases h
  | .str i, X, sc, fnk, G, x, h => by
    cases x with
    | Constant k j p =>
      cases k with
      | str l => cases of_decide_eq_true h; exact okS pv_str (fun z => by cases z) fun _ => rfl
      | _ => cases h
    | _ => cases h
  | .bl i, X, sc, fnk, G, x, h => by
    cases x with
    | Constant k j p =>
      cases k with
      | bool l => cases eq_of_beq h; exact okS pv_bl (fun z => by cases z) fun _ => rfl
      | _ => cases h
    | _ => cases h
  | .non, X, sc, fnk, G, x, h => by
    cases x with
    | Constant k j p =>
      cases k with
      | none => exact okS pv_non (fun z => by cases z) fun _ => rfl
      | _ => cases h
    | _ => cases h
  | .bin op a b, X, sc, fnk, G, x, h => by
    cases x with
    | BinOp l o r p =>
      obtain ⟨h1, h2, h3⟩ := and3 h
      cases opC_eq h1
      exact okF (pv_bin (soE a G h2).b (soE b G h3).b) fun _ => rfl
    | _ => cases h
  | .rep a b, X, sc, fnk, G, x, h => by
    cases x with
    | BinOp l o r p =>
      cases o with
      | Mult =>
        obtain ⟨h1, h2⟩ := and2 h
        exact okF (pv_rep (soE a G h1).b (soE b G h2).b) fun _ => rfl
      | _ => cases h
    | _ => cases h
  | .neg a, X, sc, fnk, G, x, h => by
    cases x with
    | UnaryOp o e p =>
      cases o with
      | USub => exact okS (pv_neg (soE a G h).b) (fun z => by cases z) fun _ => rfl
      | _ => cases h
    | _ => cases h
  | .not_ a, X, sc, fnk, G, x, h => by
    cases x with
    | UnaryOp o e p =>
      cases o with
      | Not => exact okT (pv_not (soE a G h).b) rfl (pt_notv (soE a G h).t)
      | _ => cases h
    | _ => cases h
  | .cmp op a b, X, sc, fnk, G, x, h => by
    cases x with
    | Compare l os rs p =>
      match os, rs, h with
      | [o], [r], h =>
        simp only [mtE, Bool.and_eq_true, Bool.not_eq_true'] at h
        obtain ⟨⟨⟨h1, h2⟩, h3⟩, h4⟩ := h
        cases cmpC_eq h1
        have hu := G.hu
        exact okT (pv_cmp (by omega) (soE a G h2).b (soE b G h3).b h4) rfl (pt_cmpv (by omega) (soE a G h2).b (soE b G h3).b h4)
      | [], _, h => cases h
      | [_], [], h => cases h
      | [_], _ :: _ :: _, h => cases h
      | _ :: _ :: _, _, h => cases h
    | _ => cases h
  | .chain op op' a b c, X, sc, fnk, G, x, h => by
    cases x with
    | Compare l os rs p =>
      match os, rs, h with
      | [o, o'], [r, r'], h =>
        simp only [mtE, Bool.and_eq_true] at h
        obtain ⟨⟨⟨⟨⟨⟨h1, h2⟩, h3⟩, h4⟩, h5⟩, h6⟩, h7⟩ := h
        cases cmpC_eq h1
        cases cmpC_eq h2
        have hu := G.hu
        exact okT (pv_chain (by omega) (soE a G h5).b (soE b G h6).b (soE c G h7).b (last_plain h4)) rfl (pt_chainv (by omega) (soE a G h5).b (soE b G h6).b (soE c G h7).b (last_plain h4))
      | [], _, h => cases h
      | [_], [], h => cases h
      | [_], _ :: _, h => cases h
      | [_, _], [], h => cases h
      | [_, _], [_], h => cases h
      | [_, _], _ :: _ :: _ :: _, h => cases h
      | _ :: _ :: _ :: _, _, h => cases h
    | _ => cases h
  | .bop isAnd es, X, sc, fnk, G, x, h => by
    cases x with
    | BoolOp o vs p =>
      obtain ⟨h1, h2, h3⟩ := and3 h
      have hn : vs ≠ [] := by rintro rfl; cases h3
      obtain ⟨q1, q2⟩ := soB es G h1 h2 (p := p) hn
      exact okT q1 rfl q2.pt
    | _ => cases h
  | .ife c a b, X, sc, fnk, G, x, h => by
    cases x with
    | IfExp t u v p =>
      obtain ⟨h1, h2, h3⟩ := and3 h
      have oc := soE c G h1
      have oa := soE a G h2
      have ob := soE b G h3
      refine ⟨pv_ife oc.t oa.b ob.b, fun z => ?_, fun z => ?_, pt_ife oc.t oa.t ob.t⟩
      · obtain ⟨z1, z2⟩ := Bool.and_eq_true_iff.mp z
        exact pv_ife oc.t (oa.s z1) (ob.s z2)
      · obtain ⟨z1, z2⟩ := Bool.and_eq_true_iff.mp z
        exact pv_ife oc.t (oa.f z1) (ob.f z2)
    | _ => cases h
  | .ix a b, X, sc, fnk, G, x, h => by
    cases x with
    | Subscript l r p =>
      obtain ⟨h1, h2, h3⟩ := and3 h
      have hu := G.hu
      exact okS (pv_ix (by omega) (soE a G h1).b (soE b G h2).b (ixOk_plain h3)) (fun z => by cases z) fun _ => rfl
    | _ => cases h
  | .cix i k, X, sc, fnk, G, x, h => by
    cases x with
    | Subscript l r p =>
      cases l with
      | Name n q =>
        cases r with
        | Constant q2 j p2 =>
          have hu := G.hu
          cases k with
          | inl k =>
            cases q2 with
            | int m =>
              obtain ⟨h1, h2, h3⟩ := and3 h
              obtain ⟨v1, v2, v3⟩ := vis_of G h2
              cases of_decide_eq_true h3
              exact okS (pv_cix (by omega) (nm_of G h1) v1 v2 v3 pe_int (fun _ _ => rfl)) (fun z => by cases z) fun _ => rfl
            | _ => cases h
          | inr k =>
            cases q2 with
            | str m =>
              obtain ⟨h1, h2, h3⟩ := and3 h
              obtain ⟨v1, v2, v3⟩ := vis_of G h2
              cases of_decide_eq_true h3
              exact okS (pv_cix (by omega) (nm_of G h1) v1 v2 v3 pe_str (fun _ _ => rfl)) (fun z => by cases z) fun _ => rfl
            | _ => cases h
        | _ => cases k <;> cases h
      | _ => cases k <;> cases h
    | _ => cases k <;> cases h
  | .sl a lo hi, X, sc, fnk, G, x, h => by
    cases x with
    | Subscript l r p =>
      cases r with
      | Slice y z s p2 =>
        cases s with
        | none =>
          obtain ⟨h1, h2, h3⟩ := and3 h
          exact okF (pv_sl (soE a G h1).b (soO lo G h2) (soO hi G h3)) fun _ => rfl
        | some _ => cases h
      | _ => cases h
    | _ => cases h
  | .rev a, X, sc, fnk, G, x, h => by
    cases x with
    | Subscript l r p =>
      cases r with
      | Slice y z s p2 =>
        match y, z, s, h with
        | none, none, some (.UnaryOp .USub (.Constant (.int i) k p3) p4), h =>
          simp only [mtE, Bool.and_eq_true, decide_eq_true_eq] at h
          obtain ⟨rfl, h1⟩ := h
          exact okF (pv_rev (soE a G h1).b) fun _ => rfl
      | _ => cases h
    | _ => cases h
  | .tup es, X, sc, fnk, G, x, h => by
    cases x with
    | Tuple l k p => exact okS (pv_tup (soA es G h)) (fun z => by cases z) fun _ => rfl
    | _ => cases h
  | .lst es, X, sc, fnk, G, x, h => by
    cases x with
    | List l p => exact okF (pv_lst (soA es G h)) fun _ => rfl
    | _ => cases h
  | .call k es, X, sc, fnk, G, x, h => by
    cases x with
    | Call fn args kws p =>
      cases fn with
      | Name n q =>
        cases kws with
        | nil =>
          simp only [mtE, Bool.and_eq_true, Bool.not_eq_true'] at h
          obtain ⟨⟨⟨⟨h1, h2⟩, h3⟩, h4⟩, h5⟩ := h
          cases hk : T.cs[k]? with
          | none => rw [hk] at h1; cases h1
          | some e =>
            obtain ⟨y, ps, fo⟩ := e
            rw [hk] at h1
            simp only [Bool.and_eq_true, decide_eq_true_eq] at h1
            obtain ⟨rfl, hl⟩ := h1
            obtain ⟨f, hf, has⟩ := G.fns k n ps fo hk
            obtain ⟨g1, g2, g3⟩ := gl_of G.sc h2
            have hA := soA es G h3
            cases args with
            | nil => cases h5
            | cons e0 es0 =>
              have hs := h4
              simp only [noStar, List.all_cons, Bool.and_eq_true] at hs
              have hp := pv_call (Φ := Φ) (ct := ct) (pos := p) (p := q) has hf g1 g2 G.gd hl hs.1 hs.2 hA
              cases fo with
              | true => exact okF hp fun _ => rfl
              | false => exact okS hp (fun z => by simp only [frB, hk] at z; cases z) fun _ => rfl
        | cons _ _ => cases h
      | _ => cases h
    | _ => cases h
  | .callK k es ws perm, X, sc, fnk, G, x, h => by
    cases x with
    | Call fn args kws p =>
      cases fn with
      | Name n q =>
        simp only [mtE, Bool.and_eq_true, Bool.not_eq_true'] at h
        obtain ⟨⟨⟨⟨⟨⟨h1, h2⟩, h3⟩, h4⟩, h5⟩, h4'⟩, h6⟩ := h
        cases hk : T.cs[k]? with
        | none => rw [hk] at h1; cases h1
        | some e =>
          obtain ⟨y, ps, fo⟩ := e
          cases hn : kwNames kws with
          | none => rw [hk, hn] at h1; cases h1
          | some ns =>
            rw [hk, hn] at h1
            simp only [Bool.and_eq_true, decide_eq_true_eq] at h1
            obtain ⟨rfl, hp⟩ := h1
            obtain ⟨f, hf, has⟩ := G.fns k n ps fo hk
            obtain ⟨g1, g2, g3⟩ := gl_of G.sc h2
            have hA := soA es G h3
            have hW := soK ws G kws (ns := ns) hn h4' h4
            have hp := pv_callK (Φ := Φ) (ct := ct) (pos := p) (p := q) has hf g1 g2 G.gd hp hn h5 (fun z => by
              subst z
              cases es with
              | nil => rfl
              | _ => cases h3) hA hW.1 (evEs_len h5 h3) hW.2
            cases fo with
            | true => exact okF hp fun _ => rfl
            | false => exact okS hp (fun z => by simp only [frB, hk] at z; cases z) fun _ => rfl
      | _ => cases h
    | _ => cases h
  | .bt b es, X, sc, fnk, G, x, h => by
    cases x with
    | Call fn args kws p =>
      cases fn with
      | Name n q =>
        cases kws with
        | nil =>
          simp only [mtE, Bool.and_eq_true, Bool.not_eq_true', decide_eq_true_eq] at h
          obtain ⟨⟨⟨⟨⟨rfl, h2⟩, h3⟩, h4⟩, h5⟩, h6⟩ := h
          cases args with
          | nil => cases h6
          | cons e0 es0 =>
            have hs := h5
            simp only [noStar, List.all_cons, Bool.and_eq_true] at hs
            obtain ⟨g1, g2, g3⟩ := gl_of G.sc h3
            have hu := G.hu
            have hp := pv_bt (Φ := Φ) (ct := ct) (pos := p) (p := q) (bt := b) G.calm (by omega) G.gd g1 (fun z => blt_ne G (bt_blt b z)) (fun z => G.gcd (by
              rcases Bool.or_eq_true_iff.mp h2 with w | w
              · exact w
              · exact absurd z (of_decide_eq_true w))) hs.1 hs.2 (soL es G h4)
            exact okF hp fun _ => rfl
        | cons _ _ => cases h
      | _ => cases h
    | _ => cases h
  | .xv mx a, X, sc, fnk, G, x, h => by
    have h : (match xvX x with
      | some (x, o, y, l) => decide (x = (if mx = true then ("max" : Str) else ("min" : Str))) && glC sc x && decide (y = ("values" : Str)) && mtE T N a sc fnk o && l
      | none => false) = true := h
    cases hr : xvX x with
    | none => rw [hr] at h; cases h
    | some q =>
      obtain ⟨m, o, y, l⟩ := q
      rw [hr] at h
      simp only [Bool.and_eq_true, decide_eq_true_eq] at h
      obtain ⟨⟨⟨⟨rfl, h2⟩, rfl⟩, h4⟩, h5⟩ := h
      obtain ⟨p1, n, p, q, p2, pos, rfl, rfl, e3⟩ := xvX_eq hr
      rw [e3] at h5
      obtain ⟨g1, g2, g3⟩ := gl_of G.sc h2
      have hm : X.mg (if mx = true then ("max" : Str) else ("min" : Str)) = none := by cases mx <;> exact blt_ne G (by decide)
      exact okS (pv_xv G.calm g1 hm (soE a G h4).b rfl h5) (fun z => by cases z) fun _ => rfl
  | .isi t a, X, sc, fnk, G, x, h => by
    cases x with
    | Call fn args kws p =>
      cases fn with
      | Name n q =>
        cases args with
        | nil => cases kws <;> cases h
        | cons e r =>
          cases r with
          | nil => cases kws <;> cases h
          | cons y r =>
            cases r with
            | cons _ _ => cases kws <;> cases y <;> cases h
            | nil =>
              cases kws with
              | cons _ _ => cases y <;> cases h
              | nil =>
                cases y with
                | Name m q2 =>
                  simp only [mtE, Bool.and_eq_true, decide_eq_true_eq] at h
                  obtain ⟨⟨⟨⟨⟨rfl, h2⟩, rfl⟩, h4⟩, h5⟩, h6⟩ := h
                  obtain ⟨g1, g2, g3⟩ := gl_of G.sc h2
                  obtain ⟨k1, k2, k3⟩ := gl_of G.sc h4
                  simp only [noStar, List.all_cons, Bool.and_eq_true] at h6
                  exact okS (pv_isi (p2 := q) g1 (blt_ne G (by decide)) k1 (blt_ne G (ty_blt t)) h6.1 (soE a G h5).b) (fun z => by cases z) fun _ => rfl
                | _ => cases h
      | _ => cases h
    | _ => cases h
  | .meth m a es, X, sc, fnk, G, x, h => by
    cases x with
    | Call fn args kws p =>
      cases fn with
      | Attribute o y q =>
        cases o with
        | Name n p2 =>
          cases kws with
          | cons _ _ => cases h
          | nil =>
            simp only [mtE, Bool.and_eq_true, decide_eq_true_eq] at h
            obtain ⟨⟨⟨⟨⟨rfl, h2⟩, h3⟩, h4⟩, h5⟩, h6⟩ := h
            have oa := soE a G (x := .Name n p2) h2
            have hL := soL es G h3
            have hu := G.hu
            cases m with
            | count =>
              match args, h5, h4, hL with
              | [e], _, h4, hL =>
                simp only [noStar, List.all_cons, Bool.and_eq_true] at h4
                exact okS (pv_count oa.b hL h4.1 h6) (fun z => by cases z) fun _ => rfl
              | [], h5, _, _ => exact absurd h5 (by simp)
              | _ :: _ :: _, h5, _, _ => exact absurd h5 (by simp)
            | get =>
              match args, h5, h4, hL with
              | [e, e2], _, h4, hL =>
                simp only [noStar, List.all_cons, Bool.and_eq_true] at h4
                have := pv_get (Φ := Φ) (ct := ct) (pos := p) (apos := q) (by omega) oa.b hL h4.1 h4.2.1 h6
                refine ⟨this, (fun z => ?_), (fun z => by cases z), pt_of this fun _ => rfl⟩
                obtain ⟨e1, i0, hr⟩ := shB_get z
                exact pv_getS (Φ := Φ) (ct := ct) (pos := p) (apos := q) (by omega) oa.b hr hL h4.1 h4.2.1 h6
              | [], h5, _, _ => exact absurd h5 (by simp)
              | [_], h5, _, _ => exact absurd h5 (by simp)
              | _ :: _ :: _ :: _, h5, _, _ => exact absurd h5 (by simp)
        | _ => cases h
      | _ => cases es <;> cases h
    | _ => cases h
  | .rngL isT es, X, sc, fnk, G, x, h => by
    have bx : X.mg (if isT then "tuple" else "list") = none := by cases isT <;> exact blt_ne G (by decide)
    have h : (match rngX x with
      | some (x, y, args) => decide (x = (if isT then ("tuple" : Str) else ("list" : Str))) && glC sc x && decide (y = ("range" : Str)) && glC sc y && mtL T N es sc fnk args && noStar args && rngSh es
      | none => false) = true := h
    cases hr : rngX x with
    | none => rw [hr] at h; cases h
    | some q =>
      obtain ⟨n, m, args⟩ := q
      rw [hr] at h
      simp only [Bool.and_eq_true, decide_eq_true_eq] at h
      obtain ⟨⟨⟨⟨⟨⟨rfl, h2⟩, rfl⟩, h4⟩, h5⟩, h6⟩, h7⟩ := h
      obtain ⟨p1, p2, p3, p4, rfl⟩ := rngX_eq hr
      obtain ⟨g1, _, _⟩ := gl_of G.sc h2
      obtain ⟨k1, _, _⟩ := gl_of G.sc h4
      match es, args, h5, h6, h7 with
      | .cons a .nil, [e], h5, h6, _ =>
        obtain ⟨q1, q2, q3⟩ := and3 h5
        exact okF (pv_rng1 G.calm g1 bx k1 (blt_ne G (by decide)) (soE a G q1).b q2) fun _ => rfl
      | .cons a (.cons b .nil), [e, e2], h5, h6, _ =>
        obtain ⟨q1, q2, q3⟩ := and3 h5
        obtain ⟨q4, q5, q6⟩ := and3 q3
        exact okF (pv_rng2 G.calm g1 bx k1 (blt_ne G (by decide)) (soE a G q1).b q2 (soE b G q4).b q5) fun _ => rfl
      | .cons a .nil, [], h5, _, _ => cases h5
      | .cons a .nil, _ :: _ :: _, h5, _, _ => cases (and3 h5).2.2
      | .cons a (.cons b .nil), [], h5, _, _ => cases h5
      | .cons a (.cons b .nil), [_], h5, _, _ => cases (and3 h5).2.2
      | .cons a (.cons b .nil), _ :: _ :: _ :: _, h5, _, _ => cases (and3 (and3 h5).2.2).2.2
      | .nil, _, _, _, h7 => cases h7
      | .star _ _, _, _, _, h7 => cases h7
      | .cel _ _, _, _, _, h7 => cases h7
      | .cons _ (.star _ _), _, _, _, h7 => cases h7
      | .cons _ (.cel _ _), _, _, _, h7 => cases h7
      | .cons _ (.cons _ (.cons _ _)), _, _, _, h7 => cases h7
      | .cons _ (.cons _ (.star _ _)), _, _, _, h7 => cases h7
      | .cons _ (.cons _ (.cel _ _)), _, _, _, h7 => cases h7
  | .dct ks es, X, sc, fnk, G, x, h => by
    cases x with
    | Dict keys vals p =>
      simp only [mtE, Bool.and_eq_true, decide_eq_true_eq, Bool.not_eq_true'] at h
      obtain ⟨⟨⟨⟨⟨h1, h2⟩, h3⟩, h4⟩, h6⟩, h7⟩ := h
      obtain ⟨k1, k2⟩ := keysX_len h1
      by_cases hne : keys = []
      · subst hne
        have hks : ks = [] := by cases h1; rfl
        have hv : vals = [] := List.length_eq_zero_iff.mp h3.symm
        subst hks hv
        have he : es = .nil := by cases es <;> first | rfl | cases h7
        subst he
        exact okF (pe_weak pe_dnewK disp0_of) fun _ => rfl
      exact okF (pe_weak (pe_disp (soD es G h6 h1 h3 h7) k2 h3 hne h4) (disp_of h6 h2 (by rw [← k1]; exact h4))) fun _ => rfl
    | _ => cases h
  | .callW k k2 es, X, sc, fnk, G, x, h => by
    have h : (match rngX x with
      | some (x, y, args) => (match T.cs[k]? with | some (z, ps, b) => decide (x = z) && decide (ps.length = 1) && !b | none => false) && glC sc x && (match T.cs[k2]? with | some (z, ps, b) => decide (y = z) && decide (args.length = ps.length) && b | none => false) && glC sc y && mtEs T N es sc fnk args && noStar args && !args.isEmpty
      | none => false) = true := h
    cases hr : rngX x with
    | none => rw [hr] at h; cases h
    | some q =>
      obtain ⟨n, m, args⟩ := q
      rw [hr] at h
      cases hk : T.cs[k]? with
      | none => rw [hk] at h; cases h
      | some e =>
        obtain ⟨y, ps, fo⟩ := e
        cases hk2 : T.cs[k2]? with
        | none => rw [hk, hk2] at h; simp at h
        | some e2 =>
          obtain ⟨y2, ps2, fo2⟩ := e2
          rw [hk, hk2] at h
          simp only [Bool.and_eq_true, decide_eq_true_eq, Bool.not_eq_true'] at h
          obtain ⟨⟨⟨⟨⟨⟨⟨⟨rfl, a2⟩, rfl⟩, a4⟩, ⟨⟨rfl, b2⟩, rfl⟩⟩, a5⟩, a6⟩, a7⟩, a8⟩ := h
          obtain ⟨p1, p2, p3, p4, rfl⟩ := rngX_eq hr
          obtain ⟨f, hf, has⟩ := G.fns k _ ps _ hk
          obtain ⟨g, hf2, has2⟩ := G.fns k2 _ ps2 _ hk2
          obtain ⟨g1, g2, g3⟩ := gl_of G.sc a4
          obtain ⟨i1, i2, i3⟩ := gl_of G.sc a5
          have hA := soA es G a6
          cases args with
          | nil => cases a8
          | cons e0 es0 =>
            simp only [noStar, List.all_cons, Bool.and_eq_true] at a7
            exact okS (pv_callW has hf g1 g2 a2 has2 hf2 i1 i2 G.gd b2 a7.1 a7.2 hA) (fun z => by cases z) fun _ => rfl
  | .comp own tg it ifs elt, X, sc, fnk, G, x, h => by
    cases x with
    | ListComp e gs scope p =>
      match gs, h with
      | [⟨tgt, iter, cs, a⟩], h =>
        simp only [mtE, Bool.and_eq_true, decide_eq_true_eq] at h
        obtain ⟨⟨⟨⟨⟨⟨⟨⟨⟨rfl, h1⟩, h2⟩, h3⟩, h4⟩, h5⟩, h6⟩, h7⟩, h8⟩, h9⟩ := h
        rw [← G.N, ← G.sc] at h1
        refine okF (pv_comp G.calm G.nd (blkOk_by h1) h4 (soI it G h3) (fold_no h2 _) (fun s H C cl fp => ?_) (fun s H C cl fp => ?_) (fun s H C cl fp => (soE elt (G.blk s H scope C cl fp) h7).s h8)) fun _ => rfl
        · have G' := G.blk s H scope C cl fp
          rw [← G'.N] at h5
          exact pg_tg G'.calm G'.nd G'.sc G'.fn h5
        · have G' := G.blk s H scope C cl fp
          exact soC ifs G' h6 h9
      | [], h => cases h
      | ⟨_, _, _, _⟩ :: ⟨_, _, _, _⟩ :: _, h => cases h
    | _ => cases h
  | .comp2 own tg it ifs tg2 it2 ifs2 elt, X, sc, fnk, G, x, h => by
    cases x with
    | ListComp e gs scope p =>
      match gs, h with
      | [⟨tgt, iter, cs, a⟩, ⟨tgt2, iter2, cs2, a2⟩], h =>
        simp only [mtE, Bool.and_eq_true, decide_eq_true_eq] at h
        obtain ⟨⟨⟨⟨⟨⟨⟨⟨⟨⟨⟨⟨⟨⟨⟨⟨rfl, rfl⟩, h1⟩, h2⟩, h2'⟩, h3⟩, h4⟩, h4'⟩, h5⟩, h6⟩, h3'⟩, h5'⟩, h6'⟩, h7⟩, h8⟩, h9⟩, h9'⟩ := h
        rw [← G.N, ← G.sc] at h1
        refine okF (pv_comp2 G.calm G.nd (blkOk_by h1) h4 h4' (soI it G h3) (fold_no h2 _) (fold_no h2') (fun s H C cl fp => ?_) (fun s H C cl fp => ?_) (fun s H C cl fp => soI it2 (G.blk s H scope C cl fp) h3') (fun s H C cl fp => ?_) (fun s H C cl fp => ?_) (fun s H C cl fp => (soE elt (G.blk s H scope C cl fp) h7).s h8)) fun _ => rfl
        · have G' := G.blk s H scope C cl fp
          rw [← G'.N] at h5
          exact pg_tg G'.calm G'.nd G'.sc G'.fn h5
        · have G' := G.blk s H scope C cl fp
          exact soC ifs G' h6 h9
        · have G' := G.blk s H scope C cl fp
          rw [← G'.N] at h5'
          exact pg_tg G'.calm G'.nd G'.sc G'.fn h5'
        · have G' := G.blk s H scope C cl fp
          exact soC ifs2 G' h6' h9'
      | [], h => cases h
      | [⟨_, _, _, _⟩], h => cases h
      | ⟨_, _, _, _⟩ :: ⟨_, _, _, _⟩ :: ⟨_, _, _, _⟩ :: _, h => cases h
    | _ => cases h
theorem soA {T : Tb} {Φ : List Fn} {ct : Ct} {N : List Str} : ∀ (es : IEs) {X : Cx} {sc : Scope} {fnk : Str → Bool} (G : Gx X T Φ ct N sc fnk) {xs : List Expr}, mtEs T N es sc fnk xs = true → PA X xs (rdA (kc X ct) Φ ct es)
  | .nil, X, sc, fnk, G, xs, h => by
    cases xs with
    | nil => exact qa_nil
    | cons _ _ => cases h
  | .cons e r, X, sc, fnk, G, xs, h => by
    cases xs with
    | nil => cases h
    | cons x xs =>
      simp only [mtEs, Bool.and_eq_true] at h
      obtain ⟨⟨⟨h1, h2⟩, h3⟩, h4⟩ := h
      exact qa_cons ((soE e G h1).s h2) h3 (soA r G h4)
  | .star e r, X, sc, fnk, G, xs, h => by
    cases xs with
    | nil => cases h
    | cons x xs =>
      cases x with
      | Starred y p =>
        obtain ⟨h1, h2, h3⟩ := and3 h
        exact qa_star ((soE e G h1).s h2) (soA r G h3)
      | _ => cases h
  | .cel i r, X, sc, fnk, G, xs, h => by
    cases xs with
    | nil => cases h
    | cons x xs =>
      cases x with
      | Name n p =>
        obtain ⟨h1, h2, h3⟩ := and3 h
        obtain ⟨v1, v2, v3⟩ := vis_of G h2
        exact qa_cel (nm_of G h1) v1 v2 v3 (soA r G h3)
      | _ => cases h
theorem soK {T : Tb} {Φ : List Fn} {ct : Ct} {N : List Str} : ∀ (es : IEs) {X : Cx} {sc : Scope} {fnk : Str → Bool} (G : Gx X T Φ ct N sc fnk) (ks : List Keyword) {ns : List Str}, kwNames ks = some ns → noStar (kwVals ks) = true → mtEs T N es sc fnk (kwVals ks) = true → PK X ks (rdA (kc X ct) Φ ct es) ∧ ∀ ρ c l c', evEs Φ ct es ρ c = some (l, c') → l.length = (kwVals ks).length
  | .nil, X, sc, fnk, G, ks, ns, hn, hns, h => by
    cases ks with
    | nil => exact ⟨qk_nil, fun ρ c l c' ev => by cases ev; rfl⟩
    | cons _ _ => cases h
  | .cons e r, X, sc, fnk, G, ks, ns, hn, hns, h => by
    cases ks with
    | nil => cases h
    | cons k ks =>
      obtain ⟨nm, v, kp⟩ := k
      cases nm with
      | none => cases hn
      | some nm =>
        obtain ⟨l, hl, rfl⟩ := Option.map_eq_some_iff.mp (show (kwNames ks).map (fun l => nm :: l) = some ns from hn)
        have h : (mtE T N e sc fnk v && shB e && notStar v && mtEs T N r sc fnk (kwVals ks)) = true := h
        simp only [Bool.and_eq_true] at h
        obtain ⟨⟨⟨h1, h2⟩, h3⟩, h4⟩ := h
        obtain ⟨i1, i2⟩ := soK r G ks hl (by simp only [kwVals, noStar, List.map_cons, List.all_cons, Bool.and_eq_true] at hns ⊢; exact hns.2) h4
        refine ⟨qk_cons ((soE e G h1).s h2) i1, fun ρ c l c' ev => ?_⟩
        simp only [evEs] at ev
        split at ev
        · split at ev
          · rename_i l1 c2 e2
            cases ev
            have := i2 _ _ _ _ e2
            simp only [kwVals, List.map_cons, List.length_cons] at this ⊢
            rw [this]
          · cases ev
        · cases ev
  | .star e r, X, sc, fnk, G, ks, ns, hn, hns, h => by
    cases ks with
    | nil => cases h
    | cons k ks =>
      obtain ⟨nm, v, kp⟩ := k
      cases v with
      | Starred y p =>
        exact absurd hns (by simp [kwVals, noStar, notStar])
      | _ => cases h
  | .cel i r, X, sc, fnk, G, ks, ns, hn, hns, h => by
    cases ks with
    | nil => cases h
    | cons k ks =>
      obtain ⟨nm, v, kp⟩ := k
      cases v with
      | Name n p =>
        cases nm with
        | none => cases hn
        | some nm =>
          obtain ⟨l, hl, rfl⟩ := Option.map_eq_some_iff.mp (show (kwNames ks).map (fun l => nm :: l) = some ns from hn)
          have h : (nmC N i n && visC sc n && mtEs T N r sc fnk (kwVals ks)) = true := h
          obtain ⟨h1, h2, h4⟩ := and3 h
          obtain ⟨v1, v2, v3⟩ := vis_of G h2
          obtain ⟨i1, i2⟩ := soK r G ks hl (by simp only [kwVals, noStar, List.map_cons, List.all_cons, Bool.and_eq_true] at hns ⊢; exact hns.2) h4
          refine ⟨qk_cel (nm_of G h1) v1 v2 v3 i1, fun ρ c l c' ev => ?_⟩
          simp only [evEs] at ev
          split at ev
          · split at ev
            · rename_i l1 c2 e2
              cases ev
              have := i2 _ _ _ _ e2
              simp only [kwVals, List.map_cons, List.length_cons] at this ⊢
              rw [this]
            · cases ev
          · cases ev
      | _ => cases h
theorem soD {T : Tb} {Φ : List Fn} {ct : Ct} {N : List Str} : ∀ (es : IEs) {X : Cx} {sc : Scope} {fnk : Str → Bool} (G : Gx X T Φ ct N sc fnk) {pos : Pos} {keys : List (Option Expr)} {ks : List Key} {vals : List Expr}, consOnly es = true → keysX keys = some ks → keys.length = vals.length → mtEs T N es sc fnk vals = true → PPs X pos keys vals (trsOf (kc X ct) Φ ct ks es)
  | .nil, X, sc, fnk, G, pos, keys, ks, vals, hc, hk, hl, h => by
    cases vals with
    | nil =>
      have : keys = [] := List.length_eq_zero_iff.mp hl
      subst this
      cases hk
      exact pps_nil
    | cons _ _ => cases h
  | .cons e r, X, sc, fnk, G, pos, keys, ks, vals, hc, hk, hl, h => by
    cases vals with
    | nil => cases h
    | cons v vals =>
      cases keys with
      | nil => cases hl
      | cons k0 keys =>
        simp only [keysX] at hk
        split at hk
        · rename_i k ks' h1 h2
          cases hk
          simp only [mtEs, Bool.and_eq_true] at h
          obtain ⟨⟨⟨a1, a2⟩, a3⟩, a4⟩ := h
          obtain ⟨x, rfl, hx⟩ := keyX_pe (X := X) h1
          exact pps_cons hx ((soE e G a1).s a2) (soD r G hc h2 (by simpa using hl) a4)
        · cases hk
  | .star e r, X, sc, fnk, G, pos, keys, ks, vals, hc, hk, hl, h => by cases hc
  | .cel i r, X, sc, fnk, G, pos, keys, ks, vals, hc, hk, hl, h => by cases hc
theorem soL {T : Tb} {Φ : List Fn} {ct : Ct} {N : List Str} : ∀ (es : IEs) {X : Cx} {sc : Scope} {fnk : Str → Bool} (G : Gx X T Φ ct N sc fnk) {xs : List Expr}, mtL T N es sc fnk xs = true → PA X xs (rdB (kc X ct) Φ ct es)
  | .nil, X, sc, fnk, G, xs, h => by
    cases xs with
    | nil => exact qb_nil
    | cons _ _ => cases h
  | .cons e r, X, sc, fnk, G, xs, h => by
    cases xs with
    | nil => cases h
    | cons x xs =>
      obtain ⟨h1, h2, h3⟩ := and3 h
      exact qb_cons (soE e G h1).b h2 (soL r G h3)
  | .star e r, X, sc, fnk, G, xs, h => by cases xs <;> cases h
  | .cel i r, X, sc, fnk, G, xs, h => by cases xs <;> cases h
theorem soB {T : Tb} {Φ : List Fn} {ct : Ct} {N : List Str} : ∀ (es : IEs) {X : Cx} {sc : Scope} {fnk : Str → Bool} (G : Gx X T Φ ct N sc fnk) {isAnd : Bool} {o : BoolOp} {xs : List Expr} {p : Pos}, (match o with | .And => isAnd | .Or => !isAnd) = true → mtB T N es sc fnk xs = true → xs ≠ [] → PE X (.BoolOp o xs p) (rd (kc X ct) Φ ct .S (.bop isAnd es)) ∧ PW X (.BoolOp o xs p) (rdT (kc X ct) Φ ct (.bop isAnd es))
  | .nil, X, sc, fnk, G, isAnd, o, xs, p, ho, h, hn => by
    cases xs with
    | nil => exact absurd rfl hn
    | cons _ _ => cases h
  | .cons e r, X, sc, fnk, G, isAnd, o, xs, p, ho, h, hn => by
    cases xs with
    | nil => cases h
    | cons x xs =>
      obtain ⟨h1, h2, h3⟩ := and3 h
      have oe := soE e G h1
      cases xs with
      | nil =>
        cases r with
        | nil => exact ⟨rd_bop1 (oe.s h2), rdT_bop1 ho oe.t⟩
        | _ => cases h3
      | cons y ys =>
        obtain ⟨i1, i2⟩ := soB r G (p := p) ho h3 (by simp)
        exact ⟨rd_bop2 ho (oe.s h2) i1, rdT_bop2 ho oe.t i2⟩
  | .star e r, X, sc, fnk, G, isAnd, o, xs, p, ho, h, hn => by cases xs <;> cases h
  | .cel i r, X, sc, fnk, G, isAnd, o, xs, p, ho, h, hn => by cases xs <;> cases h
theorem soC {T : Tb} {Φ : List Fn} {ct : Ct} {N : List Str} : ∀ (es : IEs) {X : Cx} {sc : Scope} {fnk : Str → Bool} (G : Gx X T Φ ct N sc fnk) {xs : List Expr}, mtB T N es sc fnk xs = true → xs.length ≤ 1 → PTs X xs (rdT (kc X ct) Φ ct (.bop true es))
  | .nil, X, sc, fnk, G, xs, h, hl => by
    cases xs with
    | nil => exact pts_v hl (fun x z => by cases z) fun _ => rfl
    | cons _ _ => cases h
  | .cons e r, X, sc, fnk, G, xs, h, hl => by
    cases xs with
    | nil => cases h
    | cons x xs =>
      cases xs with
      | nil =>
        obtain ⟨h1, h2, h3⟩ := and3 h
        cases r with
        | nil => exact pts_v hl (fun y z => by cases z; exact ⟨e, rfl, (soE e G h1).t⟩) fun z => by cases z
        | _ => cases h3
      | cons _ _ => simp at hl
  | .star e r, X, sc, fnk, G, xs, h, hl => by cases xs <;> cases h
  | .cel i r, X, sc, fnk, G, xs, h, hl => by cases xs <;> cases h
theorem soO {T : Tb} {Φ : List Fn} {ct : Ct} {N : List Str} : ∀ (es : IEs) {X : Cx} {sc : Scope} {fnk : Str → Bool} (G : Gx X T Φ ct N sc fnk) {o : Option Expr}, mtO T N es sc fnk o = true → PO X o (rdO (kc X ct) Φ ct es)
  | .nil, X, sc, fnk, G, o, h => by
    cases o with
    | none => exact po_n
    | some _ => cases h
  | .cons e r, X, sc, fnk, G, o, h => by
    cases r with
    | nil =>
      cases o with
      | none => cases h
      | some x => exact po_s (soE e G h).b
    | _ => cases o <;> cases h
  | .star e r, X, sc, fnk, G, o, h => by cases o <;> cases h
  | .cel i r, X, sc, fnk, G, o, h => by cases o <;> cases h
theorem soI {T : Tb} {Φ : List Fn} {ct : Ct} {N : List Str} : ∀ (it : II) {X : Cx} {sc : Scope} {fnk : Str → Bool} (G : Gx X T Φ ct N sc fnk) {x t : Expr}, mtI T N it sc fnk x t = true → PI X t x (rdI (kc X ct) Φ ct it)
  | .seq e, X, sc, fnk, G, x, t, h => by
    obtain ⟨h1, h2⟩ := Bool.and_eq_true_iff.mp h
    exact pv_seq ((soE e G h1).s h2)
  | .range es, X, sc, fnk, G, x, t, h => by
    have h : (match callX x with
      | some (x, args) => decide (x = ("range" : Str)) && glC sc x && mtEs T N es sc fnk args && noStar args && rngSh es
      | none => false) = true := h
    cases hr : callX x with
    | none => rw [hr] at h; cases h
    | some q =>
      obtain ⟨n, args⟩ := q
      rw [hr] at h
      simp only [Bool.and_eq_true, decide_eq_true_eq] at h
      obtain ⟨⟨⟨⟨rfl, h2⟩, h5⟩, h6⟩, h7⟩ := h
      obtain ⟨p1, p2, rfl⟩ := callX_eq hr
      obtain ⟨g1, _, _⟩ := gl_of G.sc h2
      have hA := soA es G h5
      simp only [noStar] at h6
      match es, args, h5, h6, h7, hA with
      | .cons a .nil, [e], h5, h6, _, hA =>
        simp only [List.all_cons, Bool.and_eq_true] at h6
        exact pv_range1 g1 (blt_ne G (by decide)) hA h6.1
      | .cons a (.cons b .nil), [e, e2], h5, h6, _, hA =>
        simp only [List.all_cons, Bool.and_eq_true] at h6
        exact pv_range2 g1 (blt_ne G (by decide)) hA h6.1 h6.2.1
      | .cons a .nil, [], h5, _, _, _ => cases h5
      | .cons a .nil, _ :: _ :: _, h5, _, _, _ =>
        simp only [mtEs, Bool.and_eq_true] at h5
        cases h5.2
      | .cons a (.cons b .nil), [], h5, _, _, _ => cases h5
      | .cons a (.cons b .nil), [_], h5, _, _, _ =>
        simp only [mtEs, Bool.and_eq_true] at h5
        cases h5.2
      | .cons a (.cons b .nil), _ :: _ :: _ :: _, h5, _, _, _ =>
        simp only [mtEs, Bool.and_eq_true] at h5
        cases h5.2.2
      | .nil, _, _, _, h7, _ => cases h7
      | .star _ _, _, _, _, h7, _ => cases h7
      | .cel _ _, _, _, _, h7, _ => cases h7
      | .cons _ (.star _ _), _, _, _, h7, _ => cases h7
      | .cons _ (.cel _ _), _, _, _, h7, _ => cases h7
      | .cons _ (.cons _ (.cons _ _)), _, _, _, h7, _ => cases h7
      | .cons _ (.cons _ (.star _ _)), _, _, _, h7, _ => cases h7
      | .cons _ (.cons _ (.cel _ _)), _, _, _, h7, _ => cases h7
  | .enum a, X, sc, fnk, G, x, t, h => by
    cases x with
    | Call fn args kws p =>
      cases fn with
      | Name n q =>
        cases args with
        | nil => cases h
        | cons e r =>
          cases r with
          | cons _ _ => cases h
          | nil =>
            cases kws with
            | cons _ _ => cases h
            | nil =>
              simp only [mtI, Bool.and_eq_true, decide_eq_true_eq] at h
              obtain ⟨⟨⟨⟨⟨rfl, h2⟩, h3⟩, h4⟩, h5⟩, h6⟩ := h
              obtain ⟨g1, _, _⟩ := gl_of G.sc h2
              cases t with
              | Tuple es k tp => exact pv_enum g1 (blt_ne G (by decide)) ((soE a G h3).s h4) h5
              | _ => cases h6
      | _ => cases h
    | _ => cases h
  | .zip a b, X, sc, fnk, G, x, t, h => by
    cases x with
    | Call fn args kws p =>
      cases fn with
      | Name n q =>
        cases args with
        | nil => cases h
        | cons e r =>
          cases r with
          | nil => cases h
          | cons e2 r =>
            cases r with
            | cons _ _ => cases h
            | nil =>
              cases kws with
              | cons _ _ => cases h
              | nil =>
                simp only [mtI, Bool.and_eq_true, decide_eq_true_eq] at h
                obtain ⟨⟨⟨⟨⟨⟨⟨⟨rfl, h2⟩, h3⟩, h4⟩, h5⟩, h3'⟩, h4'⟩, h5'⟩, h6⟩ := h
                obtain ⟨g1, _, _⟩ := gl_of G.sc h2
                cases t with
                | Tuple es k tp => exact pv_zip g1 (blt_ne G (by decide)) ((soE a G h3).s h4) ((soE b G h3').s h4') h5 h5'
                | _ => cases h6
      | _ => cases h
    | _ => cases h
  | .vals e, X, sc, fnk, G, x, t, h => by
    cases x with
    | Call fn args kws p =>
      cases fn with
      | Attribute o y q =>
        cases o with
        | Name n p2 =>
          cases args with
          | cons _ _ => cases h
          | nil =>
            cases kws with
            | cons _ _ => cases h
            | nil =>
              simp only [mtI, Bool.and_eq_true, decide_eq_true_eq] at h
              obtain ⟨⟨⟨rfl, h2⟩, h3⟩, h4⟩ := h
              exact pv_vals ((soE e G h2).s h3) base_name h4
        | _ => cases h
      | _ => cases h
    | _ => cases h
  | .items e, X, sc, fnk, G, x, t, h => by cases h
end
end Pv
end
section
set_option Elab.async false
set_option linter.all false
set_option maxRecDepth 100000
/-! Pv.X: the state between statements; stores into own objects. -/
namespace Pv
open PySem PySem.Spec L2
section
variable {K : Kc} {sp : Option Addr} {R R' H H' : Hp} {σ : St} {ρ : List Sl} {c c' d : Dt} {i : Nat} {a : Addr} {o : HO}
theorem set_none {α : Type} {l : List α} {i j : Nat} {x y : α} (h : (l.set i x)[j]? = some y) : (i = j ∧ x = y ∧ i < l.length) ∨ (i ≠ j ∧ l[j]? = some y) := by
  by_cases e : i = j
  · subst e
    by_cases hl : i < l.length
    · rw [List.getElem?_set_self hl] at h
      exact .inl ⟨rfl, Option.some.inj h, hl⟩
    · rw [List.getElem?_eq_none (by rw [List.length_set]; omega)] at h; cases h
  · rw [List.getElem?_set_ne e] at h
    exact .inr ⟨e, h⟩
theorem SRel.drop (S : SRel K sp R H σ ρ c) (i : Nat) : SRel K sp R H σ (ρ.set i .no) c := by
  refine ⟨S.le, by rw [List.length_set]; exact S.len, fun j x h => ?_, fun j k dj dk b h1 h2 h3 h4 => ?_, S.cel, fun b j dj hs h1 h2 => ?_⟩
  · rcases set_none h with ⟨_, rfl, _⟩ | ⟨_, h⟩
    · exact True.intro
    · exact S.slot j x h
  · rcases set_none h1 with ⟨_, z, _⟩ | ⟨_, h1⟩
    · cases z
    rcases set_none h2 with ⟨_, z, _⟩ | ⟨_, h2⟩
    · cases z
    exact S.sep j k dj dk b h1 h2 h3 h4
  · rcases set_none h1 with ⟨_, z, _⟩ | ⟨_, h1⟩
    · cases z
    exact S.celO b j dj hs h1 h2
/-- a slot gets an object of its own that no other slot has -/
theorem SRel.putO (S : SRel K sp R H σ ρ c) (hR : R a = none) (ob : Ob K R H a d) (ns : sp ≠ some a) (no : ∀ (j : Nat) (dj : Dt), j ≠ i → ρ[j]? = some (Sl.own dj) → σ[j]? ≠ some (some (V.ref a))) : SRel K sp R H (σ.set i (some (.ref a))) (ρ.set i (.own d)) c := by
  refine ⟨S.le, by rw [List.length_set, List.length_set]; exact S.len, fun j x h => ?_, fun j k dj dk b h1 h2 h3 h4 => ?_, S.cel, fun b j dj hs h1 h2 => ?_⟩
  · rcases set_none h with ⟨rfl, rfl, hl⟩ | ⟨e, h⟩
    · exact ⟨a, List.getElem?_set_self (by rw [← S.len]; exact hl), hR, ob⟩
    · rw [List.getElem?_set_ne e]; exact S.slot j x h
  · rcases set_none h1 with ⟨rfl, _, _⟩ | ⟨e1, h1⟩
    · rcases set_none h2 with ⟨rfl, _, _⟩ | ⟨e2, h2⟩
      · rfl
      · rcases set_none h3 with ⟨_, z, _⟩ | ⟨z, _⟩
        · cases z
          rw [List.getElem?_set_ne e2] at h4
          exact absurd h4 (no k dk (Ne.symm e2) h2)
        · exact absurd rfl z
    · rcases set_none h2 with ⟨rfl, _, _⟩ | ⟨e2, h2⟩
      · rcases set_none h4 with ⟨_, z, _⟩ | ⟨z, _⟩
        · cases z
          rw [List.getElem?_set_ne e1] at h3
          exact absurd h3 (no j dj (Ne.symm e1) h1)
        · exact absurd rfl z
      · rw [List.getElem?_set_ne e1] at h3
        rw [List.getElem?_set_ne e2] at h4
        exact S.sep j k dj dk b h1 h2 h3 h4
  · rcases set_none h2 with ⟨rfl, z, _⟩ | ⟨e, h2'⟩
    · cases z; exact ns hs
    · rw [List.getElem?_set_ne e] at h1
      exact S.celO b j dj hs h1 h2'
/-- an own object becomes another -/
theorem SRel.mod (S : SRel K sp R H σ ρ c) (hi : ρ[i]? = some (.own d)) (hs : σ[i]? = some (some (.ref a))) {d' : Dt} (ob : Ob K R (upd H a o) a d') : SRel K sp R (upd H a o) σ (ρ.set i (.own d')) c := by
  obtain ⟨a', h1, hR, h3⟩ := S.slot i _ hi
  rw [hs] at h1
  cases h1
  have up : ∀ b u, b ≠ a → H b = some u → upd H a o b = some u := fun b u n h => by rw [upd_ne n]; exact h
  refine ⟨fun b u h => up b u (ne_of_none h hR) (S.le _ _ h), by rw [List.length_set]; exact S.len, fun j x h => ?_, fun j k dj dk b h1 h2 h3 h4 => ?_, fun b hb => ?_, fun b j dj hb h1 h2 => ?_⟩
  · rcases set_none h with ⟨rfl, rfl, hl⟩ | ⟨e, h⟩
    · exact ⟨a, hs, hR, ob⟩
    · have q := S.slot j x h
      cases x with
      | own dj =>
        obtain ⟨b, g1, g2, g3⟩ := q
        have hb : b ≠ a := fun z => by
          subst z
          exact e (S.sep i j d dj b hi h hs g1)
        exact ⟨b, g1, g2, g3.mono (Same.refl _) fun u w => up b u hb w⟩
      | _ => exact q
  · have g : ∀ {j : Nat} {dj : Dt}, (ρ.set i (.own d'))[j]? = some (.own dj) → ∃ dj', ρ[j]? = some (.own dj') := fun {j dj} h => by
      rcases set_none h with ⟨rfl, _, _⟩ | ⟨_, h⟩
      · exact ⟨d, hi⟩
      · exact ⟨_, h⟩
    obtain ⟨_, k1⟩ := g h1
    obtain ⟨_, k2⟩ := g h2
    exact S.sep j k _ _ b k1 k2 h3 h4
  · obtain ⟨g1, g2⟩ := S.cel b hb
    have hb' : b ≠ a := fun z => by
      subst z
      exact S.celO b i d hb hi hs
    exact ⟨g1, g2.mono (Same.refl _) fun u w => up b u hb' w⟩
  · rcases set_none h1 with ⟨rfl, _, _⟩ | ⟨_, h1⟩
    · exact S.celO b i d hb hi h2
    · exact S.celO b j dj hb h1 h2
/-- the cell becomes another -/
theorem SRel.celM (S : SRel K sp R H σ ρ c) (hs : sp = some a) (ob : Ob K R (upd H a o) a c') : SRel K sp R (upd H a o) σ ρ c' := by
  obtain ⟨hR, _⟩ := S.cel a hs
  have up : ∀ b u, b ≠ a → H b = some u → upd H a o b = some u := fun b u n h => by rw [upd_ne n]; exact h
  refine ⟨fun b u h => up b u (ne_of_none h hR) (S.le _ _ h), S.len, fun j x h => ?_, S.sep, fun b hb => ?_, S.celO⟩
  · have q := S.slot j x h
    cases x with
    | own dj =>
      obtain ⟨b, g1, g2, g3⟩ := q
      have hb : b ≠ a := fun z => by
        subst z
        exact S.celO b j dj hs h g1
      exact ⟨b, g1, g2, g3.mono (Same.refl _) fun u w => up b u hb w⟩
    | _ => exact q
  · rw [hs] at hb; cases hb
    exact ⟨hR, ob⟩
theorem Ext.celM (e : Ext sp R H R' H') (hs : sp = some a) (hR : R' a = none) (ho : ∃ u, H' a = some u) : Ext sp R H R' (upd H' a o) := by
  refine ⟨e.r, fun b u z => ?_, e.fresh, fun b u z n => ?_, fun b u z => ?_⟩
  · rw [upd_ne (ne_of_none z hR)]; exact e.le _ _ z
  · have : b ≠ a := fun w => n (by rw [w]; exact hs)
    rw [upd_ne this]; exact e.keep _ _ z n
  · by_cases w : b = a
    · subst w; exact ⟨o, upd_same⟩
    · rw [upd_ne w]; exact e.dom _ _ z
end
/-- between two statements of a def that began at R0, H0 -/
structure StOk (K : Kc) (sp : Option Addr) (R0 H0 : Hp) (σ : St) (ρ : List Sl) (c : Dt) (R H : Hp) : Prop where
  e : Ext sp R0 H0 R H
  s : SRel K sp R H σ ρ c
  own : ∀ (i : Nat) (d : Dt) (a : Addr), ρ[i]? = some (.own d) → σ[i]? = some (some (.ref a)) → H0 a = none
/-- where a block that began at the region R ends -/
def Dn (K : Kc) (sp : Option Addr) (R0 H0 : Hp) (k : Kd) (R : Hp) (D : Ends) : Fl → Prop
  | .nx ρ c => ∀ σ R' H, Same R R' → StOk K sp R0 H0 σ ρ c R' H → D.nx σ H
  | .rt d c => ∀ v R' H, Ext sp R0 H0 R' H → Cel K sp R' H c → RepK K sp H0 R' H v d k → D.rt v H
def rdS (K : Kc) (Φ : List Fn) (ct : Ct) (F : Nat) (k : Kd) (s : IS) : TS := fun D σ H =>
  ∃ sp R0 H0 R ρ c fl, StOk K sp R0 H0 σ ρ c R H ∧ evS Φ ct F s ρ c = some fl ∧ Dn K sp R0 H0 k R D fl
def rdSs (K : Kc) (Φ : List Fn) (ct : Ct) (F : Nat) (k : Kd) (s : ISs) : TS := fun D σ H =>
  ∃ sp R0 H0 R ρ c fl, StOk K sp R0 H0 σ ρ c R H ∧ evSs Φ ct F s ρ c = some fl ∧ Dn K sp R0 H0 k R D fl
section
variable {K : Kc} {sp : Option Addr} {R0 H0 R R' H H' : Hp} {σ : St} {ρ : List Sl} {c c' d : Dt} {i : Nat} {a : Addr} {o : HO}
/-- behind an expression -/
theorem StOk.ext (S : StOk K sp R0 H0 σ ρ c R H) (e : Ext sp R H R' H') (l : Cel K sp R' H' c') : StOk K sp R0 H0 σ ρ c' R' H' :=
  ⟨S.e.trans e, S.s.ext e l, S.own⟩
theorem StOk.puts : ∀ {is : List Nat} {xs : List V} {ds : List Dt} {σ : St} {ρ : List Sl}, StOk K sp R0 H0 σ ρ c R H → RpL K R xs ds → StOk K sp R0 H0 (setV σ is xs) ((is.zip ds).foldl (fun r p => r.set p.1 (.sh p.2)) ρ) c R H := by
  intro is
  induction is with
  | nil => intro xs ds σ ρ S _; unfold setV; simpa using S
  | cons i is ih =>
    intro xs ds σ ρ S r
    cases r with
    | nil => unfold setV; simpa using S
    | cons r t =>
      have S1 : StOk K sp R0 H0 (σ.set i (some _)) (ρ.set i (.sh _)) c R H := ⟨S.e, S.s.put r i, fun j dj b h1 h2 => by
        rcases set_none h1 with ⟨_, z, _⟩ | ⟨e, h1⟩
        · cases z
        · rw [List.getElem?_set_ne e] at h2
          exact S.own j dj b h1 h2⟩
      have := ih S1 t
      unfold setV at this ⊢
      simpa using this
theorem StOk.tg (S : StOk K sp R0 H0 σ ρ c R H) {tg : Tg} {v : V} {ρ' : List Sl} {Q : St → Hp → Prop} (r : Rp K R v d) (hp : putTg tg d ρ = some ρ') (q : ∀ σ', StOk K sp R0 H0 σ' ρ' c R H → Q σ' H) : gTg K.f tg v σ H Q := by
  cases tg with
  | nm i =>
    cases hp
    refine q _ ⟨S.e, S.s.put r i, fun j dj b h1 h2 => ?_⟩
    rcases set_none h1 with ⟨_, z, _⟩ | ⟨e, h1⟩
    · cases z
    · rw [List.getElem?_set_ne e] at h2
      exact S.own j dj b h1 h2
  | tp is =>
    cases d with
    | tuple ds =>
      simp only [putTg] at hp
      split at hp
      · rename_i hl
        cases hp
        cases r with
        | tup h1 h2 =>
          refine ⟨_, _, rfl, .inl (sqT_mono S.s.le h1.sq), by rw [h2.length, hl], q _ ?_⟩
          exact StOk.puts S h2
      · cases hp
    | list ds =>
      simp only [putTg] at hp
      split at hp
      · rename_i hl
        cases hp
        cases r with
        | lst h1 h2 => exact ⟨_, _, rfl, .inr (.inl (rd_mono S.s.le h1)), by rw [h2.length, hl], q _ (StOk.puts S h2)⟩
      · cases hp
    | _ => cases hp
theorem StOk.fresh_ne (S : StOk K sp R0 H0 σ ρ c R H) (h : H a = none) : (sp ≠ some a) ∧ ∀ (j : Nat) (dj : Dt), ρ[j]? = some (Sl.own dj) → σ[j]? ≠ some (some (V.ref a)) := by
  refine ⟨fun z => ?_, fun j dj h1 h2 => ?_⟩
  · obtain ⟨o, w⟩ := (S.s.cel a z).2.there
    rw [h] at w; cases w
  · obtain ⟨b, g1, g2, g3⟩ := S.s.slot j _ h1
    rw [h2] at g1; cases g1
    obtain ⟨o, w⟩ := g3.there
    rw [h] at w; cases w
/-- an object just made goes into slot i -/
theorem StOk.asgO (S : StOk K sp R0 H0 σ ρ c R H) (e : Ext sp R H R' H') (l : Cel K sp R' H' c') (h0 : H a = none) (hR : R' a = none) (ob : Ob K R' H' a d) (i : Nat) : StOk K sp R0 H0 (σ.set i (some (.ref a))) (ρ.set i (.own d)) c' R' H' := by
  obtain ⟨n1, n2⟩ := S.fresh_ne h0
  refine ⟨S.e.trans e, (S.s.ext e l).putO hR ob n1 fun j dj _ h1 => n2 j dj h1, fun j dj b h1 h2 => ?_⟩
  rcases set_none h1 with ⟨rfl, _, _⟩ | ⟨e', h1⟩
  · rcases set_none h2 with ⟨_, z, _⟩ | ⟨z, _⟩
    · cases z; exact S.e.back h0
    · exact absurd rfl z
  · rw [List.getElem?_set_ne e'] at h2
    exact S.own j dj b h1 h2
theorem StOk.mv (S : StOk K sp R0 H0 σ ρ c R H) {j : Nat} (hj : ρ[j]? = some (.own d)) (hs : σ[j]? = some (some (.ref a))) (i : Nat) : StOk K sp R0 H0 (σ.set i (some (.ref a))) ((ρ.set j .no).set i (.own d)) c R H := by
  obtain ⟨a', h1, hR, ob⟩ := S.s.slot j _ hj
  rw [hs] at h1; cases h1
  refine ⟨S.e, (S.s.drop j).putO hR ob (fun z => S.s.celO a j d z hj hs) fun k dk hk h1 h2 => ?_, fun k dk b h1 h2 => ?_⟩
  · rcases set_none h1 with ⟨_, z, _⟩ | ⟨e, h1⟩
    · cases z
    · exact e (S.s.sep j k d dk a hj h1 hs h2)
  · rcases set_none h1 with ⟨rfl, _, _⟩ | ⟨e', h1⟩
    · rcases set_none h2 with ⟨_, z, _⟩ | ⟨z, _⟩
      · cases z; exact S.own j d a hj hs
      · exact absurd rfl z
    · rw [List.getElem?_set_ne e'] at h2
      rcases set_none h1 with ⟨_, z, _⟩ | ⟨e, h1⟩
      · cases z
      · exact S.own k dk b h1 h2
/-- slot i's own object, or the cell, is rewritten -/
theorem StOk.mod (S : StOk K sp R0 H0 σ ρ c R H) {g : Dt → Option Dt} {fl : Fl} (h : modS ρ i c g = some fl) :
    ∃ (a : Addr) (d d' : Dt) (ρ' : List Sl) (c' : Dt), σ[i]? = some (some (.ref a)) ∧ Ob K R H a d ∧ g d = some d' ∧ fl = .nx ρ' c' ∧ R a = none ∧ ∀ o, Ob K R (upd H a o) a d' → StOk K sp R0 H0 σ ρ' c' R (upd H a o) := by
  unfold modS at h
  split at h
  · rename_i d hi
    obtain ⟨d', h1, h2⟩ := Option.map_eq_some_iff.mp h
    obtain ⟨a, hs, hR, ob⟩ := S.s.slot i _ hi
    refine ⟨a, d, d', _, _, hs, ob, h1, h2.symm, hR, fun o ob' => ⟨Ext.at S.e (S.own i d a hi hs) hR, S.s.mod hi hs ob', fun j dj b k1 k2 => ?_⟩⟩
    rcases set_none k1 with ⟨rfl, _, _⟩ | ⟨e, k1⟩
    · exact S.own i d b hi k2
    · exact S.own j dj b k1 k2
  · rename_i hi
    obtain ⟨d', h1, h2⟩ := Option.map_eq_some_iff.mp h
    obtain ⟨a, hs, hsp⟩ := S.s.slot i _ hi
    obtain ⟨hR, ob⟩ := S.s.cel a hsp
    exact ⟨a, c, d', _, _, hs, ob, h1, h2.symm, hR, fun o ob' => ⟨S.e.celM hsp hR ob.there, S.s.celM hsp ob', S.own⟩⟩
  · cases h
end
end Pv
end
section
set_option Elab.async false
set_option linter.all false
set_option maxRecDepth 100000
/-! Pv.Y: o[i] = v, methods that write. -/
namespace Pv
open PySem PySem.Spec L2
/-- an empty dict takes keys of either kind -/
def rSetE : TSet := fun o i v H Q => (∃ a b k, o = .ref a ∧ i = .ref b ∧ H a = some (.dK []) ∧ H b = some (.tup (k.map kV)) ∧ Q (upd H a (.dT [(k, v)]))) ∨
  ∃ a k, o = .ref a ∧ i = kV k ∧ H a = some (.dT []) ∧ Q (upd H a (.dK [(k, v)]))
theorem Inv.flip {X : Cx} {pins : List (Addr × Obj)} {σ : St} {H : Hp} {s : Shared} {a : Addr} (I : Inv X pins σ H s) (h : H a = some (.dK [])) : Inv X pins σ (upd H a (.dT [])) s := by
  obtain ⟨hd, ob, es, ep, h1, h2, h3, h4, _, _⟩ := empty_T I.hok (.inl h)
  exact I.write (t' := s.toks) (h' := s.heap) (x := a) (e := a) (by rw [h]; exact True.intro) (.inl rfl) (fun b u _ q => q) ⟨ob, h1⟩ ⟨Nat.zero_le _, hd, [], .nil, ob, es, ep, h1, h2, h3, h4, List.nodup_nil⟩
theorem Inv.flop {X : Cx} {pins : List (Addr × Obj)} {σ : St} {H : Hp} {s : Shared} {a : Addr} (I : Inv X pins σ H s) (h : H a = some (.dT [])) : Inv X pins σ (upd H a (.dK [])) s := by
  obtain ⟨hd, dd⟩ := empty_K I.hok (.inl h)
  have ex : ∃ u, s.heap.get? a = some u := let ⟨ob, _, _, e, _⟩ := dd; ⟨ob, e⟩
  exact I.write (t' := s.toks) (h' := s.heap) (x := a) (e := a) (by rw [h]; exact True.intro) (.inl rfl) (fun b u _ q => q) ex ⟨Nat.zero_le _, hd, [], .nil, dd⟩
theorem set_E {X : Cx} (hu : X.A.units + 1 < cLine) : PSet X rSetE := by
  intro pins s σ H o i v ov iv u Q I ro ri rv h
  rcases h with ⟨a, b, k, rfl, rfl, ha, hb, q⟩ | ⟨a, k, rfl, rfl, ha, q⟩
  · cases (show ov = Value.ref a from ro)
    have hne : b ≠ a := fun z => by subst z; rw [ha] at hb; cases hb
    have I2 := Inv.flip I ha
    have g := DPut.t (v := v) (H := upd H a (.dT [])) (a := a) (b := b) (kvs := []) (k := k) upd_same (by rw [upd_ne hne]; exact hb) (by show 0 < sizeLine; decide)
    refine d_setItem hu I2 g ri rv fun s' I' => ⟨_, I', ?_⟩
    rw [upd_upd]; exact q
  · cases (show ov = Value.ref a from ro)
    have I2 := Inv.flop I ha
    have g := DPut.k (v := v) (H := upd H a (.dK [])) (a := a) (kvs := []) (k := k) upd_same (by show 0 < sizeLine; decide)
    refine d_setItem hu I2 g ri rv fun s' I' => ⟨_, I', ?_⟩
    rw [upd_upd]; exact q
def rSetX : TSet := fun o i v H Q => rSetL o i v H Q ∨ rSetD o i v H Q ∨ rSetE o i v H Q
theorem set_X {X : Cx} (hu : X.A.units + 1 < cLine) : PSet X rSetX := by
  intro pins s σ H o i v ov iv u Q I ro ri rv h
  rcases h with h | h | h
  · exact set_list pins s σ H o i v ov iv u Q I ro ri rv h
  · exact set_dict hu pins s σ H o i v ov iv u Q I ro ri rv h
  · exact set_E hu pins s σ H o i v ov iv u Q I ro ri rv h
section
variable {K : Kc} {R H : Hp}
/-- data keys as the dict's own keys -/
structure KeyF (κ : Type) [DecidableEq κ] (f : κ → Dt) : Prop where
  eqv : ∀ a b : κ, PyData.eqv (f a) (f b) = decide (a = b)
theorem keyF_K : KeyF Key kD := ⟨fun a b => by
  cases a with
  | inl i =>
    cases b with
    | inl j =>
      show PyData.eqv (.int i) (.int j) = _
      by_cases h : i = j
      · subst h; simp [PyData.eqv]
      · simp [PyData.eqv, h]
    | inr y => simp [kD, PyData.eqv]
  | inr x =>
    cases b with
    | inl j => simp [kD, PyData.eqv]
    | inr y =>
      show PyData.eqv (.str x) (.str y) = _
      by_cases h : x = y
      · subst h; simp [PyData.eqv]
      · simp [PyData.eqv, h]⟩
theorem eqvAll_keys : ∀ a b : List Key, PyData.eqvAll (a.map kD) (b.map kD) = decide (a = b)
  | [], [] => by simp [PyData.eqvAll]
  | [], _ :: _ => by simp [PyData.eqvAll]
  | _ :: _, [] => by simp [PyData.eqvAll]
  | x :: a, y :: b => by
    rw [List.map_cons, List.map_cons]
    simp only [PyData.eqvAll, keyF_K.eqv, eqvAll_keys a b]
    by_cases h : x = y <;> by_cases h2 : a = b <;> simp [h, h2]
theorem keyF_T : KeyF (List Key) (fun k => PyData.tuple (k.map kD)) := ⟨fun a b => by
  show PyData.eqvAll (a.map kD) (b.map kD) = _
  exact eqvAll_keys a b⟩
theorem put_rep {κ : Type} [DecidableEq κ] {f : κ → Dt} (F : KeyF κ f) {kvs : List (κ × V)} {ds : List Dt} {k : κ} {v : V} {d : Dt} (h : RpL K R (kvs.map (·.2)) ds) (r : Rp K R v d) :
    ∃ ds', RpL K R ((putK kvs k v).map (·.2)) ds' ∧ ((putK kvs k v).map fun p => f p.1).zip ds' = putD ((kvs.map fun p => f p.1).zip ds) (f k) d := by
  have hany : ∀ {kvs : List (κ × V)} {ds : List Dt}, RpL K R (kvs.map (·.2)) ds → (((kvs.map fun p => f p.1).zip ds).any fun p => PyData.eqv p.1 (f k)) = kvs.any fun kv => decide (kv.1 = k) := by
    intro kvs
    induction kvs with
    | nil => intro ds _; rfl
    | cons p kvs ih =>
      intro ds h
      cases h with
      | cons h1 h2 =>
        rw [List.map_cons, List.zip_cons_cons, List.any_cons, List.any_cons, ih h2]
        show (PyData.eqv (f p.1) (f k) || _) = _
        rw [F.eqv]
  have hmap : ∀ {kvs : List (κ × V)} {ds : List Dt}, RpL K R (kvs.map (·.2)) ds → ∃ ds', RpL K R ((kvs.map fun kv => if kv.1 = k then (kv.1, v) else kv).map (·.2)) ds' ∧
      ((kvs.map fun kv => if kv.1 = k then (kv.1, v) else kv).map fun p => f p.1).zip ds' = ((kvs.map fun p => f p.1).zip ds).map fun p => if PyData.eqv p.1 (f k) = true then (p.1, d) else p := by
    intro kvs
    induction kvs with
    | nil => intro ds _; exact ⟨[], .nil, rfl⟩
    | cons p kvs ih =>
      intro ds h
      cases h with
      | cons h1 h2 =>
        rename_i d0 ds0
        obtain ⟨ds', i1, i2⟩ := ih h2
        by_cases e : p.1 = k
        · refine ⟨d :: ds', ?_, ?_⟩
          · rw [List.map_cons, List.map_cons, if_pos e]; exact .cons r i1
          · rw [List.map_cons, List.map_cons, List.zip_cons_cons, List.map_cons, List.zip_cons_cons, List.map_cons, i2, if_pos e]
            have : PyData.eqv (f p.1) (f k) = true := by rw [F.eqv]; exact decide_eq_true e
            rw [if_pos this]
        · refine ⟨d0 :: ds', ?_, ?_⟩
          · rw [List.map_cons, List.map_cons, if_neg e]; exact .cons h1 i1
          · rw [List.map_cons, List.map_cons, List.zip_cons_cons, List.map_cons, List.zip_cons_cons, List.map_cons, i2, if_neg e]
            have : ¬ PyData.eqv (f p.1) (f k) = true := by rw [F.eqv]; simpa using e
            rw [if_neg this]
  unfold putK putD
  rw [hany h]
  by_cases e : (kvs.any fun kv => decide (kv.1 = k)) = true
  · rw [if_pos e, if_pos e]
    exact hmap h
  · rw [if_neg e, if_neg e]
    refine ⟨ds ++ [d], ?_, ?_⟩
    · rw [List.map_append]; exact h.append (.cons r .nil)
    · rw [List.map_append, List.zip_append (by rw [List.length_map, ← h.length, List.length_map])]; rfl
theorem zip_len_K {κ : Type} {f : κ → Dt} {kvs : List (κ × V)} {ds : List Dt} (h : RpL K R (kvs.map (·.2)) ds) : ((kvs.map fun p => f p.1).zip ds).length = kvs.length := by
  rw [List.length_zip, List.length_map, ← h.length, List.length_map]; omega
/-- a store keeps its promise -/
theorem store_of {sp : Option Addr} {a : Addr} {d d' k x : Dt} {ki v : V} (e : Same R H) (ob : Ob K R H a d) (rk : Rb K R H ki k) (rv : Rp K R v x) (h : storeD K.kt d k x = some d') :
    ∃ o, Ob K R (upd H a o) a d' ∧ ∀ Q : Hp → Prop, Q (upd H a o) → rSetX (.ref a) ki v H Q := by
  cases ob with
  | lst h1 h2 =>
    rename_i xs ds
    cases k with
    | int i =>
      simp only [storeD] at h
      obtain ⟨j, hj, rfl⟩ := Option.map_eq_some_iff.mp h
      cases rk.int
      refine ⟨.lst (xs.set j v), .lst upd_same (h2.set rv j), fun Q q => .inl ⟨a, xs, i, j, rfl, rfl, h1, by rw [h2.length]; exact hj, q⟩⟩
    | _ => cases h
  | dK h1 h2 =>
    rename_i kvs ds
    have h' : (match getD K.kt ((kvs.map fun p => kD p.1).zip ds) k with | some _ => if ((kvs.map fun p => kD p.1).zip ds).length < line then some (PyData.dict (putD ((kvs.map fun p => kD p.1).zip ds) k x)) else none | none => none) = some d' := by cases k <;> exact h
    split at h'
    · rename_i w hg
      split at h'
      · rename_i hl
        cases h'
        rw [zip_len_K h2] at hl
        cases hk : keyD k with
        | some key =>
          obtain ⟨rfl, rfl⟩ := keyD_rb rk hk
          obtain ⟨ds', g1, g2⟩ := put_rep keyF_K (k := key) h2 rv
          refine ⟨.dK (putK kvs key v), ?_, fun Q q => .inr (.inl ⟨a, _, rfl, DPut.k h1 (by rw [line_eq]; exact hl), q⟩)⟩
          have := Ob.dK (K := K) (R := R) (H := upd H a (.dK (putK kvs key v))) (a := a) upd_same g1
          rw [g2] at this; exact this
        | none =>
          -- a tuple: the dict must be empty
          cases k with
          | tuple l =>
            simp only [getD] at hg
            split at hg
            · cases hg
            rename_i hkt
            have hkt : K.kt = false := by simpa using hkt
            split at hg
            · rename_i ks hks
              obtain ⟨rfl, _⟩ := getT_zipK (by rw [← h2.length, List.length_map]) hg
              obtain ⟨b, rfl, hb⟩ := tupKey hkt e rk hks
              rw [keysD_eq hks]
              cases h2
              refine ⟨.dT [(ks, v)], ?_, fun Q q => .inr (.inr (.inl ⟨a, b, ks, rfl, rfl, h1, hb, q⟩))⟩
              have := Ob.dT (K := K) (R := R) (H := upd H a (.dT [(ks, v)])) (a := a) (kvs := [(ks, v)]) (ds := [x]) upd_same (.cons rv .nil)
              exact this
            · cases hg
          | _ => first | (simp only [getD, keyD] at hg; cases hg; done) | (cases hk; done)
      · cases h'
    · cases h'
  | dT h1 h2 =>
    rename_i kvs ds
    have h' : (match getD K.kt ((kvs.map fun p => PyData.tuple (p.1.map kD)).zip ds) k with | some _ => if ((kvs.map fun p => PyData.tuple (p.1.map kD)).zip ds).length < line then some (PyData.dict (putD ((kvs.map fun p => PyData.tuple (p.1.map kD)).zip ds) k x)) else none | none => none) = some d' := by cases k <;> exact h
    split at h'
    · rename_i w hg
      split at h'
      · rename_i hl
        cases h'
        rw [zip_len_K (f := fun k => PyData.tuple (k.map kD)) h2] at hl
        cases k with
        | tuple l =>
          simp only [getD] at hg
          split at hg
          · cases hg
          rename_i hkt
          have hkt : K.kt = false := by simpa using hkt
          split at hg
          · rename_i ks hks
            obtain ⟨b, rfl, hb⟩ := tupKey hkt e rk hks
            rw [keysD_eq hks]
            obtain ⟨ds', g1, g2⟩ := put_rep keyF_T (k := ks) h2 rv
            refine ⟨.dT (putK kvs ks v), ?_, fun Q q => .inr (.inl ⟨a, _, rfl, DPut.t h1 hb (by rw [line_eq]; exact hl), q⟩)⟩
            have := Ob.dT (K := K) (R := R) (H := upd H a (.dT (putK kvs ks v))) (a := a) upd_same g1
            rw [g2] at this; exact this
          · cases hg
        | _ =>
          simp only [getD, keyD] at hg
          first
          | cases hg; done
          | (obtain ⟨rfl, _⟩ := getK_zipT (by rw [← h2.length, List.length_map]) hg
             cases h2
             first
             | (cases rk.int
                refine ⟨.dK [(.inl _, v)], ?_, fun Q q => .inr (.inr (.inr ⟨a, .inl _, rfl, rfl, h1, q⟩))⟩
                exact Ob.dK (K := K) (R := R) (a := a) (kvs := [(.inl _, v)]) (ds := [x]) upd_same (.cons rv .nil))
             | (cases rk.str
                refine ⟨.dK [(.inr _, v)], ?_, fun Q q => .inr (.inr (.inr ⟨a, .inr _, rfl, rfl, h1, q⟩))⟩
                exact Ob.dK (K := K) (R := R) (a := a) (kvs := [(.inr _, v)]) (ds := [x]) upd_same (.cons rv .nil)))
      · cases h'
    · cases h'
end
end Pv
end
section
set_option Elab.async false
set_option linter.all false
set_option maxRecDepth 100000
/-! Pv.Z: statements. -/
namespace Pv
open PySem PySem.Spec L2
def notComp : Expr → Bool
  | .ListComp .. => false
  | .SetComp .. => false
  | .DictComp .. => false
  | _ => true
theorem sw_no {e : Expr} (h : notComp e = true) (t : Option Expr) (l : Nat) (env : Env) : swapsWith e t l env = pure false := by
  cases e <;> first | rfl | cases h
theorem sw_sole {e : Expr} (h : notComp e = true) (t : Expr) (l : Nat) (env : Env) : swapsWithSole [t] e l env = pure false := sw_no h (some t) l env
section
variable {X : Cx} {Φ : List Fn} {ct : Ct} {F : Nat} {k : Kd} {pos : Pos} {x y z : Expr} {a b : IE}
theorem ps_weak {st : Stmt} {t t' : TS} (h : PS X st t) (w : ∀ D σ H, t' D σ H → t D σ H) : PS X st t' := ⟨fun pins s σ H D I q => h.run pins s σ H D I (w D σ H q)⟩
theorem pss_weak {st : List Stmt} {t t' : TS} (h : PSs X st t) (w : ∀ D σ H, t' D σ H → t D σ H) : PSs X st t' := ⟨fun pins s σ H D I q => h.run pins s σ H D I (w D σ H q)⟩
theorem Dn.ext {K : Kc} {sp : Option Addr} {R0 H0 R R' : Hp} {D : Ends} {fl : Fl} (e : Same R R') (h : Dn K sp R0 H0 k R D fl) : Dn K sp R0 H0 k R' D fl := by
  cases fl with
  | nx ρ c => exact fun σ R2 H e2 S => h σ R2 H (e.trans e2) S
  | rt d c => exact h
/-! ### = -/
theorem asg_core {tg : Tg} {D : Ends} {σ : St} {H : Hp} (h : rdS (kc X ct) Φ ct F k (.asg tg a) D σ H) : tAsg (rd (kc X ct) Φ ct .S a) (gTg X.K tg) D σ H := by
  obtain ⟨sp, R0, H0, R, ρ, c, fl, S, ev, q⟩ := h
  simp only [evS] at ev
  split at ev
  · rename_i d c1 ea
    obtain ⟨ρ', hp, rfl⟩ := Option.map_eq_some_iff.mp ev
    refine ⟨sp, R, ρ, c, d, c1, S.s, ea, fun v R' H' e l r => ?_⟩
    exact (S.ext e l).tg (K := kc X ct) r hp fun σ' S' => q σ' R' H' e.r S'
  · cases ev
theorem pv_asg {tg : Tg} {t : Expr} (he : PE X x (rd (kc X ct) Φ ct .S a)) (hg : PG X t (gTg X.K tg)) (hs : swapsWithSole [t] x pos.line X.env = pure false) (hw : swappedStores [t] x X.env = pure none) (h1 : (assignEach [t] X.env).map (·.2) = [assign t X.env]) :
    PS X (.Assign [t] x pos) (rdS (kc X ct) Φ ct F k (.asg tg a)) := ps_weak (ps_asg he hg hs hw h1) fun D σ H h => asg_core h
theorem asgO_core {i : Nat} {D : Ends} {σ : St} {H : Hp} (h : rdS (kc X ct) Φ ct F k (.asgO i a) D σ H) : tAsg (rd (kc X ct) Φ ct .F a) (gName i) D σ H := by
  obtain ⟨sp, R0, H0, R, ρ, c, fl, S, ev, q⟩ := h
  simp only [evS] at ev
  split at ev
  · rename_i d c1 ea
    split at ev
    · rename_i ho
      cases ev
      refine ⟨sp, R, ρ, c, d, c1, S.s, ea, fun v R' H' e l r => ?_⟩
      rcases r with ⟨_, p, rfl, h1, h0, ob⟩ | ⟨no, _⟩
      · exact q _ R' H' e.r (S.asgO e l h0 h1 ob i)
      · rw [ho] at no; cases no
    · cases ev
  · cases ev
/-- a comprehension assigned, kept: its list joins the region at once -/
theorem comp_S {e : IE} (hl : ∀ ρ c d c', evE Φ ct e ρ c = some (d, c') → ∃ l, d = .list l) {σ : St} {H : Hp} {Q : VK} (h : rd (kc X ct) Φ ct .S e σ H Q) : rd (kc X ct) Φ ct .F e σ H Q := by
  obtain ⟨sp, R, ρ, c, d, c', S, ev, q⟩ := h
  refine ⟨sp, R, ρ, c, d, c', S, ev, fun v R' H' e1 l r => ?_⟩
  obtain ⟨ds, rfl⟩ := hl _ _ _ _ ev
  rcases r with ⟨_, p, rfl, h1, h0, ob⟩ | ⟨no, _⟩
  · cases ob with
    | lst k1 k2 =>
      obtain ⟨x1, x2⟩ := join_lst e1 h1 h0 k1 k2
      exact q _ _ H' x1 (fun b hb => (l b hb).mono (fun z o y => by rw [upd_ne (ne_of_none y h1)]; exact y) fun o y => y) x2
  · cases no
theorem comp_lst {own : List (Str × Nat)} {tg : Tg} {it : II} {ifs : IEs} {elt : IE} : ∀ ρ c d c', evE Φ ct (.comp own tg it ifs elt) ρ c = some (d, c') → ∃ l, d = .list l := fun ρ c d c' ev => by
  simp only [evE] at ev
  split at ev
  · split at ev
    · cases ev; exact ⟨_, rfl⟩
    · cases ev
  · cases ev
theorem comp2_lst {own : List (Str × Nat)} {tg tg2 : Tg} {it it2 : II} {ifs ifs2 : IEs} {elt : IE} : ∀ ρ c d c', evE Φ ct (.comp2 own tg it ifs tg2 it2 ifs2 elt) ρ c = some (d, c') → ∃ l, d = .list l := fun ρ c d c' ev => by
  simp only [evE] at ev
  split at ev
  · split at ev
    · split at ev
      · cases ev; exact ⟨_, rfl⟩
      · cases ev
    · cases ev
  · cases ev
theorem pv_asgO {i : Nat} {n : Str} {p : Pos} (hN : X.N.Nodup) (hi : X.N[i]? = some n) (hx : Loc X.env.scope n) (hf : X.fn n = true ∨ X.env.scope.names.lookup n = some .local) (he : PE X x (rd (kc X ct) Φ ct .F a)) (hs : notComp x = true) :
    PS X (.Assign [.Name n p] x pos) (rdS (kc X ct) Φ ct F k (.asgO i a)) := ps_weak (ps_set hN hi hx he (sw_no hs _ _ _) hf) fun D σ H h => asgO_core h
/-- name = [..], whichever way the name is kept -/
theorem ps_compO {i : Nat} {e : IE} {st : Stmt} (hl : ∀ ρ c d c', evE Φ ct e ρ c = some (d, c') → ∃ l, d = .list l) (h : PS X st (tAsg (rd (kc X ct) Φ ct .F e) (gName i))) :
    PS X st (rdS (kc X ct) Φ ct F k (.asgO i e)) ∧ PS X st (rdS (kc X ct) Φ ct F k (.asg (.nm i) e)) :=
  ⟨ps_weak h fun D σ H q => asgO_core q, ps_weak h fun D σ H q => comp_S hl (asg_core q)⟩
/-- a name's object goes to another name -/
theorem pv_mv {i j : Nat} {n m : Str} {p p2 : Pos} (hN : X.N.Nodup) (hi : X.N[i]? = some n) (hx : Loc X.env.scope n) (hf : X.fn n = true ∨ X.env.scope.names.lookup n = some .local) (hj : X.N[j]? = some m) (hv : Vis X.env.scope m) (h1 : (m == ("__debug__" : Str)) = false) (h2 : (m == ("__classdict__" : Str)) = false) :
    PS X (.Assign [.Name n p] (.Name m p2) pos) (rdS (kc X ct) Φ ct F k (.asgMv i j)) := by
  refine ps_weak (ps_set hN hi hx (pe_var hj hv h1 h2) (sw_no rfl _ _ _) hf) fun D σ H ⟨sp, R0, H0, R, ρ, c, fl, S, ev, q⟩ => ?_
  simp only [evS] at ev
  split at ev
  · rename_i d hj'
    cases ev
    obtain ⟨ad, hs, _, _⟩ := S.s.slot j _ hj'
    exact ⟨_, hs, q _ R H (Same.refl _) (S.mv hj' hs i)⟩
  · cases ev

theorem StOk.ref {K : Kc} {sp : Option Addr} {R0 H0 R H : Hp} {σ : St} {ρ : List Sl} {c c' : Dt} {i : Nat} {g : Dt → Option Dt} {fl : Fl} (S : StOk K sp R0 H0 σ ρ c R H) (h : modS ρ i c' g = some fl) : ∃ p, σ[i]? = some (some (.ref p)) := by
  unfold modS at h
  split at h
  · rename_i d hi
    obtain ⟨p, h1, _⟩ := S.s.slot i _ hi
    exact ⟨p, h1⟩
  · rename_i hi
    obtain ⟨p, h1, _⟩ := S.s.slot i _ hi
    exact ⟨p, h1⟩
  · cases h
/-! ### o[i] = v -/
theorem pv_setI {i : Nat} {n : Str} {p p2 : Pos} (hu : X.A.units + 1 < cLine) (hN : X.N[i]? = some n) (hv : Vis X.env.scope n) (h1 : (n == ("__debug__" : Str)) = false) (h2 : (n == ("__classdict__" : Str)) = false) (hix : ∀ v, assign (.Subscript (.Name n p) y p2) X.env v = (do
      let ov ← holding [v] (eval (.Name n p) X.env)
      let iv ← holding [v, ov] (eval y X.env)
      standAt p2
      holding [v, ov, iv] (setItem ov iv v)
      release [v, ov, iv] [])) (hi : PE X y (rd (kc X ct) Φ ct .B b)) (he : PE X x (rd (kc X ct) Φ ct .S a)) (hs : notComp x = true) (hw : swappedStores [.Subscript (.Name n p) y p2] x X.env = pure none) :
    PS X (.Assign [.Subscript (.Name n p) y p2] x pos) (rdS (kc X ct) Φ ct F k (.setI i b a)) := by
  refine ps_weak (ps_asg he (pg_sub (pe_var hN hv h1 h2) hi (set_X hu) hix) (sw_sole hs _ _ _) hw rfl) fun D σ H ⟨sp, R0, H0, R, ρ, c, fl, S, ev, q⟩ => ?_
  simp only [evS] at ev
  split at ev
  · rename_i d c1 ea
    split at ev
    · rename_i kd c2 eb
      refine ⟨sp, R, ρ, c, d, c1, S.s, ea, fun v R1 H1 e1 l1 r1 => ?_⟩
      have S1 := S.ext e1 l1
      obtain ⟨ad, hs⟩ := S1.ref ev
      refine ⟨_, hs, sp, R1, ρ, c1, kd, c2, S1.s, eb, fun kv R2 H2 e2 l2 r2 => ?_⟩
      have S2 := S1.ext e2 l2
      obtain ⟨ad', dd, d2, ρ2, c3, hs', ob, hg, rfl, hR, fin⟩ := S2.mod ev
      rw [hs] at hs'
      cases hs'
      obtain ⟨o, ob', st⟩ := store_of (K := kc X ct) (sp := sp) S2.s.le ob (Rv.rb r2) (Rp.mono e2.r r1) hg
      exact st _ (q σ R2 _ (e1.r.trans e2.r) (fin o ob'))
    · cases ev
  · cases ev

/-! ### methods that write -/
theorem lst_of {K : Kc} {R H : Hp} {p : Addr} {l : List Dt} (ob : Ob K R H p (.list l)) : ∃ xs, H p = some (.lst xs) ∧ RpL K R xs l := by
  cases ob with
  | lst h1 h2 => exact ⟨_, h1, h2⟩
theorem pv_app {i : Nat} {n : Str} {p apos p2 : Pos} (hN : X.N[i]? = some n) (hv : Vis X.env.scope n) (h1 : (n == ("__debug__" : Str)) = false) (h2 : (n == ("__classdict__" : Str)) = false) (he : PE X x (rd (kc X ct) Φ ct .S a)) (hn : notStar x = true) (hline : (apos.endLine == p2.line) = true) :
    PS X (.Expr (.Call (.Attribute (.Name n p) "append" apos) [x] [] p2) pos) (rdS (kc X ct) Φ ct F k (.app i a)) := by
  have ha : PA X [x] (tCons (rd (kc X ct) Φ ct .S a) tNil) := pa_cons he pa_nil (star_no hn _ _)
  refine ps_weak (ps_expr (pe_mx (ty := isLst) PySem.F.plainAttrs_list PySem.F.slot_list_append PySem.F.type_list_append (fun _ _ _ _ _ _ I r h => isLst_ty I r h) mt_append (pe_var hN hv h1 h2) ha base_name (by simp [noStar, hn]) (by show 1 < 30; decide) hline) (sw_no rfl _ _ _)) fun D σ H ⟨sp, R0, H0, R, ρ, c, fl, S, ev, q⟩ => ?_
  simp only [evS] at ev
  split at ev
  · rename_i d c1 ea
    split at ev
    · rename_i o hi
      obtain ⟨o', ho, rfl⟩ := Option.map_eq_some_iff.mp ev
      cases o with
      | list l =>
        simp only [appD] at ho
        split at ho
        · rename_i hlen
          cases ho
          obtain ⟨ad, hs, hR, ob⟩ := S.s.slot i _ hi
          obtain ⟨xs, g1, g2⟩ := lst_of ob
          refine ⟨_, hs, ⟨ad, xs, rfl, .inl g1⟩, sp, R, ρ, c, d, c1, S.s, ea, fun v R1 H1 e1 l1 r1 => ?_⟩
          have S1 := S.ext e1 l1
          have hm : modS ρ i c1 (fun _ => some (.list (l ++ [d]))) = some (.nx (ρ.set i (.own (.list (l ++ [d])))) c1) := by unfold modS; rw [hi]; rfl
          obtain ⟨ad', dd, d2, ρ2, c3, hs', ob', hg, hfl, hR', fin⟩ := S1.mod hm
          rw [hs] at hs'
          cases hs'
          cases hg
          cases hfl
          have nsp : sp ≠ some ad := fun z => S.s.celO ad i _ z hi hs
          have h3 := e1.keep _ _ g1 nsp
          refine ⟨ad, xs, v, rfl, rfl, h3, by rw [g2.length, line_eq]; exact hlen, q σ R1 _ e1.r (fin _ (.lst upd_same ((g2.mono e1.r).append (.cons r1 .nil))))⟩
        · cases ho
      | _ => cases ho
    · cases ev
  · cases ev
/-! ### flow -/
theorem pv_ifS {s1 s2 : ISs} {p q : List Stmt} (hc : PT X x (rdT (kc X ct) Φ ct a)) (h1 : PSs X p (rdSs (kc X ct) Φ ct F k s1)) (h2 : PSs X q (rdSs (kc X ct) Φ ct F k s2)) : PS X (.If x p q pos) (rdS (kc X ct) Φ ct F k (.ife a s1 s2)) := by
  refine ps_weak (ps_if hc h1 h2) fun D σ H ⟨sp, R0, H0, R, ρ, c, fl, S, ev, q⟩ => ?_
  simp only [evS] at ev
  split at ev
  · rename_i c1 ea
    refine ⟨sp, R, ρ, c, _, c1, S.s, ea, fun R1 H1 e1 l1 => ?_⟩
    refine iteT ?_
    exact ⟨sp, R0, H0, R1, ρ, c1, fl, S.ext e1 l1, ev, q.ext e1.r⟩
  · rename_i c1 ea
    refine ⟨sp, R, ρ, c, _, c1, S.s, ea, fun R1 H1 e1 l1 => ?_⟩
    refine iteF ?_
    exact ⟨sp, R0, H0, R1, ρ, c1, fl, S.ext e1 l1, ev, q.ext e1.r⟩
  · cases ev
theorem pv_for {tg : Tg} {it : II} {body : ISs} {t iter : Expr} {bs : List Stmt} (hp : PassesOwn (model X.prog X.w) X.A X.env X.xe) (hc : X.calm = true) (hi : PI X t iter (rdI (kc X ct) Φ ct it)) (hg : PG X t (gTg X.K tg)) (hb : PSs X bs (rdSs (kc X ct) Φ ct F k body))
    (hs : ∀ v, foldedSetIterable iter X.env v = pure v) : PS X (.For t iter bs [] pos) (rdS (kc X ct) Φ ct F k (.for_ tg it body)) := by
  refine ps_weak (ps_for hp hc hi hg hb hs) fun D σ H ⟨sp, R0, H0, R, ρ, c, fl, S, ev, q⟩ => ?_
  simp only [evS] at ev
  split at ev
  · rename_i xs c1 eI
    refine ⟨sp, R, ρ, c, xs, c1, S.s, eI, fun J R1 H1 e1 l1 ok => ?_⟩
    generalize hf : (fun d ρ c => match putTg tg d ρ with
      | some ρ1 => evSs Φ ct F body ρ1 c
      | none => none) = f at ev
    refine ⟨fun i m σ H => m = xs.length - i ∧ i ≤ xs.length ∧ ∃ R ρ c, StOk (kc X ct) sp R0 H0 σ ρ c R H ∧ Same R1 R ∧ forGo f (xs.drop i) ρ c = some fl, ⟨xs.length, rfl, Nat.zero_le _, R1, ρ, c1, S.ext e1 l1, Same.refl _, ev⟩, ?_⟩
    rintro i m σ2 H2 ⟨rfl, hi, R2, ρ2, c2, S2, sm, eg⟩
    by_cases hlt : i < xs.length
    · refine .inr ⟨ok.go i H2 (sm.trans S2.s.le) hlt, _, fun σ' H' h => ⟨xs.length - (i + 1), by omega, h⟩, fun v H3 y => ?_⟩
      obtain ⟨d, hd, R3, e3, l3, r3⟩ := ok.yld i v sp R2 H2 H3 c2 sm S2.s.le S2.s.cell hlt y
      rw [List.drop_eq_getElem_cons hlt] at eg
      have hd' : xs[i] = d := by rw [List.getElem?_eq_getElem hlt] at hd; exact Option.some.inj hd
      rw [hd'] at eg
      simp only [forGo] at eg
      have hfd : f d ρ2 c2 = (match putTg tg d ρ2 with | some ρ1 => evSs Φ ct F body ρ1 c2 | none => none) := by rw [← hf]
      cases hp' : putTg tg d ρ2 with
      | none => rw [hfd, hp'] at eg; cases eg
      | some ρ3 =>
        rw [hfd, hp'] at eg
        refine (S2.ext e3 l3).tg (K := kc X ct) r3 hp' fun σ3 S3 => ?_
        cases hb' : evSs Φ ct F body ρ3 c2 with
        | none =>
          simp only [hb'] at eg
          cases eg
        | some fl1 =>
          simp only [hb'] at eg
          refine ⟨sp, R0, H0, R3, ρ3, c2, fl1, S3, hb', ?_⟩
          cases fl1 with
          | nx ρ4 c4 => exact fun σ4 R4 H4 e4 S4 => ⟨rfl, hlt, R4, ρ4, c4, S4, (sm.trans e3.r).trans e4, eg⟩
          | rt d4 c4 =>
            cases eg
            exact q
    · have e : i = xs.length := by omega
      subst e
      rw [List.drop_length] at eg
      cases eg
      exact .inl ⟨ok.stop _ H2 (sm.trans S2.s.le) rfl, q σ2 R2 H2 (e1.r.trans sm) S2⟩
  · cases ev
theorem pv_whl {body : ISs} {bs : List Stmt} (hp : PassesOwn (model X.prog X.w) X.A X.env X.xe) (hc : PT X x (rdT (kc X ct) Φ ct a)) (hb : PSs X bs (rdSs (kc X ct) Φ ct F k body)) : PS X (.While x bs [] pos) (rdS (kc X ct) Φ ct F k (.whl a body)) := by
  refine ps_weak (ps_while hp hc hb) fun D σ H ⟨sp, R0, H0, R, ρ, c, fl, S, ev, q⟩ => ?_
  simp only [evS] at ev
  refine ⟨fun n σ H => ∃ R1 ρ c, StOk (kc X ct) sp R0 H0 σ ρ c R1 H ∧ Same R R1 ∧ whlGo (fun ρ c => evE Φ ct a ρ c) (fun ρ c => evSs Φ ct F body ρ c) n ρ c = some fl, ⟨F, R, ρ, c, S, Same.refl _, ev⟩, ?_⟩
  rintro n σ1 H1 ⟨R1, ρ1, c1, S1, sm, eg⟩
  cases n with
  | zero => cases eg
  | succ n =>
    simp only [whlGo] at eg
    split at eg
    · rename_i c2 ea
      refine ⟨sp, R1, ρ1, c1, true, c2, S1.s, ea, fun R2 H2 e2 l2 => ?_⟩
      refine iteT ?_
      cases hb' : evSs Φ ct F body ρ1 c2 with
      | none => simp only [hb'] at eg; cases eg
      | some fl1 =>
        simp only [hb'] at eg
        refine ⟨_, fun σ' H' h => ⟨n, Nat.lt_succ_self n, h⟩, sp, R0, H0, R2, ρ1, c2, fl1, S1.ext e2 l2, hb', ?_⟩
        cases fl1 with
        | nx ρ4 c4 => exact fun σ4 R4 H4 e4 S4 => ⟨R4, ρ4, c4, S4, (sm.trans e2.r).trans e4, eg⟩
        | rt d4 c4 =>
          cases eg
          exact q
    · rename_i c2 ea
      cases eg
      refine ⟨sp, R1, ρ1, c1, false, _, S1.s, ea, fun R2 H2 e2 l2 => ?_⟩
      refine iteF ?_
      exact q σ1 R2 H2 (sm.trans e2.r) (S1.ext e2 l2)
    · cases eg
theorem pv_ret (he : PE X x (rd (kc X ct) Φ ct .S a)) : PS X (.Return (some x) pos) (rdS (kc X ct) Φ ct F .S (.ret a)) := by
  refine ps_weak (ps_ret he) fun D σ H ⟨sp, R0, H0, R, ρ, c, fl, S, ev, q⟩ => ?_
  simp only [evS] at ev
  obtain ⟨⟨d, c1⟩, ea, rfl⟩ := Option.map_eq_some_iff.mp ev
  exact ⟨sp, R, ρ, c, d, c1, S.s, ea, fun v R1 H1 e1 l1 r1 => q v R1 H1 (S.e.trans e1) l1 r1⟩
theorem pv_retN : PS X (.Return none pos) (rdS (kc X ct) Φ ct F .S (.ret .non)) := by
  refine ps_weak ps_retN fun D σ H ⟨sp, R0, H0, R, ρ, c, fl, S, ev, q⟩ => ?_
  simp only [evS, evE, Option.map_some] at ev
  cases ev
  exact q .non R H S.e S.s.cell .non
theorem pv_retF (he : PE X x (rd (kc X ct) Φ ct .F a)) : PS X (.Return (some x) pos) (rdS (kc X ct) Φ ct F .F (.retF a)) := by
  refine ps_weak (ps_ret he) fun D σ H ⟨sp, R0, H0, R, ρ, c, fl, S, ev, q⟩ => ?_
  simp only [evS] at ev
  split at ev
  · rename_i d c1 ea
    split at ev
    · cases ev
      exact ⟨sp, R, ρ, c, d, c1, S.s, ea, fun v R1 H1 e1 l1 r1 => q v R1 H1 (S.e.trans e1) l1 (RepK.low (k := .F) (fun a h => S.e.back h) r1)⟩
    · cases ev
  · cases ev
theorem pv_retO {i : Nat} {n : Str} {p : Pos} (hN : X.N[i]? = some n) (hv : Vis X.env.scope n) (h1 : (n == ("__debug__" : Str)) = false) (h2 : (n == ("__classdict__" : Str)) = false) : PS X (.Return (some (.Name n p)) pos) (rdS (kc X ct) Φ ct F .F (.retO i)) := by
  refine ps_weak (ps_ret (pe_var hN hv h1 h2)) fun D σ H ⟨sp, R0, H0, R, ρ, c, fl, S, ev, q⟩ => ?_
  simp only [evS] at ev
  split at ev
  · rename_i d hi
    cases ev
    obtain ⟨ad, hs, hR, ob⟩ := S.s.slot i _ hi
    refine ⟨_, hs, q _ R H S.e S.s.cell (.inl ⟨?_, ad, rfl, hR, S.own i d ad hi hs, ob⟩)⟩
    cases ob <;> rfl
  · cases ev
theorem pv_drop (he : PE X x (rd (kc X ct) Φ ct .S a)) (hs : notComp x = true) : PS X (.Expr x pos) (rdS (kc X ct) Φ ct F k (.drop a)) := by
  refine ps_weak (ps_expr he (sw_no hs _ _ _)) fun D σ H ⟨sp, R0, H0, R, ρ, c, fl, S, ev, q⟩ => ?_
  simp only [evS] at ev
  obtain ⟨⟨d, c1⟩, ea, rfl⟩ := Option.map_eq_some_iff.mp ev
  exact ⟨sp, R, ρ, c, d, c1, S.s, ea, fun v R1 H1 e1 l1 r1 => q σ R1 H1 e1.r (S.ext e1 l1)⟩
theorem pv_pass : PS X (.Pass pos) (rdS (kc X ct) Φ ct F k .pass) := by
  refine ps_weak ps_pass fun D σ H ⟨sp, R0, H0, R, ρ, c, fl, S, ev, q⟩ => ?_
  simp only [evS] at ev
  cases ev
  exact q σ R H (Same.refl _) S
theorem pv_never {st : Stmt} : PS X st (rdS (kc X ct) Φ ct F k .never) := by
  refine ps_weak ps_never fun D σ H ⟨sp, R0, H0, R, ρ, c, fl, S, ev, q⟩ => ?_
  simp only [evS] at ev
  cases ev
theorem pvs_nil : PSs X [] (rdSs (kc X ct) Φ ct F k .nil) := by
  refine pss_weak pss_nil fun D σ H ⟨sp, R0, H0, R, ρ, c, fl, S, ev, q⟩ => ?_
  simp only [evSs] at ev
  cases ev
  exact q σ R H (Same.refl _) S
theorem pvs_cons {st : Stmt} {r : List Stmt} {s : IS} {rs : ISs} (h1 : PS X st (rdS (kc X ct) Φ ct F k s)) (h2 : PSs X r (rdSs (kc X ct) Φ ct F k rs)) : PSs X (st :: r) (rdSs (kc X ct) Φ ct F k (.cons s rs)) := by
  refine pss_weak (pss_cons h1 h2) fun D σ H ⟨sp, R0, H0, R, ρ, c, fl, S, ev, q⟩ => ?_
  simp only [evSs] at ev
  split at ev
  · rename_i ρ1 c1 e1
    refine ⟨sp, R0, H0, R, ρ, c, _, S, e1, fun σ1 R1 H1 sm S1 => ?_⟩
    exact ⟨sp, R0, H0, R1, ρ1, c1, fl, S1, ev, q.ext sm⟩
  · rename_i hn
    refine ⟨sp, R0, H0, R, ρ, c, fl, S, ev, ?_⟩
    cases fl with
    | nx ρ1 c1 => exact absurd ev (hn ρ1 c1)
    | rt d c1 => exact q
/-- an own object is kept from now on -/
theorem pvs_frz {i : Nat} {r : List Stmt} {rs : ISs} (h : PSs X r (rdSs (kc X ct) Φ ct F k rs)) : PSs X r (rdSs (kc X ct) Φ ct F k (.cons (.frz i) rs)) := by
  refine ⟨fun pins s σ H D I ⟨sp, R0, H0, R, ρ, c, fl, S, ev, q⟩ => ?_⟩
  simp only [evSs, evS] at ev
  cases hi : ρ[i]? with
  | none => rw [hi] at ev; cases ev
  | some z =>
    rw [hi] at ev
    cases z with
    | no => cases ev
    | cell => cases ev
    | sh d => exact h.run pins s σ H D I ⟨sp, R0, H0, R, ρ, c, fl, S, ev, q⟩
    | own d =>
      obtain ⟨ad, hs, hR, ob⟩ := S.s.slot i _ hi
      have h0 := S.own i d ad hi hs
      have nsp : sp ≠ some ad := fun z => S.s.celO ad i d z hi hs
      have hσ : σ.set i (some (some (.ref ad))).join = σ := by
        show σ.set i (some (.ref ad)) = σ
        apply List.ext_getElem?
        intro j
        by_cases e : i = j
        · subst e
          rw [hs, List.getElem?_set_self (List.getElem?_eq_some_iff.mp hs).1]
        · rw [List.getElem?_set_ne e]
      have hσ' : σ.set i (some (.ref ad)) = σ := hσ
      -- what stands when the object joins as u in the region, as u in the heap
      have core : ∀ (R2 H2 : Hp), Same R R2 → Same R2 H2 → (∀ b o, b ≠ ad → H b = some o → H2 b = some o) → (∀ b, b ≠ ad → R2 b = R b) → (∀ o, H ad = some o → ∃ o', H2 ad = some o') → Rp (kc X ct) R2 (.ref ad) d → StOk (kc X ct) sp R0 H0 σ (ρ.set i (.sh d)) c R2 H2 := by
        intro R2 H2 e1 e2 e3 e4 e5 rp
        have dr := S.s.drop i
        have S2 : SRel (kc X ct) sp R2 H2 σ (ρ.set i .no) c := by
          refine ⟨e2, dr.len, fun j x hx => ?_, dr.sep, fun b hb => ?_, dr.celO⟩
          · have g := dr.slot j x hx
            cases x with
            | no => exact True.intro
            | sh d' => obtain ⟨v, g1, g2⟩ := g; exact ⟨v, g1, g2.mono e1⟩
            | own d' =>
              obtain ⟨b, g1, g2, g3⟩ := g
              have hb : b ≠ ad := fun z => by
                subst z
                rcases set_none hx with ⟨_, z, _⟩ | ⟨e, hx⟩
                · cases z
                · exact e (S.s.sep i j d d' b hi hx hs g1)
              exact ⟨b, g1, by rw [e4 b hb]; exact g2, g3.mono e1 fun o w => e3 b o hb w⟩
            | cell => exact g
          · obtain ⟨g1, g2⟩ := S.s.cel b hb
            have hb' : b ≠ ad := fun z => nsp (by rw [← z]; exact hb)
            exact ⟨by rw [e4 b hb']; exact g1, g2.mono e1 fun o w => e3 b o hb' w⟩
        have S3 := S2.put rp i
        rw [List.set_set, hσ'] at S3
        refine ⟨⟨S.e.r.trans e1, e2, fun b o w => ?_, fun b o w n => ?_, fun b o w => ?_⟩, S3, fun j dj b k1 k2 => ?_⟩
        · by_cases hb : b = ad
          · subst hb; exact .inr (.inl h0)
          · rw [e4 b hb] at w; exact S.e.fresh b o w
        · exact e3 b o (fun z => by subst z; rw [h0] at w; cases w) (S.e.keep b o w n)
        · obtain ⟨o', w'⟩ := S.e.dom b o w
          exact ⟨o', e3 b o' (fun z => by subst z; rw [h0] at w; cases w) w'⟩
        · rcases set_none k1 with ⟨_, z, _⟩ | ⟨_, k1⟩
          · cases z
          · exact S.own j dj b k1 k2
      have upR : ∀ u, Same R (upd R ad u) := fun u b o w => by rw [upd_ne (ne_of_none w hR)]; exact w
      cases ob with
      | lst k1 k2 =>
        refine h.run pins s σ H D I ⟨sp, R0, H0, _, _, c, fl, core _ H (upR (.lst _)) (fun b o w => ?_) (fun b o _ w => w) (fun b hb => upd_ne hb) (fun o w => ⟨o, w⟩) (.lst (.inl upd_same) (k2.mono (upR _))), ev, q.ext (upR _)⟩
        by_cases hb : b = ad
        · subst hb; rw [upd_same] at w; cases w; exact k1
        · rw [upd_ne hb] at w; exact S.s.le _ _ w
      | @dK kvs ds k1 k2 =>
        obtain ⟨od, I2⟩ := I.lock (d := ad) (u := .dK kvs) k1 True.intro
        refine h.run pins s σ _ D I2 ⟨sp, R0, H0, _, _, c, fl, core _ _ (upR (.frz od (.dK kvs))) (fun b o w => ?_) (fun b o hb w => by rw [upd_ne hb]; exact w) (fun b hb => upd_ne hb) (fun o w => ⟨_, upd_same⟩) (.dK upd_same (k2.mono (upR _))), ev, q.ext (upR _)⟩
        by_cases hb : b = ad
        · subst hb; rw [upd_same] at w ⊢; exact w
        · rw [upd_ne hb] at w ⊢; exact S.s.le _ _ w
      | @dT kvs ds k1 k2 =>
        obtain ⟨od, I2⟩ := I.lock (d := ad) (u := .dT kvs) k1 True.intro
        refine h.run pins s σ _ D I2 ⟨sp, R0, H0, _, _, c, fl, core _ _ (upR (.frz od (.dT kvs))) (fun b o w => ?_) (fun b o hb w => by rw [upd_ne hb]; exact w) (fun b hb => upd_ne hb) (fun o w => ⟨_, upd_same⟩) (.dT upd_same (k2.mono (upR _))), ev, q.ext (upR _)⟩
        by_cases hb : b = ad
        · subst hb; rw [upd_same] at w ⊢; exact w
        · rw [upd_ne hb] at w ⊢; exact S.s.le _ _ w
end
end Pv
end
section
set_option Elab.async false
set_option linter.all false
set_option maxRecDepth 100000
/-! Pv.Za: a, b = x, y; extend. -/
namespace Pv
open PySem PySem.Spec L2
def isStar : Expr → Bool
  | .Starred .. => true
  | _ => false
def swN1 (sc : Scope) (line : Nat) : Expr → Option Str
  | .Name id pos => if (sc.names.lookup id == some .local && pos.line == line) = true then some id else none
  | _ => none
def swN (sc : Scope) (ts : List Expr) : List Str := ts.filterMap (swN1 sc ((ts.head?.map (·.pos.line)).getD 0))
/-- what the stores of a, b = x, y are, by the text -/
def swR (sc : Scope) (ts vs : List Expr) : Option (Option (List Str)) :=
  if (!(ts.length == 2 || ts.length == 3) || vs.length != ts.length) = true then some none
  else if (vs.any isStar) = true then some none
  else if ((swN sc ts).length != ts.length || (swN sc ts).eraseDups.length != (swN sc ts).length) = true then some none
  else if vs.all (foldedForSure 8) = true then some none
  else if vs.all (constantsAlone 8) = true then none
  else some (some (swN sc ts))
theorem sw_eq {sc : Scope} {ts vs : List Expr} {k k2 : Nat} {p p2 : Pos} {env : Env} {r : Option (List Str)} (hs : env.scope = sc) (hk : sc.kind = .function) (h : swR sc ts vs = some r) :
    swappedStores [.Tuple ts k p] (.Tuple vs k2 p2) env = pure r := by
  have hb : env.blockKind = .function := by unfold Env.blockKind; rw [hs, hk]; rfl
  subst hs
  have e0 : swappedStores [.Tuple ts k p] (.Tuple vs k2 p2) env = (if (!(ts.length == 2 || ts.length == 3) || vs.length != ts.length || env.blockKind != .function) = true then pure none
    else if (vs.any isStar) = true then pure none
    else if ((swN env.scope ts).length != ts.length || (swN env.scope ts).eraseDups.length != (swN env.scope ts).length) = true then pure none
    else if vs.all (foldedForSure 8) = true then pure none
    else if vs.all (constantsAlone 8) = true then (do unsupported "assign.tuple-of-constant-expressions:order-of-the-stores"; pure (some (swN env.scope ts)))
    else pure (some (swN env.scope ts))) := rfl
  rw [e0, hb]
  have hf : (ScopeKind.function != ScopeKind.function) = false := rfl
  rw [hf, Bool.or_false]
  unfold swR at h
  repeat' split at h
  all_goals first | cases h | skip
  all_goals simp only [*, if_true, if_false, Bool.false_eq_true]
theorem setV_cons (σ : St) (i : Nat) (is : List Nat) (x : V) (xs : List V) : setV σ (i :: is) (x :: xs) = setV (σ.set i (some x)) is xs := by
  unfold setV; rw [List.zip_cons_cons, List.foldl_cons]
theorem setV_out {i : Nat} {x : V} : ∀ {is : List Nat} {xs : List V} {σ : St}, i ∉ is → setV (σ.set i (some x)) is xs = (setV σ is xs).set i (some x)
  | [], xs, σ, _ => by unfold setV; simp
  | j :: is, [], σ, _ => by unfold setV; simp
  | j :: is, y :: xs, σ, h => by
    simp only [List.mem_cons, not_or] at h
    rw [setV_cons, setV_cons, set_comm _ _ _ _ _ h.1, setV_out h.2]
theorem setV_app (i : Nat) (x : V) : ∀ {is : List Nat} {xs : List V} {σ : St}, is.length = xs.length → setV σ (is ++ [i]) (xs ++ [x]) = (setV σ is xs).set i (some x)
  | [], [], σ, _ => by unfold setV; simp
  | j :: is, y :: xs, σ, h => by
    rw [List.cons_append, List.cons_append, setV_cons, setV_cons]
    exact setV_app i x (by simpa using h)
theorem setV_rev : ∀ {is : List Nat} {xs : List V} {σ : St}, is.Nodup → is.length = xs.length → setV σ is.reverse xs.reverse = setV σ is xs
  | [], [], σ, _, _ => rfl
  | i :: is, x :: xs, σ, nd, hl => by
    obtain ⟨n1, n2⟩ := List.nodup_cons.mp nd
    have hl' : is.length = xs.length := by simpa using hl
    rw [List.reverse_cons, List.reverse_cons, setV_app i x (by rw [List.length_reverse, List.length_reverse]; exact hl'), setV_rev n2 hl', setV_cons, setV_out n1]
section
variable {X : Cx} {Φ : List Fn} {ct : Ct} {F : Nat} {k : Kd} {pos : Pos} {x y z : Expr} {a b : IE}
/-- place i is the local name n -/
def NmAt (X : Cx) (i : Nat) (n : Str) : Prop := X.N[i]? = some n ∧ X.env.scope.names.lookup n = some .local
theorem paired_snoc {α β : Type} {G : α → β → Prop} : ∀ {l : List α} {m : List β} {x : α} {y : β}, Paired G l m → G x y → Paired G (l ++ [x]) (m ++ [y])
  | _, _, _, _, .nil, g => .cons g .nil
  | _, _, _, _, .cons h t, g => .cons h (paired_snoc t g)
theorem paired_rev {α β : Type} {G : α → β → Prop} : ∀ {l : List α} {m : List β}, Paired G l m → Paired G l.reverse m.reverse
  | _, _, .nil => .nil
  | _, _, .cons h t => by rw [List.reverse_cons, List.reverse_cons]; exact paired_snoc (paired_rev t) h
theorem bind_all (hN : X.N.Nodup) {pins : List (Addr × Obj)} {H : Hp} {E : Value → Shared → Prop} : ∀ {is : List Nat} {ns : List Str} {xs : List V} {us : List Value} {σ : St} {s : Shared} {Q : Unit → Shared → Prop}, Paired (NmAt X) is ns → Paired RelV xs us → is.length = xs.length → Inv X pins σ H s →
    (∀ s', Inv X pins (setV σ is xs) H s' → Q () s') → wpAny (model X.prog X.w) X.A (assignInOrder (ns.map fun n => bindName X.env n) us) Q E s
  | _, _, [], _, σ, s, Q, .nil, .nil, _, I, h => PyProof.Rows.assignInOrder_nil (h s (by unfold setV; simpa using I))
  | _, _, _ :: _, _, σ, s, Q, .nil, _, hl, I, h => by cases hl
  | _, _, [], _, σ, s, Q, .cons _ _, _, hl, I, h => by cases hl
  | _, _, _, _, σ, s, Q, .cons g t, .cons r rr, hl, I, h => by
    rw [List.map_cons]
    refine PyProof.Rows.assignInOrder_cons (wpAny_bindName (store_ok I hN g.1 (.inl g.2) r (fun s2 I2 => ?_) (.inr g.2)))
    exact bind_all hN t rr (by simpa using hl) I2 fun s' I' => h s' (by rw [setV_cons]; exact I')
def tParN (is : List Nat) (ta : TA) : TS := fun D σ H => ta σ H fun vs H1 => vs.length = is.length ∧ D.nx (setV σ is vs) H1
theorem ps_parN {is : List Nat} {ns : List Str} {ts vs : List Expr} {ta : TA} {pt pt2 : Pos} {kt k2 : Nat} (hc : X.calm = true) (hN : X.N.Nodup) (hp : Paired (NmAt X) is ns) (nd : is.Nodup) (h1 : is ≠ []) (h3 : is.length ≤ 3) (ha : PA X vs ta)
    (hw : swappedStores [.Tuple ts kt pt] (.Tuple vs k2 pt2) X.env = pure (some ns)) : PS X (.Assign [.Tuple ts kt pt] (.Tuple vs k2 pt2) pos) (tParN is ta) := by
  refine ⟨fun pins s σ H D I h => ?_⟩
  rw [exec_Assign_arm]
  refine wpAny_bind (wpAny_standAt ?_)
  rw [sw_sole (e := .Tuple vs k2 pt2) rfl]
  refine wpAny_bind (wpAny_pure ?_)
  rw [if_neg (by decide)]
  refine wpAny_bind (PyProof.Rows.Tuple_ (thn (ha.run _ pins s σ H _ I h) fun us s1 ⟨xs, H1, I1, r1, hl, q1⟩ => ?_))
  have hlen : xs.length = us.length := r1.length
  cases us with
  | nil =>
    exfalso
    rw [hl] at hlen
    exact h1 (List.length_eq_zero_iff.mp hlen)
  | cons u us =>
    refine wpAny_newObj_type ?_ (by
      show (u :: us).toArray.size ≤ sizeLine
      rw [List.size_toArray, ← hlen, hl, sizeLine_eq]; omega)
    have I2 : Inv X pins σ H1 { s1 with heap := s1.heap.push { cls := .type "tuple", data := .seq (u :: us).toArray } } := I1.kept (t' := s1.toks) fun b o e => Heap.get?_push_of_some _ e
    rw [hw]
    refine wpAny_bind (wpAny_pure ?_)
    have hns : ns.length = (u :: us).toArray.size := by rw [List.size_toArray, ← hlen, hl]; exact (Paired.length hp).symm
    show wpAny (model X.prog X.w) X.A (do rule "assign.swapped-stores"; let items ← unpackItems (.ref s1.heap.objs.size) ns.length none; assignInOrder (ns.reverse.map fun n => bindName X.env n) items.reverse; pure Flow.next) _ _ _
    rw [hns]
    refine wpAny_bind (wpAny_rule (wpAny_bind (PyProof.Rows.unpackItems_tuple (items := (u :: us).toArray) (I.ok.hd hc) (PyProof.Rows.IsTup.new s1.heap _) fun h' hx' => ?_)))
    have I3 := I2.kept (h' := h') (t' := s1.toks) fun b o e => hx' b o (Nat.ne_of_lt (Heap.lt_size e)) e
    refine wpAny_bind (bind_all hN (paired_rev hp) (paired_rev r1) (by rw [List.length_reverse, List.length_reverse]; exact hl.symm) I3 fun s' I' => wpAny_pure ?_)
    rw [setV_rev nd hl.symm] at I'
    exact ⟨_, H1, I', q1⟩
/-! ### its reading -/
/-- the state σ1, ρ1 (to be) behind the stores; σ, ρ: as it is read -/
def rdP (K : Kc) (Φ : List Fn) (ct : Ct) (is : List Nat) (os : List Bool) (es : IEs) : TA := fun σ H Q =>
  ∃ (sp : Option Addr) (R0 H0 R : Hp) (ρ : List Sl) (c : Dt) (l : List Sl) (ds : List Dt) (c' : Dt) (σ1 : St) (ρ1 : List Sl), StOk K sp R0 H0 σ ρ c R H ∧ StOk K sp R0 H0 σ1 ρ1 c R H ∧ evEs Φ ct es ρ c = some (l, c') ∧ allSh l = some ds ∧ is.length = ds.length ∧ os.length = ds.length ∧
    ((os.zip ds).all fun p => !p.1 || ownable p.2) = true ∧ ∀ vs R' H', Same R R' → vs.length = ds.length → StOk K sp R0 H0 (setV σ1 is vs) (putP is os ds ρ1) c' R' H' → Q vs H'
theorem qp_nil : PA X [] (rdP (kc X ct) Φ ct [] [] .nil) := pa_weak pa_nil fun σ H Q ⟨sp, R0, H0, R, ρ, c, l, ds, c', σ1, ρ1, S, S1, ev, hd, h1, h2, h3, q⟩ => by
  cases ev; cases hd
  exact q [] R H (Same.refl _) rfl S1
theorem StOk.put {K : Kc} {sp : Option Addr} {R0 H0 R H : Hp} {σ : St} {ρ : List Sl} {c d : Dt} {v : V} (S : StOk K sp R0 H0 σ ρ c R H) (r : Rp K R v d) (i : Nat) : StOk K sp R0 H0 (σ.set i (some v)) (ρ.set i (.sh d)) c R H :=
  ⟨S.e, S.s.put r i, fun j dj b h1 h2 => by
    rcases set_none h1 with ⟨_, z, _⟩ | ⟨e, h1⟩
    · cases z
    · rw [List.getElem?_set_ne e] at h2
      exact S.own j dj b h1 h2⟩
theorem evP {e : IE} {r : IEs} {ρ : List Sl} {c c' : Dt} {l : List Sl} {ds : List Dt} (ev : evEs Φ ct (.cons e r) ρ c = some (l, c')) (hd : allSh l = some ds) : ∃ d c1 l' ds', evE Φ ct e ρ c = some (d, c1) ∧ evEs Φ ct r ρ c1 = some (l', c') ∧ allSh l' = some ds' ∧ ds = d :: ds' := by
  simp only [evEs] at ev
  split at ev
  · rename_i d c1 ea
    split at ev
    · rename_i l' c2 er
      cases ev
      simp only [allSh] at hd
      split at hd
      · rename_i ds' hd'
        cases hd
        exact ⟨d, c1, l', ds', ea, er, hd', rfl⟩
      · cases hd
    · cases ev
  · cases ev
theorem qp_consS {i : Nat} {is : List Nat} {os : List Bool} {es : List Expr} {r : IEs} (ha : PE X x (rd (kc X ct) Φ ct .S a)) (hs : notStar x = true) (hr : PA X es (rdP (kc X ct) Φ ct is os r)) : PA X (x :: es) (rdP (kc X ct) Φ ct (i :: is) (false :: os) (.cons a r)) := by
  refine pa_weak (pa_cons ha hr (star_no hs _ _)) fun σ H Q ⟨sp, R0, H0, R, ρ, c, l, ds, c', σ1, ρ1, S, S1, ev, hd, h1, h2, h3, q⟩ => ?_
  obtain ⟨d, c1, l', ds', ea, er, hd', rfl⟩ := evP ev hd
  refine ⟨sp, R, ρ, c, d, c1, S.s, ea, fun v R1 H1 e1 l1 r1 => ?_⟩
  refine ⟨sp, R0, H0, R1, ρ, c1, l', ds', c', σ1.set i (some v), ρ1.set i (.sh d), S.ext e1 l1, (S1.ext e1 l1).put r1 i, er, hd', by simpa using h1, by simpa using h2, by simpa using h3, fun vs R2 H2 sm hl S2 => ?_⟩
  refine q (v :: vs) R2 H2 (e1.r.trans sm) (by rw [List.length_cons, List.length_cons, hl]) ?_
  rw [setV_cons]
  exact S2
theorem qp_consF {i : Nat} {is : List Nat} {os : List Bool} {es : List Expr} {r : IEs} (ha : PE X x (rd (kc X ct) Φ ct .F a)) (hs : notStar x = true) (hr : PA X es (rdP (kc X ct) Φ ct is os r)) : PA X (x :: es) (rdP (kc X ct) Φ ct (i :: is) (true :: os) (.cons a r)) := by
  refine pa_weak (pa_cons ha hr (star_no hs _ _)) fun σ H Q ⟨sp, R0, H0, R, ρ, c, l, ds, c', σ1, ρ1, S, S1, ev, hd, h1, h2, h3, q⟩ => ?_
  obtain ⟨d, c1, l', ds', ea, er, hd', rfl⟩ := evP ev hd
  refine ⟨sp, R, ρ, c, d, c1, S.s, ea, fun v R1 H1 e1 l1 r1 => ?_⟩
  simp only [List.zip_cons_cons, List.all_cons, Bool.and_eq_true, Bool.not_true, Bool.false_or] at h3
  rcases r1 with ⟨_, p, rfl, g1, g0, ob⟩ | ⟨no, _⟩
  · refine ⟨sp, R0, H0, R1, ρ, c1, l', ds', c', σ1.set i (some (.ref p)), ρ1.set i (.own d), S.ext e1 l1, S1.asgO e1 l1 g0 g1 ob i, er, hd', by simpa using h1, by simpa using h2, h3.2, fun vs R2 H2 sm hl S2 => ?_⟩
    refine q (_ :: vs) R2 H2 (e1.r.trans sm) (by rw [List.length_cons, List.length_cons, hl]) ?_
    rw [setV_cons]
    exact S2
  · rw [h3.1] at no; cases no
theorem pv_asgP {is : List Nat} {os : List Bool} {es : IEs} {ns : List Str} {ts vs : List Expr} {pt pt2 : Pos} {kt k2 : Nat} (hc : X.calm = true) (hN : X.N.Nodup) (hp : Paired (NmAt X) is ns) (nd : is.Nodup) (h1 : is ≠ []) (h3 : is.length ≤ 3) (ha : PA X vs (rdP (kc X ct) Φ ct is os es))
    (hw : swappedStores [.Tuple ts kt pt] (.Tuple vs k2 pt2) X.env = pure (some ns)) : PS X (.Assign [.Tuple ts kt pt] (.Tuple vs k2 pt2) pos) (rdS (kc X ct) Φ ct F k (.asgP is os es)) := by
  refine ps_weak (ps_parN hc hN hp nd h1 h3 ha hw) fun D σ H ⟨sp, R0, H0, R, ρ, c, fl, S, ev, q⟩ => ?_
  simp only [evS] at ev
  split at ev
  · rename_i l c1 e1
    split at ev
    · rename_i ds hd
      split at ev
      · rename_i hh
        cases ev
        exact ⟨sp, R0, H0, R, ρ, c, l, ds, c1, σ, ρ, S, S, e1, hd, hh.1, hh.2.1, hh.2.2, fun xs R' H' sm hl S' => ⟨by rw [hl, hh.1], q _ R' H' sm S'⟩⟩
      · cases ev
    · cases ev
  · cases ev
end
end Pv
end
section
set_option Elab.async false
set_option linter.all false
set_option maxRecDepth 100000
/-! Pv.Zx: extend; o[i], n = ..; a, b = x, y where the pair is really made. -/
namespace Pv
open PySem PySem.Spec L2
section
variable {X : Cx} {Φ : List Fn} {ct : Ct} {F : Nat} {k : Kd} {pos : Pos} {x y z : Expr} {a b : IE}
/-- extend by a list that may be frozen -/
def rExtR : V → List V → Hp → VK → Prop := fun x vs H Q =>
  ∃ l b xs zs, x = .ref l ∧ vs = [.ref b] ∧ H l = some (.lst xs) ∧ Rd H b (.lst zs) ∧
    xs.length + zs.length ≤ sizeLine ∧ Q .non (upd H l (.lst (xs ++ zs)))
theorem mt_extR : MtM X "list.extend" rExtR := by
  intro pins s σ H x vs v us Q I rx rv ⟨l, b, xs, zs, hx, hvs, hH, hB, hz, q⟩
  subst hx hvs
  cases rx
  obtain ⟨u, hu, ru⟩ := rv.one
  subst hu
  cases ru
  obtain ⟨z, its, n, r, hl, e⟩ := I.lstM hH
  obtain ⟨z2, its2, n2, r2, e2⟩ := hB.ok I.hok
  have hl2 := r2.length
  have hsz : its.toArray.size + its2.toArray.size ≤ sizeLine := by simp only [List.size_toArray]; omega
  have hlong : ¬ (!its.toArray.isEmpty && Builtin.List.listTooLong (its.toArray.size + its2.toArray.size)) = true := by
    intro h
    rw [notLongL hsz] at h
    simp at h
  refine call_meets F.slot_list_extend ⟨_, e, rfl⟩ F.entry_list_extend (F.args_list_extend_2 _ _) (AutoSeq1.list_extend_list_list_0 l its.toArray n b its2.toArray n2
    hlong (by simp only [List.size_toArray]; omega) (by omega)) ⟨e, e2, .non, _, I.lset (its' := its ++ its2) hH e (by simp) (r.append r2) (by simp only [List.length_append]; omega), rfl, q⟩
theorem pv_extd {i : Nat} {n : Str} {p apos p2 : Pos} (hN : X.N[i]? = some n) (hv : Vis X.env.scope n) (h1 : (n == ("__debug__" : Str)) = false) (h2 : (n == ("__classdict__" : Str)) = false) (he : PE X x (rd (kc X ct) Φ ct .B a)) (hn : notStar x = true) (hline : (apos.endLine == p2.line) = true) :
    PS X (.Expr (.Call (.Attribute (.Name n p) "extend" apos) [x] [] p2) pos) (rdS (kc X ct) Φ ct F k (.extd i a)) := by
  have ha : PA X [x] (tCons (rd (kc X ct) Φ ct .B a) tNil) := pa_cons he pa_nil (star_no hn _ _)
  refine ps_weak (ps_expr (pe_mx (ty := isLst) PySem.F.plainAttrs_list PySem.F.slot_list_extend PySem.F.type_list_extend (fun _ _ _ _ _ _ I r h => isLst_ty I r h) mt_extR (pe_var hN hv h1 h2) ha base_name (by simp [noStar, hn]) (by show 1 < 30; decide) hline) (sw_no rfl _ _ _)) fun D σ H ⟨sp, R0, H0, R, ρ, c, fl, S, ev, q⟩ => ?_
  simp only [evS] at ev
  split at ev
  · rename_i d c1 ea
    split at ev
    · rename_i o hi
      obtain ⟨o', ho, rfl⟩ := Option.map_eq_some_iff.mp ev
      unfold extD at ho
      split at ho
      · rename_i l m
        split at ho
        · rename_i hlen
          cases ho
          obtain ⟨ad, hs, hR, ob⟩ := S.s.slot i _ hi
          obtain ⟨xs, g1, g2⟩ := lst_of ob
          refine ⟨_, hs, ⟨ad, xs, rfl, .inl g1⟩, sp, R, ρ, c, _, c1, S.s, ea, fun v R1 H1 e1 l1 r1 => ?_⟩
          have S1 := S.ext e1 l1
          have hm : modS ρ i c1 (fun _ => some (.list (l ++ m))) = some (.nx (ρ.set i (.own (.list (l ++ m)))) c1) := by unfold modS; rw [hi]; rfl
          obtain ⟨ad', dd, d2, ρ2, c3, hs', ob', hg, hfl, hR', fin⟩ := S1.mod hm
          rw [hs] at hs'
          cases hs'
          cases hg
          cases hfl
          have nsp : sp ≠ some ad := fun z => S.s.celO ad i _ z hi hs
          have h3 := e1.keep _ _ g1 nsp
          obtain ⟨w, zs, rfl, f1, f2⟩ := (Rv.rb r1).list e1.le
          exact ⟨ad, w, xs, zs, rfl, rfl, h3, f1, by rw [g2.length, f2.length, line_eq]; exact hlen, q σ R1 _ e1.r (fin _ (.lst upd_same ((g2.mono e1.r).append f2)))⟩
        · cases ho
      · cases ho
    · cases ev
  · cases ev
/-- o[i], m = a call that hands back a pair -/
theorem pv_asgSN {i j : Nat} {n m : Str} {p p2 p3 pt pc : Pos} {kt : Nat} {fx : Expr} {args : List Expr} {kws : List Keyword} (hc : X.calm = true) (hu : X.A.units + 1 < cLine) (hN : X.N[i]? = some n) (hv : Vis X.env.scope n) (h1 : (n == ("__debug__" : Str)) = false) (h2 : (n == ("__classdict__" : Str)) = false) (hnd : X.N.Nodup) (hj : X.N[j]? = some m) (hx : Loc X.env.scope m) (hf : X.fn m = true ∨ X.env.scope.names.lookup m = some .local)
    (hix : ∀ v, assign (.Subscript (.Name n p) y p2) X.env v = (do
      let ov ← holding [v] (eval (.Name n p) X.env)
      let iv ← holding [v, ov] (eval y X.env)
      standAt p2
      holding [v, ov, iv] (setItem ov iv v)
      release [v, ov, iv] [])) (hi : PE X y (rd (kc X ct) Φ ct .B b)) (he : PE X (.Call fx args kws pc) (rd (kc X ct) Φ ct .S a)) :
    PS X (.Assign [.Tuple [.Subscript (.Name n p) y p2, .Name m p3] kt pt] (.Call fx args kws pc) pos) (rdS (kc X ct) Φ ct F k (.asgSN i b j a)) := by
  refine ps_weak (ps_asg he (pg_tup hc (pgs_cons (pg_sub (pe_var hN hv h1 h2) hi (set_X hu) hix) (pgs_cons (pg_name hnd hj hx hf) pgs_nil))) rfl rfl rfl) fun D σ H ⟨sp, R0, H0, R, ρ, c, fl, S, ev, q⟩ => ?_
  simp only [evS] at ev
  split at ev
  · rename_i dx dy c1 ea
    split at ev
    · rename_i kd c2 eb
      split at ev
      · rename_i ρ1 c3 hm
        cases ev
        refine ⟨sp, R, ρ, c, _, c1, S.s, ea, fun v R1 H1 e1 l1 r1 => ?_⟩
        have S1 := S.ext e1 l1
        have r1' : Rp (kc X ct) R1 v (.tuple [dx, dy]) := r1
        cases r1' with
        | tup g1 g2 =>
          cases g2 with
          | cons ra g2 =>
            cases g2 with
            | cons rb g2 =>
              cases g2
              obtain ⟨ad, hs⟩ := S1.ref hm
              refine ⟨_, _, rfl, sqT_mono S1.s.le g1.sq, rfl, _, _, rfl, ?_⟩
              refine ⟨_, hs, sp, R1, ρ, c1, kd, c2, S1.s, eb, fun kv R2 H2 e2 l2 r2 => ?_⟩
              have S2 := S1.ext e2 l2
              obtain ⟨ad', dd, d2, ρ2, c4, hs', ob, hg, hfl, hR, fin⟩ := S2.mod hm
              rw [hs] at hs'
              cases hs'
              cases hfl
              obtain ⟨o, ob', st⟩ := store_of (K := kc X ct) (sp := sp) S2.s.le ob (Rv.rb r2) (Rp.mono e2.r ra) hg
              exact st _ ⟨_, _, rfl, rfl, q _ R2 _ (e1.r.trans e2.r) ((fin o ob').put (Rp.mono e2.r rb) j)⟩
      · cases ev
    · cases ev
  · cases ev
theorem ps_parD {sc : Scope} {fnk : Str → Bool} {is : List Nat} {ts vs : List Expr} {ta : TA} {pt pt2 : Pos} {kt k2 : Nat} (hc : X.calm = true) (hN : X.N.Nodup) (hs : X.env.scope = sc) (hf : X.fn = fnk) (hp : namesTg X.N sc fnk is ts = true) (h3 : is.length ≤ 3) (ha : PA X vs ta)
    (hw : swappedStores [.Tuple ts kt pt] (.Tuple vs k2 pt2) X.env = pure none) : PS X (.Assign [.Tuple ts kt pt] (.Tuple vs k2 pt2) pos) (tParN is ta) := by
  obtain ⟨i1, i2, i3⟩ := names_pgs hN hs hf hp
  refine ⟨fun pins s σ H D I h => ?_⟩
  refine wpAny_Assign_stores (PyProof.Rows.Tuple_ (thn (ha.run _ pins s σ H _ I h) fun us s1 ⟨xs, H1, I1, r1, hl, q1⟩ => ?_)) (sw_sole (e := .Tuple vs k2 pt2) rfl _ _ _) hw
  have hlen : xs.length = us.length := r1.length
  refine wpAny_newObj_type ?_ (by
    show us.toArray.size ≤ sizeLine
    rw [List.size_toArray, ← hlen, hl, sizeLine_eq]; omega)
  have I2 : Inv X pins σ H1 { s1 with heap := s1.heap.push { cls := .type "tuple", data := .seq us.toArray } } := I1.kept (t' := s1.toks) fun b o e => Heap.get?_push_of_some _ e
  show wpAny (model X.prog X.w) X.A (assign (.Tuple ts kt pt) X.env (.ref s1.heap.objs.size)) _ _ _
  refine PyProof.Rows.assign_Tuple_tuple (I.ok.hd hc) (PyProof.Rows.IsTup.new s1.heap _) (by rw [i2, List.size_toArray, ← hlen, hl]) i3 fun h' hx => ?_
  have I3 := I2.kept (h' := h') (t' := s1.toks) fun b o e => hx b o (Nat.ne_of_lt (Heap.lt_size e)) e
  exact thn (i1.run pins _ σ H1 xs _ _ I3 (by simpa using r1) ⟨hl, q1⟩) fun _ s' ⟨σ', H', I', q'⟩ => ⟨σ', H', I', q'⟩
theorem pv_asgD {sc : Scope} {fnk : Str → Bool} {is : List Nat} {os : List Bool} {es : IEs} {ts vs : List Expr} {pt pt2 : Pos} {kt k2 : Nat} (hc : X.calm = true) (hN : X.N.Nodup) (hs : X.env.scope = sc) (hf : X.fn = fnk) (hp : namesTg X.N sc fnk is ts = true) (h3 : is.length ≤ 3) (ha : PA X vs (rdP (kc X ct) Φ ct is os es))
    (hw : swappedStores [.Tuple ts kt pt] (.Tuple vs k2 pt2) X.env = pure none) : PS X (.Assign [.Tuple ts kt pt] (.Tuple vs k2 pt2) pos) (rdS (kc X ct) Φ ct F k (.asgP is os es)) := by
  refine ps_weak (ps_parD hc hN hs hf hp h3 ha hw) fun D σ H ⟨sp, R0, H0, R, ρ, c, fl, S, ev, q⟩ => ?_
  simp only [evS] at ev
  split at ev
  · rename_i l c1 e1
    split at ev
    · rename_i ds hd
      split at ev
      · rename_i hh
        cases ev
        exact ⟨sp, R0, H0, R, ρ, c, l, ds, c1, σ, ρ, S, S, e1, hd, hh.1, hh.2.1, hh.2.2, fun xs R' H' sm hl S' => ⟨by rw [hl, hh.1], q _ R' H' sm S'⟩⟩
      · cases ev
    · cases ev
  · cases ev
end
end Pv
end
section
set_option Elab.async false
set_option linter.all false
set_option maxRecDepth 100000
/-! Pv.Zb: which statement a word stands for; the checker is right. -/
namespace Pv
open PySem PySem.Spec L2
def isCompE : IE → Bool
  | .comp .. => true
  | .comp2 .. => true
  | _ => false
/-- a tuple display stored in a tuple of names: the pair is really made -/
def swNone (sc : Scope) : Expr → Expr → Bool
  | .Tuple ts _ _, .Tuple vs _ _ => decide (swR sc ts vs = some none)
  | .List .., _ => false
  | _, _ => true
def isNm : Expr → Bool
  | .Name .. => true
  | _ => false
def tgNm : Tg → Bool
  | .nm _ => true
  | _ => false
def mtP (T : Tb) (N : List Str) : IEs → List Bool → Scope → (Str → Bool) → List Expr → Bool
  | .nil, [], _, _, [] => true
  | .cons e r, o :: os, sc, f, x :: xs => mtE T N e sc f x && notStar x && (if o then frB T e else shB e) && mtP T N r os sc f xs
  | _, _, _, _, _ => false
mutual
def mtS (T : Tb) (N : List Str) (fo : Bool) (sc : Scope) (fnk : Str → Bool) : IS → Stmt → Bool
  | .asg tg e, .Assign [t] x _ => mtE T N e sc fnk x && tgC N sc fnk tg t && ((notComp x && shB e && swNone sc t x) || (isCompE e && tgNm tg))
  | .asgO i e, .Assign [.Name n _] x _ => nmC N i n && locC sc fnk n && mtE T N e sc fnk x && frB T e && (notComp x || isCompE e)
  | .asgMv i j, .Assign [.Name n _] (.Name m _) _ => nmC N i n && locC sc fnk n && nmC N j m && visC sc m
  | .asgP is os es, .Assign [.Tuple ts _ _] (.Tuple vs _ _) _ => namesTg N sc fnk is ts && (match swR sc ts vs with | some (some ns) => decide (ns = swN sc ts) && decide ((swN sc ts).length = ts.length) | some none => true | _ => false) && decide is.Nodup && decide (is ≠ []) && decide (is.length ≤ 3) && mtP T N es os sc fnk vs && decide (is.length = os.length)
  | .setI i ixe e, .Assign [.Subscript (.Name n _) y _] x _ => nmC N i n && visC sc n && mtE T N ixe sc fnk y && ixOk y && mtE T N e sc fnk x && shB e && notComp x
  | .app i e, .Expr (.Call (.Attribute (.Name n _) m ap) [x] [] p2) _ => decide (m = ("append" : Str)) && nmC N i n && visC sc n && mtE T N e sc fnk x && shB e && notStar x && (ap.endLine == p2.line)
  | .extd i e, .Expr (.Call (.Attribute (.Name n _) m ap) [x] [] p2) _ => decide (m = ("extend" : Str)) && nmC N i n && visC sc n && mtE T N e sc fnk x && notStar x && (ap.endLine == p2.line)
  | .asgSN i ixe j e, .Assign [.Tuple [.Subscript (.Name n _) y _, .Name m _] _ _] (.Call fx args kws pc) _ => nmC N i n && visC sc n && mtE T N ixe sc fnk y && ixOk y && nmC N j m && locC sc fnk m && mtE T N e sc fnk (.Call fx args kws pc) && shB e
  | .ife c a b, .If t p q _ => mtE T N c sc fnk t && mtSs T N fo sc fnk a p && mtSs T N fo sc fnk b q
  | .for_ tg it body, .For t iter bs [] _ => mtI T N it sc fnk iter t && notSet iter && tgC N sc fnk tg t && mtSs T N fo sc fnk body bs
  | .whl c body, .While t bs [] _ => mtE T N c sc fnk t && mtSs T N fo sc fnk body bs
  | .ret e, .Return (some x) _ => !fo && mtE T N e sc fnk x && shB e
  | .ret .non, .Return none _ => !fo
  | .retF e, .Return (some x) _ => fo && mtE T N e sc fnk x && frB T e
  | .retO i, .Return (some (.Name n _)) _ => fo && nmC N i n && visC sc n
  | .drop e, .Expr x _ => mtE T N e sc fnk x && shB e && notComp x
  | .pass, .Pass _ => true
  | .never, _ => true
  | _, _ => false
def mtSs (T : Tb) (N : List Str) (fo : Bool) (sc : Scope) (fnk : Str → Bool) : ISs → List Stmt → Bool
  | .nil, [] => true
  | .cons (.frz i) r, st => mtSs T N fo sc fnk r st
  | .cons s r, st :: rest => mtS T N fo sc fnk s st && mtSs T N fo sc fnk r rest
  | _, _ => false
end
section
variable {X : Cx} {T : Tb} {Φ : List Fn} {ct : Ct} {N : List Str} {sc : Scope} {fnk : Str → Bool} {F : Nat} {k : Kd}
/-! ### name = [..] -/
theorem sw_comp {elt : Expr} {gs : List Comprehension} {scope : Scope} {p py : Pos} {y : Str} {l : Nat} {env : Env} (hk : env.scope.kind = .function) :
    (env.scope.names.lookup y = some .local ∧ swapsWith (.ListComp elt gs scope p) (some (.Name y py)) l env = pure true) ∨ swapsWith (.ListComp elt gs scope p) (some (.Name y py)) l env = pure false := by
  have hb : env.blockKind = .function := by unfold Env.blockKind; rw [hk]; rfl
  have e : swapsWith (.ListComp elt gs scope p) (some (.Name y py)) l env = pure (env.blockKind == .function && env.kindOf y == some .local && py.line == (Expr.ListComp elt gs scope p).pos.line && !(scope.names.any fun (n, k) => n == y && (k == .local || k == .cell))) := rfl
  rw [e]
  generalize hz : (env.blockKind == .function && env.kindOf y == some .local && py.line == (Expr.ListComp elt gs scope p).pos.line && !(scope.names.any fun (n, k) => n == y && (k == .local || k == .cell))) = z
  cases z with
  | false => exact .inr rfl
  | true =>
    simp only [Bool.and_eq_true] at hz
    exact .inl ⟨eq_of_beq hz.1.1.2, rfl⟩
theorem so_comp (G : Gx X T Φ ct N sc fnk) (hk : sc.kind = .function) {own : List (Str × Nat)} {tg : Tg} {it : II} {ifs : IEs} {elt : IE} {x : Expr} (h : mtE T N (.comp own tg it ifs elt) sc fnk x = true) {i : Nat} {y : Str} {py pos : Pos} (hi : X.N[i]? = some y) (hx : Loc X.env.scope y) (hf : X.fn y = true ∨ X.env.scope.names.lookup y = some .local) :
    PS X (.Assign [.Name y py] x pos) (tAsg (rd (kc X ct) Φ ct .F (.comp own tg it ifs elt)) (gName i)) := by
  have ok := (soE (.comp own tg it ifs elt) G h).f rfl
  cases x with
  | ListComp e gs scope p =>
    rcases sw_comp (elt := e) (gs := gs) (scope := scope) (p := p) (py := py) (y := y) (l := pos.line) (env := X.env) (by rw [G.sc]; exact hk) with ⟨hl, hsw⟩ | hsw
    · match gs, h, hsw with
      | [⟨tgt, iter, cs, a⟩], h, hsw =>
        simp only [mtE, Bool.and_eq_true, decide_eq_true_eq] at h
        obtain ⟨⟨⟨⟨⟨⟨⟨⟨⟨rfl, h1⟩, h2⟩, h3⟩, h4⟩, h5⟩, h6⟩, h7⟩, h8⟩, h9⟩ := h
        rw [← G.N, ← G.sc] at h1
        refine ps_weak (ps_setLc G.calm G.nd hi hl hsw (soI it G h3) (blkOk_by h1) (g := gTg X.K tg) (tt := rdT (kc X ct) Φ ct (.bop true ifs)) (te := rd (kc X ct) Φ ct .S elt) (fun s H C cl fp => ?_) (fun s H C cl fp => ?_) (fun s H C cl fp => (soE elt (G.blk s H scope C cl fp) h7).s h8) (fold_no h2 _)) fun D σ H ⟨sp, R, ρ, c, d, c', S, ev, q⟩ => comp_core h4 S ev q
        · have G' := G.blk s H scope C cl fp
          rw [← G'.N] at h5
          exact pg_tg G'.calm G'.nd G'.sc G'.fn h5
        · exact soC ifs (G.blk s H scope C cl fp) h6 h9
      | [], h, _ => cases h
      | ⟨_, _, _, _⟩ :: ⟨_, _, _, _⟩ :: _, h, _ => cases h
    · exact ps_set G.nd hi hx ok hsw hf
  | _ => cases h
theorem so_comp2 (G : Gx X T Φ ct N sc fnk) (hk : sc.kind = .function) {own : List (Str × Nat)} {tg tg2 : Tg} {it it2 : II} {ifs ifs2 : IEs} {elt : IE} {x : Expr} (h : mtE T N (.comp2 own tg it ifs tg2 it2 ifs2 elt) sc fnk x = true) {i : Nat} {y : Str} {py pos : Pos} (hi : X.N[i]? = some y) (hx : Loc X.env.scope y) (hf : X.fn y = true ∨ X.env.scope.names.lookup y = some .local) :
    PS X (.Assign [.Name y py] x pos) (tAsg (rd (kc X ct) Φ ct .F (.comp2 own tg it ifs tg2 it2 ifs2 elt)) (gName i)) := by
  have ok := (soE (.comp2 own tg it ifs tg2 it2 ifs2 elt) G h).f rfl
  cases x with
  | ListComp e gs scope p =>
    rcases sw_comp (elt := e) (gs := gs) (scope := scope) (p := p) (py := py) (y := y) (l := pos.line) (env := X.env) (by rw [G.sc]; exact hk) with ⟨hl, hsw⟩ | hsw
    · match gs, h, hsw with
      | [⟨tgt, iter, cs, a⟩, ⟨tgt2, iter2, cs2, a2⟩], h, hsw =>
        simp only [mtE, Bool.and_eq_true, decide_eq_true_eq] at h
        obtain ⟨⟨⟨⟨⟨⟨⟨⟨⟨⟨⟨⟨⟨⟨⟨⟨rfl, rfl⟩, h1⟩, h2⟩, h2'⟩, h3⟩, h4⟩, h4'⟩, h5⟩, h6⟩, h3'⟩, h5'⟩, h6'⟩, h7⟩, h8⟩, h9⟩, h9'⟩ := h
        rw [← G.N, ← G.sc] at h1
        refine ps_weak (ps_setLc2 G.calm G.nd hi hl hsw (soI it G h3) (blkOk_by h1) (vs1 := tgIx tg2) (fun i hi => by unfold wipeOk at h4'; simpa using List.all_eq_true.mp h4' i hi) (g := gTg X.K tg) (g1 := gTg X.K tg2) (tt := rdT (kc X ct) Φ ct (.bop true ifs)) (tt1 := rdT (kc X ct) Φ ct (.bop true ifs2)) (wi1 := rdI (kc X ct) Φ ct it2) (te := rd (kc X ct) Φ ct .S elt)
          (fun s H C cl fp => ?_) (fun s H C cl fp => ?_) (fun s H C cl fp => soI it2 (G.blk s H scope C cl fp) h3') (fun s H C cl fp => ?_) (fun s H C cl fp => ?_) (fun s H C cl fp => (soE elt (G.blk s H scope C cl fp) h7).s h8) (fold_no h2 _) (fold_no h2')) fun D σ H ⟨sp, R, ρ, c, d, c', S, ev, q⟩ => comp2_core h4 S ev q
        · have G' := G.blk s H scope C cl fp
          rw [← G'.N] at h5
          exact pg_tg G'.calm G'.nd G'.sc G'.fn h5
        · exact soC ifs (G.blk s H scope C cl fp) h6 h9
        · have G' := G.blk s H scope C cl fp
          rw [← G'.N] at h5'
          exact pg_tg G'.calm G'.nd G'.sc G'.fn h5'
        · exact soC ifs2 (G.blk s H scope C cl fp) h6' h9'
      | [], h, _ => cases h
      | [⟨_, _, _, _⟩], h, _ => cases h
      | ⟨_, _, _, _⟩ :: ⟨_, _, _, _⟩ :: ⟨_, _, _, _⟩ :: _, h, _ => cases h
    · exact ps_set G.nd hi hx ok hsw hf
  | _ => cases h
theorem soP (G : Gx X T Φ ct N sc fnk) : ∀ {es : IEs} {os : List Bool} {is : List Nat} {xs : List Expr}, mtP T N es os sc fnk xs = true → is.length = os.length → PA X xs (rdP (kc X ct) Φ ct is os es)
  | .nil, [], is, [], _, hl => by
    cases is with
    | nil => exact qp_nil
    | cons _ _ => cases hl
  | .cons e r, o :: os, is, x :: xs, h, hl => by
    cases is with
    | nil => cases hl
    | cons i is =>
      simp only [mtP, Bool.and_eq_true] at h
      obtain ⟨⟨⟨h1, h2⟩, h3⟩, h4⟩ := h
      have ih := soP G (is := is) h4 (by simpa using hl)
      cases o with
      | true => exact qp_consF ((soE e G h1).f h3) h2 ih
      | false => exact qp_consS ((soE e G h1).s h3) h2 ih
  | .nil, [], _, _ :: _, h, _ => by cases h
  | .nil, _ :: _, _, _, h, _ => by cases h
  | .cons _ _, [], _, _, h, _ => by cases h
  | .cons _ _, _ :: _, _, [], h, _ => by cases h
  | .star _ _, _, _, _, h, _ => by cases h
  | .cel _ _, _, _, _, h, _ => by cases h
theorem swN_all {sc : Scope} {l : Nat} : ∀ {is : List Nat} {ts : List Expr}, namesTg N sc fnk is ts = true → (ts.filterMap (swN1 sc l)).length = ts.length → Paired (fun i n => N[i]? = some n ∧ sc.names.lookup n = some .local) is (ts.filterMap (swN1 sc l))
  | [], [], _, _ => .nil
  | i :: is, t :: ts, h, hl => by
    cases t with
    | Name n p =>
      simp only [namesTg, Bool.and_eq_true] at h
      cases hs : swN1 sc l (.Name n p) with
      | none =>
        rw [List.filterMap_cons, hs] at hl
        have := List.length_filterMap_le (swN1 sc l) ts
        simp only [List.length_cons] at hl
        omega
      | some m =>
        rw [List.filterMap_cons, hs] at hl ⊢
        simp only [List.length_cons, Nat.add_right_cancel_iff] at hl
        simp only [swN1] at hs
        split at hs
        · rename_i hh
          cases hs
          simp only [Bool.and_eq_true] at hh
          exact .cons ⟨of_decide_eq_true h.1.1, eq_of_beq hh.1⟩ (swN_all h.2 hl)
        · cases hs
    | _ => cases h
  | [], _ :: _, h, _ => by cases h
  | _ :: _, [], h, _ => by cases h
theorem ix_assign {n : Str} {p p2 : Pos} {y : Expr} (h : ixOk y = true) : ∀ v, assign (.Subscript (.Name n p) y p2) X.env v = (do
      let ov ← holding [v] (eval (.Name n p) X.env)
      let iv ← holding [v, ov] (eval y X.env)
      standAt p2
      holding [v, ov, iv] (setItem ov iv v)
      release [v, ov, iv] []) := by
  intro v
  cases y <;> first | rfl | cases h
/-- how a def hands back -/
abbrev kdO (fo : Bool) : Kd := if fo then .F else .S
theorem sw_tg {sc : Scope} (hs : X.env.scope = sc) (hk : sc.kind = .function) {t x : Expr} (h : swNone sc t x = true) : swappedStores [t] x X.env = pure none := by
  cases t with
  | Tuple ts k p =>
    cases x with
    | Tuple vs k2 p2 => exact sw_eq hs hk (of_decide_eq_true h)
    | _ => rfl
  | List ts p => cases x <;> cases h
  | _ => rfl
theorem mtSs_cons {fo : Bool} {s : IS} {r : ISs} {st : List Stmt} (h : mtSs T N fo sc fnk (.cons s r) st = true) : (∃ i, s = .frz i ∧ mtSs T N fo sc fnk r st = true) ∨ ∃ t st', st = t :: st' ∧ mtS T N fo sc fnk s t = true ∧ mtSs T N fo sc fnk r st' = true := by
  by_cases hf : ∃ i, s = .frz i
  · obtain ⟨i, rfl⟩ := hf
    exact .inl ⟨i, rfl, by simpa only [mtSs] using h⟩
  · cases st with
    | nil => exfalso; cases s <;> first | exact hf ⟨_, rfl⟩ | cases h
    | cons t st =>
      have h : (mtS T N fo sc fnk s t && mtSs T N fo sc fnk r st) = true := by cases s <;> first | exact absurd ⟨_, rfl⟩ hf | exact h
      obtain ⟨h1, h2⟩ := Bool.and_eq_true_iff.mp h
      exact .inr ⟨t, st, rfl, h1, h2⟩
theorem paired_mono {α β : Type} {G G' : α → β → Prop} (w : ∀ a b, G a b → G' a b) : ∀ {l : List α} {m : List β}, Paired G l m → Paired G' l m
  | _, _, .nil => .nil
  | _, _, .cons h t => .cons (w _ _ h) (paired_mono w t)
set_option maxHeartbeats 1600000
mutual
theorem soS {fo : Bool} (G : Gx X T Φ ct N sc fnk) (hk : sc.kind = .function) (hp : PassesOwn (model X.prog X.w) X.A X.env X.xe) : ∀ (s : IS) {st : Stmt}, mtS T N fo sc fnk s st = true → PS X st (rdS (kc X ct) Φ ct F (kdO fo) s)
  | .asg tg e, st, h => by
    cases st with
    | Assign ts x p =>
      match ts, h with
      | [t], h =>
        simp only [mtS, Bool.and_eq_true, Bool.or_eq_true] at h
        obtain ⟨⟨h1, h2⟩, h3⟩ := h
        have h2' := h2
        rw [← G.N] at h2'
        have pg := pg_tg G.calm G.nd G.sc G.fn h2'
        rcases h3 with ⟨⟨h3, h4⟩, h5⟩ | ⟨h3, h4⟩
        · exact pv_asg ((soE e G h1).s h4) pg (sw_sole h3 _ _ _) (sw_tg G.sc hk h5) (by cases t <;> first | rfl | (cases tg <;> cases h2))
        · cases tg with
          | tp _ => cases h4
          | nm i =>
            cases t with
            | Name n p =>
              obtain ⟨g1, g2⟩ := Bool.and_eq_true_iff.mp h2
              obtain ⟨l1, l2⟩ := loc_of G.sc G.fn g2
              cases e with
              | comp own tg it ifs elt => exact (ps_compO comp_lst (so_comp G hk h1 (nm_of G g1) l1 l2)).2
              | comp2 own tg it ifs tg2 it2 ifs2 elt => exact (ps_compO comp2_lst (so_comp2 G hk h1 (nm_of G g1) l1 l2)).2
              | _ => cases h3
            | _ => cases h2
      | [], h => cases h
      | _ :: _ :: _, h => cases h
    | _ => cases h
  | .asgO i e, st, h => by
    cases st with
    | Assign ts x p =>
      match ts, h with
      | [t], h =>
        cases t with
        | Name n q =>
          simp only [mtS, Bool.and_eq_true, Bool.or_eq_true] at h
          obtain ⟨⟨⟨⟨h1, h2⟩, h3⟩, h4⟩, h5⟩ := h
          obtain ⟨l1, l2⟩ := loc_of G.sc G.fn h2
          rcases h5 with h5 | h5
          · exact pv_asgO G.nd (nm_of G h1) l1 l2 ((soE e G h3).f h4) h5
          · cases e with
            | comp own tg it ifs elt => exact (ps_compO comp_lst (so_comp G hk h3 (nm_of G h1) l1 l2)).1
            | comp2 own tg it ifs tg2 it2 ifs2 elt => exact (ps_compO comp2_lst (so_comp2 G hk h3 (nm_of G h1) l1 l2)).1
            | _ => cases h5
        | _ => cases h
      | [], h => cases h
      | t :: _ :: _, h => cases t <;> cases h
    | _ => cases h
  | .asgMv i j, st, h => by
    cases st with
    | Assign ts x p =>
      match ts, h with
      | [t], h =>
        cases t with
        | Name n q =>
          cases x with
          | Name m q2 =>
            simp only [mtS, Bool.and_eq_true] at h
            obtain ⟨⟨⟨h1, h2⟩, h3⟩, h4⟩ := h
            obtain ⟨l1, l2⟩ := loc_of G.sc G.fn h2
            obtain ⟨v1, v2, v3⟩ := vis_of G h4
            exact pv_mv G.nd (nm_of G h1) l1 l2 (nm_of G h3) v1 v2 v3
          | _ => cases h
        | _ => cases h
      | [], h => cases h
      | t :: _ :: _, h => cases t <;> cases x <;> cases h
    | _ => cases h
  | .asgP is os es, st, h => by
    cases st with
    | Assign ts x p =>
      match ts, h with
      | [t], h =>
        cases t with
        | Tuple tl k1 q =>
          cases x with
          | Tuple vs k2 q2 =>
            simp only [mtS, Bool.and_eq_true, decide_eq_true_eq] at h
            obtain ⟨⟨⟨⟨⟨⟨h1, h2⟩, h3⟩, h4⟩, h5⟩, h6⟩, h7⟩ := h
            cases hr : swR sc tl vs with
            | none => rw [hr] at h2; cases h2
            | some o =>
              cases o with
              | none => 
                rw [← G.N] at h1
                exact pv_asgD G.calm G.nd G.sc G.fn h1 h5 (soP G h6 h7) (sw_eq G.sc hk hr)
              | some ns =>
                rw [hr] at h2
                simp only [Bool.and_eq_true, decide_eq_true_eq] at h2
                obtain ⟨rfl, h8⟩ := h2
                refine pv_asgP G.calm G.nd ?_ h3 h4 h5 (soP G h6 h7) (sw_eq G.sc hk hr)
                exact paired_mono (fun i n ⟨g1, g2⟩ => ⟨by rw [G.N]; exact g1, by rw [G.sc]; exact g2⟩) (swN_all h1 h8)
          | _ => cases h
        | _ => cases h
      | [], h => cases h
      | t :: _ :: _, h => cases t <;> cases x <;> cases h
    | _ => cases h
  | .asgSN i ixe j e, st, h => by
    cases st with
    | Assign ts x p =>
      match ts, x, h with
      | [.Tuple [.Subscript (.Name n q) y q2, .Name m q3] k1 q4], .Call fx args kws pc, h =>
        simp only [mtS, Bool.and_eq_true] at h
        obtain ⟨⟨⟨⟨⟨⟨⟨h1, h2⟩, h3⟩, h4⟩, h5⟩, h6⟩, h7⟩, h8⟩ := h
        obtain ⟨v1, v2, v3⟩ := vis_of G h2
        obtain ⟨l1, l2⟩ := loc_of G.sc G.fn h6
        have hu := G.hu
        exact pv_asgSN G.calm (by omega) (nm_of G h1) v1 v2 v3 G.nd (nm_of G h5) l1 l2 (ix_assign h4) (soE ixe G h3).b ((soE e G h7).s h8)
    | _ => cases h
  | .frz i, st, h => by cases st <;> cases h
  | .setI i ixe e, st, h => by
    cases st with
    | Assign ts x p =>
      match ts, h with
      | [t], h =>
        cases t with
        | Subscript o y q =>
          cases o with
          | Name n q2 =>
            simp only [mtS, Bool.and_eq_true] at h
            obtain ⟨⟨⟨⟨⟨⟨h1, h2⟩, h3⟩, h4⟩, h5⟩, h6⟩, h7⟩ := h
            obtain ⟨v1, v2, v3⟩ := vis_of G h2
            have hu := G.hu
            exact pv_setI (by omega) (nm_of G h1) v1 v2 v3 (ix_assign h4) (soE ixe G h3).b ((soE e G h5).s h6) h7 rfl
          | _ => cases h
        | _ => cases h
      | [], h => cases h
      | t :: _ :: _, h => (cases t with | Subscript o y q => cases o <;> cases h | _ => cases h)
    | _ => cases h
  | .app i e, st, h => by
    cases st with
    | Expr x p =>
      cases x with
      | Call fn args kws p2 =>
        cases fn with
        | Attribute o m ap =>
          cases o with
          | Name n q =>
            match args, kws, h with
            | [x], [], h =>
              simp only [mtS, Bool.and_eq_true, decide_eq_true_eq] at h
              obtain ⟨⟨⟨⟨⟨⟨rfl, h1⟩, h2⟩, h3⟩, h4⟩, h5⟩, h6⟩ := h
              obtain ⟨v1, v2, v3⟩ := vis_of G h2
              exact pv_app (nm_of G h1) v1 v2 v3 ((soE e G h3).s h4) h5 h6
            | [], _, h => cases h
            | _ :: _ :: _, _, h => cases h
            | [_], _ :: _, h => cases h
          | _ => cases h
        | _ => cases h
      | _ => cases h
    | _ => cases h
  | .extd i e, st, h => by
    cases st with
    | Expr x p =>
      cases x with
      | Call fn args kws p2 =>
        cases fn with
        | Attribute o m ap =>
          cases o with
          | Name n q =>
            match args, kws, h with
            | [x], [], h =>
              simp only [mtS, Bool.and_eq_true, decide_eq_true_eq] at h
              obtain ⟨⟨⟨⟨⟨rfl, h1⟩, h2⟩, h3⟩, h5⟩, h6⟩ := h
              obtain ⟨v1, v2, v3⟩ := vis_of G h2
              exact pv_extd (nm_of G h1) v1 v2 v3 (soE e G h3).b h5 h6
            | [], _, h => cases h
            | _ :: _ :: _, _, h => cases h
            | [_], _ :: _, h => cases h
          | _ => cases h
        | _ => cases h
      | _ => cases h
    | _ => cases h
  | .ife c a b, st, h => by
    cases st with
    | If t p q pos =>
      obtain ⟨h1, h2, h3⟩ := and3 h
      exact pv_ifS (soE c G h1).t (soSs G hk hp a h2) (soSs G hk hp b h3)
    | _ => cases h
  | .for_ tg it body, st, h => by
    cases st with
    | For t iter bs els pos =>
      cases els with
      | nil =>
        simp only [mtS, Bool.and_eq_true] at h
        obtain ⟨⟨⟨h1, h2⟩, h3⟩, h4⟩ := h
        rw [← G.N] at h3
        exact pv_for hp G.calm (soI it G h1) (pg_tg G.calm G.nd G.sc G.fn h3) (soSs G hk hp body h4) (fold_no h2 _)
      | cons _ _ => cases h
    | _ => cases h
  | .whl c body, st, h => by
    cases st with
    | While t bs els pos =>
      cases els with
      | nil =>
        obtain ⟨h1, h2⟩ := Bool.and_eq_true_iff.mp h
        exact pv_whl hp (soE c G h1).t (soSs G hk hp body h2)
      | cons _ _ => cases h
    | _ => cases h
  | .ret e, st, h => by
    cases st with
    | Return o p =>
      cases fo with
      | true => cases o <;> cases e <;> cases h
      | false =>
        cases o with
        | some x =>
          have h : (!false && mtE T N e sc fnk x && shB e) = true := by cases e <;> exact h
          obtain ⟨h1, h2, h3⟩ := and3 h
          exact pv_ret ((soE e G h2).s h3)
        | none =>
          cases e <;> first | exact pv_retN | cases h
    | _ => cases e <;> cases h
  | .retO i, st, h => by
    cases st with
    | Return o p =>
      cases o with
      | none => cases h
      | some x =>
        cases x with
        | Name n q =>
          obtain ⟨h1, h2, h3⟩ := and3 h
          obtain ⟨v1, v2, v3⟩ := vis_of G h3
          cases h1
          exact pv_retO (nm_of G h2) v1 v2 v3
        | _ => cases h
    | _ => cases h
  | .retF e, st, h => by
    cases st with
    | Return o p =>
      cases o with
      | none => cases h
      | some x =>
        obtain ⟨h1, h2, h3⟩ := and3 h
        cases h1
        exact pv_retF ((soE e G h2).f h3)
    | _ => cases h
  | .drop e, st, h => by
    cases st with
    | Expr x p =>
      obtain ⟨h1, h2, h3⟩ := and3 h
      exact pv_drop ((soE e G h1).s h2) h3
    | _ => cases h
  | .pass, st, h => by
    cases st with
    | Pass p => exact pv_pass
    | _ => cases h
  | .never, st, h => pv_never
theorem soSs {fo : Bool} (G : Gx X T Φ ct N sc fnk) (hk : sc.kind = .function) (hp : PassesOwn (model X.prog X.w) X.A X.env X.xe) : ∀ (s : ISs) {st : List Stmt}, mtSs T N fo sc fnk s st = true → PSs X st (rdSs (kc X ct) Φ ct F (kdO fo) s)
  | .nil, st, h => by
    cases st with
    | nil => exact pvs_nil
    | cons _ _ => cases h
  | .cons s r, st, h => by
    rcases mtSs_cons h with ⟨i, hs, h1⟩ | ⟨t, st', hst, h1, h2⟩
    · have := pvs_frz (i := i) (soSs G hk hp r h1)
      rw [hs]; exact this
    · rw [hst]
      exact pvs_cons (soS G hk hp s h1) (soSs G hk hp r h2)
end
end
end Pv
end
section
set_option Elab.async false
set_option linter.all false
set_option maxRecDepth 100000
/-! Pv.Zc: a def from its text; the defs of a module, one after another. -/
namespace Pv
open PySem PySem.Spec L2
open PyProof.Rows (envOfC)
theorem lift_start {K : Kc} {sp : Option Addr} {R H : Hp} {c : Dt} {n : Nat} {vs : List V} {as : List Sl} (e : Same R H) (r : Args K sp R vs as) (hc : ∀ a, sp = some a → R a = none ∧ Ob K R H a c) :
    StOk K sp R H ((vs.map some) ++ List.replicate n none) (as ++ List.replicate n .no) c R H := by
  have hl := args_len r
  have noown : ∀ (i : Nat) (d : Dt), (as ++ List.replicate n .no)[i]? ≠ some (.own d) := by
    intro i d h
    by_cases hi : i < as.length
    · rw [List.getElem?_append_left hi] at h
      obtain ⟨g1, g2⟩ := paired_get r i
      cases q : vs[i]? with
      | none => rw [g2 q] at h; cases h
      | some v =>
        obtain ⟨y, hy, f⟩ := g1 v q
        rw [h] at hy; cases hy; cases f
    · rw [List.getElem?_append_right (by omega), List.getElem?_replicate] at h
      split at h <;> cases h
  refine ⟨.refl e, ⟨e, by simp [hl], fun i x h => ?_, fun i j di dj a h1 => absurd h1 (noown i di), hc, fun a i d _ h => absurd h (noown i d)⟩, fun i d a h => absurd h (noown i d)⟩
  by_cases hi : i < as.length
  · rw [List.getElem?_append_left hi] at h
    rw [List.getElem?_append_left (by rw [List.length_map]; omega), List.getElem?_map]
    obtain ⟨g1, g2⟩ := paired_get r i
    cases q : vs[i]? with
    | none => rw [g2 q] at h; cases h
    | some v =>
      obtain ⟨y, hy, f⟩ := g1 v q
      rw [h] at hy; cases hy
      cases f with
      | sh f => exact ⟨v, rfl, f⟩
      | cell f => exact ⟨_, rfl, f⟩
  · rw [List.getElem?_append_right (by omega), List.getElem?_replicate] at h
    split at h
    · cases h; exact True.intro
    · cases h

/-- what is known of the defs that a def may call -/
structure Md (P : Program) (w : World) (K : PySem.W.Frag) (mg : Str → Option Value) (base : Heap) (T : Tb) (Φ : List Fn) (ct : Ct) (k : Nat) : Prop where
  blt : ∀ n ∈ bltNames, mg n = none
  gcd : T.gcd = true → mg "gcd" = some (.builtin "math.gcd")
  cst : ∀ (i : Nat) (n : Str), T.cn[i]? = some n → ∃ v u d0, mg n = some u ∧ RelV v u ∧ ct.l[i]? = some d0 ∧ ∀ R, Rp ⟨K, ct.kt⟩ R v d0
  fns : ∀ (i : Nat) (n : Str) (ps : List Str) (fo : Bool), T.cs[i]? = some (n, ps, fo) → ∃ f, Φ[i]? = some f ∧ (∀ as c r, f as c = some r → as.length = ps.length) ∧
    ∃ (j : Nat) (a : Addr) (fd : FuncData), j ≤ k ∧ FnG P w K mg base j a fd ps (spV ⟨K, ct.kt⟩ ps.length fo f) ∧ mg n = some (.ref a) ∧ PySem.W.keepIn K (.ref a) = true ∧ Bd fd ps
/-- a def of the module as it stands in the written part -/
structure Df (K : PySem.W.Frag) (x : Str) (st : Stmt) (f : Addr) (fd : FuncData) : Prop where
  ns : PySem.W.nsIn K mainGlobals x = some (some (.ref f))
  fn : ∃ (oc kV doc pm cdv ct : Value) (od an : Option Addr) (osl : Array (Option Value)), fd = PySem.W.fnOf x x (defArgs st) (defBody st) (defScope st) .none kV doc pm an cdv ct ∧ K.lookup f = some ⟨oc, od, .func fd, osl⟩ ∧ PySem.W.codeIn K cdv x = true
  kp : PySem.W.keepIn K (.ref f) = true
/-- plain parameters -/
def plainPs (a : Arguments) (ps : List Str) : Bool := a.posonlyargs.isEmpty && decide (a.args.map (·.arg) = ps) && a.vararg.isNone && a.kwonlyargs.isEmpty && a.kwarg.isNone
theorem evF_len {Φ : List Fn} {ct : Ct} {F np n : Nat} {body : ISs} : ∀ as c r, evF Φ ct F np n body as c = some r → as.length = np := fun as c r h => by
  unfold evF at h
  split at h
  · assumption
  · cases h
/-- THE RULE: what a def's text is checked to be is what it hands back -/
theorem fnG_of {P : Program} {w : World} {K : PySem.W.Frag} {mg : Str → Option Value} {base : Heap} {T : Tb} {Φ : List Fn} {ct : Ct} {k F : Nat} {x : Str} {st : Stmt} {f : Addr} {fd : FuncData} {N ps : List Str} {fo : Bool} {body : ISs}
    (M : Md P w K mg base T Φ ct k) (D : Df K x st f fd) (S : C8.scC N ps (defScope st) = true) (hp : plainPs (defArgs st) ps = true) (hc : mtSs T N fo (defScope st) (fun _ => true) body (defBody st) = true) :
    FnG P w K mg base (k + 1) f fd ps (spV ⟨K, ct.kt⟩ ps.length fo (evF Φ ct F ps.length N.length body)) ∧ Bd fd ps := by
  obtain ⟨oc, kV, doc, pm, cdv, ctv, od, an, osl, rfl, lk, hcd⟩ := D.fn
  have S' := C8.fnScope_by S
  have nps : ps.Nodup := by rw [← S'.pre]; exact S'.nd.sublist (List.take_sublist _ _)
  have hpl : ps.length ≤ N.length := by
    have := congrArg List.length S'.pre
    rw [List.length_take] at this; omega
  unfold plainPs at hp
  simp only [Bool.and_eq_true, decide_eq_true_eq, List.isEmpty_iff, Option.isNone_iff_eq_none] at hp
  obtain ⟨⟨⟨⟨p1, p2⟩, p3⟩, p4⟩, p5⟩ := hp
  refine ⟨fn_g lk hcd S' (fun vs H Q E h => h.1) fun A outer s H vs Q hr hgd h => ?_, bd_of p1 p2 p3 p4 p5 rfl nps⟩
  obtain ⟨hn, sp, R, as, c, d, c', e, r, hce, ev, q⟩ := h
  let X : Cx := (cxOf CX0 P w K mg base N x (defScope st) f cdv A outer s H E0).nox
  have G : Gx X T Φ ct N (defScope st) (fun _ => true) := {
    N := rfl, nd := S'.nd, sc := rfl, fn := rfl, calm := rfl, gd := hgd, hu := by have := hr.un; show (A.deeper (envOfC x (defScope st) s.heap.objs.size f cdv)).units + 200 < cLine; omega, blt := M.blt, gcd := M.gcd, cst := M.cst,
    fns := fun i n ps' fo' hi => by
      obtain ⟨g, h1, h2, j, a, fd', h3, h4, h5, h6, h7⟩ := M.fns i n ps' fo' hi
      exact ⟨g, h1, h2, j, a, fd', h4, hr.mono h3, h5, h6, h7⟩ }
  have body_ok := soSs (F := F) (fo := fo) G S'.kind PassesOwn.never body hc
  refine ⟨_, body_ok, ?_⟩
  unfold evF at ev
  split at ev
  · rename_i hl
    have hst : start N vs = (vs.map some) ++ List.replicate (N.length - as.length) none := by
      unfold L2.start
      rw [args_len r]
    have S0 := lift_start (n := N.length - as.length) e r hce
    rw [← hst] at S0
    cases hb : evSs Φ ct F body (as ++ List.replicate (N.length - as.length) .no) c with
    | none => rw [hb] at ev; cases ev
    | some fl =>
      rw [hb] at ev
      refine ⟨sp, R, H, R, _, c, fl, S0, hb, ?_⟩
      cases fl with
      | rt d1 c1 =>
        cases ev
        intro v R' H' e1 l1 r1
        refine q v R' H' e1 l1 ?_
        cases fo <;> exact r1
      | nx ρ1 c1 =>
        cases ev
        intro σ' R' H' _ S1
        refine q .non R' H' S1.e S1.s.cell ?_
        cases fo with
        | true => exact .inr ⟨rfl, .non⟩
        | false => exact .non
  · cases ev
def Tb.add (T : Tb) (e : Str × List Str × Bool) : Tb := { T with cs := T.cs ++ [e] }
/-- one def more -/
theorem Md.add {P : Program} {w : World} {K : PySem.W.Frag} {mg : Str → Option Value} {base : Heap} {T : Tb} {Φ : List Fn} {ct : Ct} {k F : Nat} {x : Str} {st : Stmt} {f : Addr} {fd : FuncData} {N ps : List Str} {fo : Bool} {body : ISs}
    (M : Md P w K mg base T Φ ct k) (D : Df K x st f fd) (hm : mg x = some (.ref f)) (hlen : T.cs.length = Φ.length) (S : C8.scC N ps (defScope st) = true) (hp : plainPs (defArgs st) ps = true) (hc : mtSs T N fo (defScope st) (fun _ => true) body (defBody st) = true) :
    Md P w K mg base (T.add (x, ps, fo)) (Φ ++ [evF Φ ct F ps.length N.length body]) ct (k + 1) := by
  obtain ⟨g1, g2⟩ := fnG_of (F := F) M D S hp hc
  refine ⟨M.blt, M.gcd, M.cst, fun i n ps' fo' h => ?_⟩
  have h : (T.cs ++ [(x, ps, fo)])[i]? = some (n, ps', fo') := h
  by_cases hi : i < T.cs.length
  · rw [List.getElem?_append_left hi] at h
    obtain ⟨g, h1, h2, j, a, fd', h3, h4⟩ := M.fns i n ps' fo' h
    exact ⟨g, by rw [List.getElem?_append_left (by omega)]; exact h1, h2, j, a, fd', Nat.le_succ_of_le h3, h4⟩
  · have hi' : i = T.cs.length := by
      have := (List.getElem?_eq_some_iff.mp h).1
      rw [List.length_append] at this
      simp at this; omega
    subst hi'
    rw [List.getElem?_append_right (Nat.le_refl _), Nat.sub_self] at h
    cases h
    refine ⟨_, by rw [hlen, List.getElem?_append_right (Nat.le_refl _), Nat.sub_self]; rfl, evF_len, k + 1, f, fd, Nat.le_refl _, g1, hm, D.kp, g2⟩
end Pv
end
section
set_option Elab.async false
set_option linter.all false
set_option maxRecDepth 100000
/-! Pv.Zd: the law's end. -/
namespace Pv
open PySem PySem.Spec L2
/-- the written part without its lists -/
def isLs (o : Obj) : Bool := match o.data with
  | .seq _ _ => o.cls == .type "list"
  | _ => false
def noLg (K : PySem.W.Frag) (a : Addr) : Bool := match K.lookup a with
  | some o => !isLs o
  | none => false
def noL (K : PySem.W.Frag) : PySem.W.Frag := K.filter fun p => noLg K p.1
theorem look_key {g : Addr → Bool} {a : Addr} : ∀ {K : List (Addr × Obj)}, (K.filter fun p => g p.1).lookup a = if g a = true then K.lookup a else none
  | [] => by simp
  | (b, u) :: r => by
    have ih := look_key (g := g) (a := a) (K := r)
    by_cases hb : g b = true
    · rw [List.filter_cons_of_pos (p := fun p : Addr × Obj => g p.1) hb, List.lookup_cons, List.lookup_cons]
      cases e : a == b with
      | true =>
        have e' : a = b := eq_of_beq e
        subst e'
        rw [if_pos hb]
      | false => exact ih
    · rw [List.filter_cons_of_neg (p := fun p : Addr × Obj => g p.1) hb, ih]
      by_cases ha : g a = true
      · rw [if_pos ha, if_pos ha, List.lookup_cons]
        have : (a == b) = false := by
          rw [beq_eq_false_iff_ne]; rintro rfl; exact hb ha
        rw [this]
      · rw [if_neg ha, if_neg ha]
theorem noL_of {K : PySem.W.Frag} {a : Addr} {o : Obj} (h : K.lookup a = some o) (hp : isLs o = false) : (noL K).lookup a = some o := by
  have g : noLg K a = true := by unfold noLg; rw [h]; simp [hp]
  exact look_key.trans ((if_pos g).trans h)
theorem of_noL {K : PySem.W.Frag} {a : Addr} {o : Obj} (h : (noL K).lookup a = some o) : K.lookup a = some o ∧ isLs o = false := by
  have h' := look_key.symm.trans h
  split at h'
  · rename_i g
    refine ⟨h', ?_⟩
    unfold noLg at g
    rw [h'] at g
    simpa using g
  · cases h'
/-- of the module -/
theorem noL_ns {K : PySem.W.Frag} {n : Str} {r : Option Value} (h : PySem.W.nsIn K mainGlobals n = some r) : PySem.W.nsIn (noL K) mainGlobals n = some r := by
  unfold PySem.W.nsIn at h ⊢
  split at h
  · rename_i c d es k sl q
    have : (noL K).lookup mainGlobals = some ⟨c, d, .dict es k, sl⟩ := noL_of q rfl
    rw [this]
    exact h
  · cases h
theorem noL_code {K : PySem.W.Frag} {cd : Value} {n : Str} (h : PySem.W.codeIn K cd n = true) : PySem.W.codeIn (noL K) cd n = true := by
  cases cd with
  | ref c =>
    simp only [PySem.W.codeIn] at h ⊢
    split at h
    · rename_i c' d vs sl q
      have : (noL K).lookup c = some ⟨c', d, .fields vs, sl⟩ := noL_of q rfl
      rw [this]
      exact h
    · cases h
  | _ => cases h
theorem noL_df {K : PySem.W.Frag} {x : Str} {st : Stmt} {f : Addr} {fd : FuncData} (D : Df K x st f fd) : Df (noL K) x st f fd := by
  obtain ⟨oc, kV, doc, pm, cdv, ctv, od, an, osl, e, lk, hc⟩ := D.fn
  have lk' : (noL K).lookup f = some ⟨oc, od, .func fd, osl⟩ := noL_of lk rfl
  refine ⟨noL_ns D.ns, ⟨oc, kV, doc, pm, cdv, ctv, od, an, osl, e, lk', noL_code hc⟩, ?_⟩
  show (match (noL K).lookup f with | some ⟨_, _, .func _, _⟩ => true | some ⟨_, _, .cls _, _⟩ => _ | _ => false) = true
  rw [lk']
section
variable {P : Program} {w : World} {K : PySem.W.Frag} {mg mb : Str → Option Value} {k : Nat} {fa a : Addr} {fd : FuncData} {x : Str} {s : Shared} {vs : List Value} {ns : List Int} {kt : Bool} {f : Fn} {c' : Dt}
theorem ints_vals : ∀ {us : List Value} {l : List Int}, PyProof.Rows.IntsAre us l → Vals (l.map V.int) us
  | _, _, .nil => .nil
  | _, _, .cons _ t h => .cons ⟨t, rfl⟩ (ints_vals h)
/-- the call of the law, its script a list of ints that stands in the heap -/
theorem law_run (KX : K.In s.heap) (Kn : ∀ o, K.lookup a = some o → isLs o = false) (hm : s.heap.Ns mainGlobals mg) (hb : s.heap.Ns builtinsNs mb) (hbb : ∀ n : Str, n ≠ "__name__" → mb n = bootBuiltins n) (hlim : s.heap.NoLimit) (hgens : s.gens = #[])
    (ha : s.heap.get? a = some { cls := .type "list", data := .seq vs.toArray }) (hi : PyProof.Rows.IntsAre vs ns) (hl : ns.length ≤ sizeLine) (hr : Room k callerA) (bd : Bd fd [x])
    (F : ∀ b : Heap, K.In b → b.Ns mainGlobals mg → FnG P w K mg b k fa fd [x] (spV ⟨K, kt⟩ 1 false f)) (ev : f [.sh (.list (ns.map .int))] .none = some (.bool true, c')) :
    codeAny (model P w) callerA (.call (.ref fa) ⟨[.ref a], []⟩) (fun r t => r = .ok (.ret (.bool true)) ∧ OldK s.heap t.heap ∧ t.os = s.os ∧ PyProof.Rows.AllBare t.gens) s := by
  have rv := ints_vals hi
  -- nothing is told of but the script
  let o : Obj := { cls := .type "list", data := .seq vs.toArray }
  let H : Hp := fun b => if b = a then some (.frz o (.lst (ns.map V.int))) else none
  have Ha : H a = some (.frz o (.lst (ns.map V.int))) := if_pos rfl
  have Hn : ∀ b, b ≠ a → H b = none := fun b n => if_neg n
  have notIn : K.lookup a = none := by
    cases q : K.lookup a with
    | none => rfl
    | some u =>
      have e := (KX a u q).symm.trans ha
      have := Kn u q
      cases e
      cases this
  have old : ∀ {b : Addr} {u : Obj}, b ≠ a → s.heap.get? b = some u → (hidT s.heap H).get? b = some u := fun n e => hidT_get e (Hn _ n)
  have ns_ok : ∀ {b : Addr} {m : Str → Option Value}, s.heap.Ns b m → (hidT s.heap H).Ns b m := fun {b m} q => by
    obtain ⟨u, es, ep, e, d, r⟩ := q
    refine ⟨u, es, ep, old (fun z => ?_) e, d, r⟩
    subst z
    have e' := e.symm.trans ha
    cases e'
    cases d
  have kin : K.In (hidT s.heap H) := fun b u e => old (fun z => by subst z; rw [notIn] at e; cases e) (KX b u e)
  have hok : HOk P w H s.heap := fun b u q => by
    by_cases z : b = a
    · subst z
      rw [Ha] at q; cases q
      exact ⟨ha, by rw [List.length_map]; exact hl, vs, _, rv, ha⟩
    · rw [Hn b z] at q; cases q
  have env : Env0 P w K mg (hidT s.heap H) callerA [] s H := {
    frames := rfl, mod := ⟨kin, ns_ok hm, ⟨mb, ns_ok hb, hbb⟩, let ⟨mc, q, r⟩ := hlim; ⟨mc, ns_ok q, r⟩⟩, bs := fun b u e => of_hidT e, bsz := Nat.le_of_eq (hidT_size _ _)
    funs := trivial, frf := fun b z => (nomatch z), hok := hok, bare := .of_eq hgens }
  have rep : Rp ⟨K, kt⟩ H (.ref a) (.list (ns.map .int)) := .lst (.inr ⟨o, Ha⟩) (RpL.of_ints ns)
  have promise : spV ⟨K, kt⟩ 1 false f [.ref a] H (fun v _ => v = .bl true) E0 :=
    ⟨rfl, none, H, _, .none, .bool true, c', Same.refl _, .cons (.sh rep) .nil, fun b z => (nomatch z), ev, fun v R' H' _ _ r => Rp.isBool r⟩
  refine codeAny_mono ((F _ kin (ns_ok hm)).go callerA [] s H ⟨[.ref a], []⟩ [.ref a] [.ref a] _ hr rfl env (bd.pos s [.ref a] rfl) (.cons rfl .nil) promise) fun r t q => ?_
  match r, q with
  | .error _, q => exact False.elim q
  | .ok .next, q => exact False.elim q
  | .ok .brk, q => exact False.elim q
  | .ok .cont, q => exact False.elim q
  | .ok (.ret u), q =>
    obtain ⟨v, H', h1, h2, un, hok', ru, rfl⟩ := q
    cases (show u = Value.bool true from ru)
    refine ⟨rfl, OldK.of_keep fun b u e => ?_, h1, h2⟩
    by_cases z : b = a
    · subst z
      obtain ⟨g, _⟩ := hok' b _ (un.frzs b _ _ Ha)
      rw [ha] at e; cases e
      exact g
    · exact un.keep b u e (Hn b z) (by intro y; cases y) (by simp)
end
/-- what k_head leaves, from the evaluator's answer -/
theorem walk_pv {l : PySem.W.OpenLaw} {n k : Nat} {q : Program} {loose : List Str} {XP : (Str → Option Value) → Heap → Prop} {YP : World → Heap → Prop} {d : DefRec} {K : Params → PySem.W.Frag} {x : Str} {kt : Bool} {f : Fn}
    (hn : l.most = some n) (hn2 : n ≤ sizeLine) (hdf : d.params.defaults = []) (hr : Room k callerA) (hY : ∀ (w : World) (h : Heap), YP w h → (K w.params).In h)
    (F : ∀ (w : World) (mg : Str → Option Value) (fa : Addr) (h : Heap), (K w.params).In h → h.Ns mainGlobals mg → mg d.name = some (.ref fa) →
      ∃ fd : FuncData, Bd fd [x] ∧ ∀ b : Heap, (noL (K w.params)).In b → b.Ns mainGlobals mg → FnG l.prog w (noL (K w.params)) mg b k fa fd [x] (spV ⟨noL (K w.params), kt⟩ 1 false f))
    (law : ∀ ns : List Int, ns.length ≤ n → ∃ c', f [.sh (.list (ns.map .int))] .none = some (.bool true, c')) : PySem.W.WalkO q loose XP YP l.row.toRowW d [] (fun f vs => PySem.call f vs) := by
  refine Att.attach_call hn hdf fun w s₀ s₁ mg mb fa o pm cd doc a vs ns G Y _ _ _ hmg hobj hints hlen hg => ?_
  have KX := hY w _ Y
  have KX' : (noL (K w.params)).In s₁.heap := fun b u e => KX b u (of_noL e).1
  obtain ⟨fd, hb, hF⟩ := F w mg fa _ KX G.T.g hmg
  obtain ⟨c', ev⟩ := law ns hlen
  exact law_run KX' (fun o h => (of_noL h).2) G.T.g G.T.b G.T.builtins G.T.nolimit hg hobj hints (Nat.le_trans hlen hn2) hr hb hF ev
end Pv
end
section
set_option Elab.async false
set_option linter.all false
set_option maxRecDepth 100000
/-! Pv.Ze: from what the head's part answers. -/
namespace Pv
open PySem PySem.Spec L2
section
variable {K : PySem.W.Frag} {h : Heap} {mg : Str → Option Value}
def DfOf (_ : K.In h) (x : Str) (st : Stmt) : Prop := ∃ f fd, Df K x st f fd
def CiOf (_ : K.In h) (x : Str) (i : Int) : Prop := ∃ t, PySem.W.nsIn K mainGlobals x = some (some (.int i t))
def NoOf (_ : K.In h) (x : Str) : Prop := PySem.W.nsIn K mainGlobals x = some none
theorem df_ex (X : K.In h) {x : Str} {st : Stmt} {f : Addr} {oc kV doc pm cdv ctv : Value} {od an : Option Addr} {osl : Array (Option Value)} (a : PySem.W.nsIn K mainGlobals x = some (some (.ref f)))
    (l : K.lookup f = some ⟨oc, od, .func (PySem.W.fnOf x x (defArgs st) (defBody st) (defScope st) .none kV doc pm an cdv ctv), osl⟩) (c : PySem.W.codeIn K cdv x = true) (k : PySem.W.keepIn K (.ref f) = true) : DfOf X x st :=
  ⟨f, _, a, ⟨oc, kV, doc, pm, cdv, ctv, od, an, osl, rfl, l, c⟩, k⟩
theorem ci_ex (X : K.In h) {x : Str} {i : Int} {t : Tok} (a : PySem.W.nsIn K mainGlobals x = some (some (.int i t))) : CiOf X x i := ⟨t, a⟩
theorem no_ex (X : K.In h) {x : Str} (a : PySem.W.nsIn K mainGlobals x = some none) : NoOf X x := a
def GcOf (_ : K.In h) : Prop := PySem.W.nsIn K mainGlobals "gcd" = some (some (.builtin "math.gcd"))
theorem gc_ex (X : K.In h) (a : PySem.W.nsIn K mainGlobals "gcd" = some (some (.builtin "math.gcd"))) : GcOf X := a
/-- a tuple of two ints that the module holds -/
def TwOf (_ : K.In h) (x : Str) (i j : Int) : Prop := ∃ (a : Addr) (od : Option Addr) (t u : Tok) (n : Nat) (osl : Array (Option Value)), PySem.W.nsIn K mainGlobals x = some (some (.ref a)) ∧ K.lookup a = some ⟨.type "tuple", od, .seq #[.int i t, .int j u] n, osl⟩
theorem tw_ex (X : K.In h) {x : Str} {i j : Int} {a : Addr} {od : Option Addr} {t u : Tok} {n : Nat} {osl : Array (Option Value)} (p : PySem.W.nsIn K mainGlobals x = some (some (.ref a))) (q : K.lookup a = some ⟨.type "tuple", od, .seq #[.int i t, .int j u] n, osl⟩) : TwOf X x i j := ⟨a, od, t, u, n, osl, p, q⟩
def TwN (K : PySem.W.Frag) (x : Str) (i j : Int) : Prop := ∃ (a : Addr) (od : Option Addr) (t u : Tok) (n : Nat) (osl : Array (Option Value)), PySem.W.nsIn K mainGlobals x = some (some (.ref a)) ∧ K.lookup a = some ⟨.type "tuple", od, .seq #[.int i t, .int j u] n, osl⟩
theorem tw_no {X : K.In h} {x : Str} {i j : Int} (c : TwOf X x i j) : TwN (noL K) x i j := by
  obtain ⟨a, od, t, u, n, osl, p, q⟩ := c
  exact ⟨a, od, t, u, n, osl, noL_ns p, noL_of q rfl⟩
theorem cst_two (X : K.In h) (G : h.Ns mainGlobals mg) {x : Str} {i j : Int} (c : TwN K x i j) : ∃ (v : V) (u : Value), mg x = some u ∧ RelV v u ∧ ∀ R, Rp ⟨K, true⟩ R v (.tuple [.int i, .int j]) := by
  obtain ⟨a, od, t, u, n, osl, p, q⟩ := c
  refine ⟨.ref a, .ref a, PySem.W.mg_of X G p, rfl, fun R => .tup (xs := [.int i, .int j]) (.inr ⟨rfl, .inr ⟨_, _, _, q, rfl, rfl, (show 2 ≤ sizeLine by decide), .cons ⟨t, rfl⟩ (.cons ⟨u, rfl⟩ .nil)⟩⟩) (RpL.of_ints [i, j])⟩
def NosOf (X : K.In h) : Prop := ∀ n ∈ bltNames, NoOf X n
/-- a module's int as a constant -/
theorem cst_int (X : K.In h) (G : h.Ns mainGlobals mg) {x : Str} {i : Int} {kt : Bool} (a : ∃ t, PySem.W.nsIn K mainGlobals x = some (some (.int i t))) : ∃ (v : V) (u : Value), mg x = some u ∧ RelV v u ∧ ∀ R, Rp ⟨K, kt⟩ R v (.int i) := by
  obtain ⟨t, a⟩ := a
  exact ⟨.int i, .int i t, PySem.W.mg_of X G a, ⟨t, rfl⟩, fun R => .int i⟩
end
end Pv
end
section
set_option Elab.async false
set_option linter.all false
set_option maxRecDepth 100000
/-! Pw.A: reckoning with the evaluator. -/
namespace Pv
open PySem
section
variable {f : Dt → List Sl → Dt → Option Fl} {xs : List Dt} {ρ : List Sl} {c : Dt}
/-- a loop through, a state by the turn -/
theorem forGo_ok {St : Nat → List Sl → Dt → Prop} : ∀ {xs : List Dt} {n : Nat} {ρ : List Sl} {c : Dt}, St n ρ c → (∀ i d ρ c, xs[i]? = some d → St (n + i) ρ c → ∃ ρ' c', f d ρ c = some (.nx ρ' c') ∧ St (n + i + 1) ρ' c') →
    ∃ ρ' c', forGo f xs ρ c = some (.nx ρ' c') ∧ St (n + xs.length) ρ' c'
  | [], n, ρ, c, h0, _ => ⟨ρ, c, rfl, h0⟩
  | d :: ds, n, ρ, c, h0, h => by
    obtain ⟨ρ1, c1, e1, s1⟩ := h 0 d ρ c rfl h0
    obtain ⟨ρ2, c2, e2, s2⟩ := forGo_ok (xs := ds) (n := n + 1) (St := St) (ρ := ρ1) (c := c1) s1 fun i d' ρ' c' hi hs => by
      have := h (i + 1) d' ρ' c' (by simpa using hi) (by have e : n + (i + 1) = n + 1 + i := by omega
                                                         rw [e]; exact hs)
      have e : n + (i + 1) + 1 = n + 1 + i + 1 := by omega
      rw [e] at this
      exact this
    refine ⟨ρ2, c2, by simp only [forGo, e1]; exact e2, ?_⟩
    have e : n + (d :: ds).length = n + 1 + ds.length := by simp; omega
    rw [e]; exact s2
theorem forGo_run {St : Nat → List Sl → Dt → Prop} {r : Option Fl} (hr : forGo f xs ρ c = r) (h0 : St 0 ρ c) (h : ∀ i d ρ c, xs[i]? = some d → St i ρ c → ∃ ρ' c', f d ρ c = some (.nx ρ' c') ∧ St (i + 1) ρ' c') :
    ∃ ρ' c', r = some (.nx ρ' c') ∧ St xs.length ρ' c' := by
  obtain ⟨ρ', c', e, s⟩ := forGo_ok (f := f) (xs := xs) (n := 0) (St := St) h0 fun i d ρ c hi hs => by
    rw [Nat.zero_add] at hs ⊢
    exact h i d ρ c hi hs
  rw [Nat.zero_add] at s
  exact ⟨ρ', c', by rw [← hr]; exact e, s⟩
theorem range1_ok {t : Int} (h : t ≤ line) (h0 : -1000 ≤ t) : rangeD [.int t] = some (0, t.toNat) := by
  simp only [rangeD]
  have := line_val
  rw [if_pos ⟨by omega, by omega⟩]
theorem range2_ok {a b : Int} (h : b ≤ line) (h0 : 0 ≤ a) (h1 : a ≤ line) (h2 : -1000 ≤ b) : rangeD [.int a, .int b] = some (a, (b - a).toNat) := by
  simp only [rangeD]
  have := line_val
  rw [if_pos ⟨by omega, by omega, by omega, by omega, by omega⟩]
theorem rng_at {lo : Int} {n i : Nat} {d : Dt} (h : (rngD (lo, n))[i]? = some d) : d = .int (lo + (i : Nat)) ∧ i < n := by
  have hi : i < n := by
    have := (List.getElem?_eq_some_iff.mp h).1
    rw [rng_len] at this; exact this
  rw [rng_get lo n i hi] at h
  exact ⟨(Option.some.inj h).symm, hi⟩
theorem mulD_ok {i j : Int} (h : i.natAbs < 2 ^ 200) (h' : j.natAbs < 2 ^ 200) : binD .Mult (.int i) (.int j) = some (.int (i * j)) := by
  simp only [binD, mulD]
  have : ∀ n : Nat, n < 2 ^ 200 → n.log2 < 201 := fun n hn => by
    by_cases z : n = 0
    · subst z; decide
    · have := (Nat.log2_lt z).mpr hn
      omega
  rw [if_pos (by have a1 := this _ h; have a2 := this _ h'; omega)]
/-- a loop that hands back at the first turn where p, or goes through -/
theorem forGo_find {p : Dt → Bool} {r : Dt → Dt} {c' : Dt} {St : List Sl → Prop} : ∀ {xs : List Dt} {ρ : List Sl}, St ρ → (∀ d ρ, d ∈ xs → St ρ → (p d = true → f d ρ c = some (.rt (r d) c)) ∧ (p d = false → ∃ ρ', f d ρ c = some (.nx ρ' c) ∧ St ρ')) →
    (∃ ρ', forGo f xs ρ c = (match xs.find? p with | some d => some (.rt (r d) c) | none => some (.nx ρ' c)) ∧ St ρ')
  | [], ρ, h0, _ => ⟨ρ, rfl, h0⟩
  | d :: ds, ρ, h0, h => by
    cases e : p d with
    | true =>
      refine ⟨ρ, ?_, h0⟩
      have := (h d ρ List.mem_cons_self h0).1 e
      simp only [forGo, this, List.find?_cons, e]
    | false =>
      obtain ⟨ρ1, e1, s1⟩ := (h d ρ List.mem_cons_self h0).2 e
      obtain ⟨ρ2, e2, s2⟩ := forGo_find (p := p) (r := r) (c' := c') (St := St) (xs := ds) (ρ := ρ1) s1 fun d' ρ' hm hs => h d' ρ' (List.mem_cons_of_mem _ hm) hs
      refine ⟨ρ2, ?_, s2⟩
      simp only [forGo, e1, List.find?_cons, e]
      exact e2
theorem compGo_flat {g : Dt → Dt → Option (List Dt × Dt)} {h : Dt → List Dt} {c : Dt} : ∀ {xs : List Dt}, (∀ d ∈ xs, g d c = some (h d, c)) → compGo g xs c = some (xs.flatMap h, c)
  | [], _ => rfl
  | d :: ds, e => by
    simp only [compGo, e d List.mem_cons_self, compGo_flat (xs := ds) fun d' hd => e d' (List.mem_cons_of_mem _ hd), List.flatMap_cons]
theorem compGo_map {g : Dt → Dt → Option (List Dt × Dt)} {h : Dt → Dt} {c : Dt} {xs : List Dt} (e : ∀ d ∈ xs, g d c = some ([h d], c)) : compGo g xs c = some (xs.map h, c) := by
  rw [compGo_flat (h := fun d => [h d]) e]
  congr 2
  induction xs with
  | nil => rfl
  | cons d ds ih => rw [List.flatMap_cons, List.map_cons, ih fun d' hd => e d' (List.mem_cons_of_mem _ hd)]; rfl
end
/-! ### reckoning by parts -/
/-- o is an end that Q takes -/
def W (o : Option Fl) (Q : Fl → Prop) : Prop := ∃ fl, o = some fl ∧ Q fl
section
variable {Φ : List Fn} {ct : Ct} {F : Nat} {ρ ρ1 : List Sl} {c c1 : Dt} {Q : Fl → Prop} {s : IS} {r : ISs}
theorem W_nil (h : Q (.nx ρ c)) : W (evSs Φ ct F .nil ρ c) Q := ⟨_, by simp only [evSs], h⟩
theorem W_step (h1 : evS Φ ct F s ρ c = some (.nx ρ1 c1)) (h2 : W (evSs Φ ct F r ρ1 c1) Q) : W (evSs Φ ct F (.cons s r) ρ c) Q := by
  obtain ⟨fl, e, q⟩ := h2
  exact ⟨fl, by simp only [evSs, h1]; exact e, q⟩
theorem W_rt {d : Dt} (h1 : evS Φ ct F s ρ c = some (.rt d c1)) (h2 : Q (.rt d c1)) : W (evSs Φ ct F (.cons s r) ρ c) Q := ⟨_, by simp only [evSs, h1], h2⟩
/-- a statement that ends in either way -/
theorem W_any (h : W (evS Φ ct F s ρ c) fun fl => match fl with
    | .nx ρ1 c1 => W (evSs Φ ct F r ρ1 c1) Q
    | .rt d c1 => Q (.rt d c1)) : W (evSs Φ ct F (.cons s r) ρ c) Q := by
  obtain ⟨fl, e, q⟩ := h
  cases fl with
  | nx ρ1 c1 => exact W_step e q
  | rt d c1 => exact W_rt e q
theorem for_core {f : Dt → List Sl → Dt → Option Fl} {xs : List Dt} {St : Nat → List Sl → Dt → Prop} {N : Nat} (hs : ∀ i d ρ c, xs[i]? = some d → St i ρ c → W (f d ρ c) fun fl => match fl with
      | .nx ρ' c' => St (i + 1) ρ' c'
      | .rt d' c' => Q (.rt d' c')) : ∀ {ys : List Dt} {n : Nat} {ρ : List Sl} {c : Dt}, n + ys.length = N → (∀ i d, ys[i]? = some d → xs[n + i]? = some d) → St n ρ c → W (forGo f ys ρ c) fun fl => match fl with
      | .nx ρ' c' => St N ρ' c'
      | .rt d' c' => Q (.rt d' c')
  | [], n, ρ, c, hn, _, h0 => ⟨.nx ρ c, rfl, by simp at hn; subst hn; exact h0⟩
  | d :: ds, n, ρ, c, hn, hx, h0 => by
    obtain ⟨fl, e, q⟩ := hs n d ρ c (hx 0 d rfl) h0
    cases fl with
    | rt d' c' => exact ⟨.rt d' c', by simp only [forGo, e], q⟩
    | nx ρ1 c1 =>
      obtain ⟨fl2, e2, q2⟩ := for_core (N := N) hs (ys := ds) (n := n + 1) (ρ := ρ1) (c := c1) (by rw [List.length_cons] at hn; omega) (fun i d' h => by
        have := hx (i + 1) d' (by simpa using h)
        have e : n + (i + 1) = n + 1 + i := by omega
        rwa [e] at this) q
      exact ⟨fl2, by simp only [forGo, e]; exact e2, q2⟩
theorem W_for {tg : Tg} {it : II} {body : ISs} {xs : List Dt} (St : Nat → List Sl → Dt → Prop) (hI : evI Φ ct it ρ c = some (xs, c1)) (h0 : St 0 ρ c1)
    (hs : ∀ i d ρ c, xs[i]? = some d → St i ρ c → ∃ ρ1, putTg tg d ρ = some ρ1 ∧ W (evSs Φ ct F body ρ1 c) fun fl => match fl with
      | .nx ρ' c' => St (i + 1) ρ' c'
      | .rt d' c' => Q (.rt d' c'))
    (k : ∀ ρ' c', St xs.length ρ' c' → W (evSs Φ ct F r ρ' c') Q) : W (evSs Φ ct F (.cons (.for_ tg it body) r) ρ c) Q := by
  obtain ⟨fl, e, q⟩ := for_core (Q := Q) (f := fun d ρ c => match putTg tg d ρ with
      | some ρ1 => evSs Φ ct F body ρ1 c
      | none => none) (xs := xs) (St := St) (N := xs.length) (fun i d ρ c h hst => by
    obtain ⟨ρ1, e1, w⟩ := hs i d ρ c h hst
    simp only [e1]
    exact w) (ys := xs) (n := 0) (ρ := ρ) (c := c1) (Nat.zero_add _) (fun i d h => by rw [Nat.zero_add]; exact h) h0
  refine W_any ⟨fl, ?_, ?_⟩
  · simp only [evS, hI]
    exact e
  · cases fl with
    | nx ρ' c' => exact k ρ' c' q
    | rt d' c' => exact q
theorem W_ite {tst : IE} {a b : ISs} {bv : Bool} (h1 : evE Φ ct tst ρ c = some (.bool bv, c1)) (ht : bv = true → W (evSs Φ ct F a ρ c1) fun fl => match fl with
      | .nx ρ1 c1 => W (evSs Φ ct F r ρ1 c1) Q
      | .rt d c1 => Q (.rt d c1)) (hf : bv = false → W (evSs Φ ct F b ρ c1) fun fl => match fl with
      | .nx ρ1 c1 => W (evSs Φ ct F r ρ1 c1) Q
      | .rt d c1 => Q (.rt d c1)) : W (evSs Φ ct F (.cons (.ife tst a b) r) ρ c) Q := by
  refine W_any ?_
  cases bv with
  | true =>
    obtain ⟨fl, e, q⟩ := ht rfl
    exact ⟨fl, by simp only [evS, h1]; exact e, q⟩
  | false =>
    obtain ⟨fl, e, q⟩ := hf rfl
    exact ⟨fl, by simp only [evS, h1]; exact e, q⟩
/-- a def by its body -/
theorem evF_W {np n : Nat} {body : ISs} {as : List Sl} {P : Dt → Dt → Prop} (hl : as.length = np) (h : W (evSs Φ ct F body (as ++ List.replicate (n - as.length) .no) c) fun fl => match fl with
      | .nx _ c1 => P .none c1
      | .rt d c1 => P d c1) : ∃ d c', evF Φ ct F np n body as c = some (d, c') ∧ P d c' := by
  obtain ⟨fl, e, q⟩ := h
  unfold evF
  rw [if_pos hl, e]
  cases fl with
  | nx _ c1 => exact ⟨_, _, rfl, q⟩
  | rt d c1 => exact ⟨_, _, rfl, q⟩
theorem evF_eq {np n : Nat} {body : ISs} {as : List Sl} {d c' : Dt} (hl : as.length = np) (h : W (evSs Φ ct F body (as ++ List.replicate (n - as.length) .no) c) fun fl => match fl with
      | .nx _ c1 => d = .none ∧ c' = c1
      | .rt d1 c1 => d = d1 ∧ c' = c1) : evF Φ ct F np n body as c = some (d, c') := by
  obtain ⟨d1, c1, e, rfl, rfl⟩ := evF_W (P := fun d1 c1 => d = d1 ∧ c' = c1) hl h
  exact e
end
end Pv
end
section
set_option Elab.async false
set_option linter.all false
set_option maxRecDepth 100000
/-! Pw.B: rows of ints as data. -/
namespace Pv
open PySem L2
/-- a row: a tuple of ints -/
def rowD (l : List Int) : Dt := .tuple (l.map .int)
def intL (l : List Int) : Dt := .list (l.map .int)
theorem ints_lay : ∀ l : List Int, PyData.canLayAll0 (l.map .int) = true
  | [] => by simp [PyData.canLayAll0]
  | i :: l => by simp [PyData.canLayAll0, PyData.canLay0, ints_lay l]
theorem ints_depth : ∀ l : List Int, PyData.depthAll (l.map .int) ≤ 1
  | [] => by simp [PyData.depthAll]
  | i :: l => by
    have := ints_depth l
    simp only [List.map_cons, PyData.depthAll, PyData.depth]
    omega
theorem sh_int (i : Int) : SeqAt.shaped (.int i) = true := by
  simp [SeqAt.shaped, PyData.canLay0, PyData.depth]
theorem sh_ints (l : List Int) : SeqAt.shaped (.list (l.map .int)) = true := by
  have := ints_depth l
  simp only [SeqAt.shaped, PyData.canLay0, ints_lay, PyData.depth, Bool.true_and]
  exact decide_eq_true (by omega)
theorem sh_row (l : List Int) : SeqAt.shaped (.tuple (l.map .int)) = true := by
  have := ints_depth l
  simp only [SeqAt.shaped, PyData.canLay0, ints_lay, PyData.depth, Bool.true_and]
  exact decide_eq_true (by omega)
theorem eqv_int (i j : Int) : PyData.eqv (.int i) (.int j) = decide (i = j) := by
  by_cases h : i = j
  · subst h; simp [PyData.eqv]
  · simp [PyData.eqv, h]
theorem eqvAll_int : ∀ a b : List Int, PyData.eqvAll (a.map .int) (b.map .int) = decide (a = b)
  | [], [] => by simp [PyData.eqvAll]
  | [], _ :: _ => by simp [PyData.eqvAll]
  | _ :: _, [] => by simp [PyData.eqvAll]
  | x :: a, y :: b => by
    simp only [List.map_cons, PyData.eqvAll, eqv_int, eqvAll_int a b]
    by_cases h : x = y <;> by_cases h2 : a = b <;> simp [h, h2]
theorem eqv_row (a b : List Int) : PyData.eqv (.tuple (a.map .int)) (.tuple (b.map .int)) = decide (a = b) := eqvAll_int a b
theorem eqv_ints (a b : List Int) : PyData.eqv (.list (a.map .int)) (.list (b.map .int)) = decide (a = b) := eqvAll_int a b
/-! ### comparisons -/
section
variable (kt : Bool) (i j : Int) (a b : List Int)
theorem c_eq : cmpD kt .Eq (.int i) (.int j) = some (decide (i = j)) := by simp [cmpD, sh_int, eqv_int]
theorem c_ne : cmpD kt .NotEq (.int i) (.int j) = some (!decide (i = j)) := by simp only [cmpD, sh_int, eqv_int, and_self, if_true]
theorem c_lt : cmpD kt .Lt (.int i) (.int j) = some (decide (i < j)) := rfl
theorem c_le : cmpD kt .LtE (.int i) (.int j) = some (decide (i ≤ j)) := rfl
theorem c_gt : cmpD kt .Gt (.int i) (.int j) = some (decide (j < i)) := rfl
theorem c_ge : cmpD kt .GtE (.int i) (.int j) = some (decide (j ≤ i)) := rfl
theorem c_eqr : cmpD kt .Eq (.tuple (a.map .int)) (.tuple (b.map .int)) = some (decide (a = b)) := by simp only [cmpD, sh_row, eqv_row, and_self, if_true]
theorem c_ner : cmpD kt .NotEq (.tuple (a.map .int)) (.tuple (b.map .int)) = some (!decide (a = b)) := by simp only [cmpD, sh_row, eqv_row, and_self, if_true]
theorem c_ner0 : cmpD kt .NotEq (.tuple (a.map .int)) (.tuple []) = some (!decide (a = [])) := c_ner kt a []
theorem c_eqr0 : cmpD kt .Eq (.tuple (a.map .int)) (.tuple []) = some (decide (a = [])) := c_eqr kt a []
theorem c_eql : cmpD kt .Eq (.list (a.map .int)) (.list (b.map .int)) = some (decide (a = b)) := by simp only [cmpD, sh_ints, eqv_ints, and_self, if_true]
theorem c_nel : cmpD kt .NotEq (.list (a.map .int)) (.list (b.map .int)) = some (!decide (a = b)) := by simp only [cmpD, sh_ints, eqv_ints, and_self, if_true]
theorem c_eql0 : cmpD kt .Eq (.list (a.map .int)) (.list []) = some (decide (a = [])) := c_eql kt a []
theorem any_int : ((b.map PyData.int).any fun z => PyData.eqv z (.int i)) = b.contains i := by
  induction b with
  | nil => rfl
  | cons x b ih =>
    rw [List.map_cons, List.any_cons, ih, eqv_int, List.contains_cons]
    congr 1
    by_cases h : x = i
    · subst h; simp
    · simp [h, Ne.symm h]
theorem c_in : cmpD kt .In (.int i) (.list (b.map .int)) = some (b.contains i) := by simp only [cmpD, inD, sh_int, sh_ints, and_self, if_true, any_int]
theorem c_nonI : cmpD kt .Is (.int i) .none = some false := rfl
end
theorem c_nonT (kt : Bool) (l : List Dt) : cmpD kt .Is (.tuple l) .none = some false := rfl
theorem c_nonN (kt : Bool) : cmpD kt .Is .none .none = some true := rfl
/-! ### arithmetic -/
theorem b_add (i j : Int) : binD .Add (.int i) (.int j) = some (.int (i + j)) := rfl
theorem b_sub (i j : Int) : binD .Sub (.int i) (.int j) = some (.int (i - j)) := rfl
theorem b_mod {i j : Int} (h : 0 < j) : binD .Mod (.int i) (.int j) = some (.int (i % j)) := by simp only [binD]; rw [if_pos h]
theorem b_div {i j : Int} (h : 0 < j) (h' : j < 2 ^ 200) : binD .FloorDiv (.int i) (.int j) = some (.int (i / j)) := by
  simp only [binD]
  have : j.natAbs.log2 < 201 := by
    have hn : j.natAbs < 2 ^ 200 := by omega
    by_cases z : j.natAbs = 0
    · rw [z]; decide
    · have := (Nat.log2_lt z).mpr hn
      omega
  rw [if_pos ⟨h, by omega⟩]
theorem b_addr {a b : List Dt} (h : a.length + b.length ≤ line) : binD .Add (.tuple a) (.tuple b) = some (.tuple (a ++ b)) := by
  simp only [binD, addD]; rw [if_pos h]
theorem b_addl {a b : List Dt} (h : a.length + b.length ≤ line) : binD .Add (.list a) (.list b) = some (.list (a ++ b)) := by
  simp only [binD, addD]; rw [if_pos h]
/-! ### places -/
theorem at_nat {α : Type} {xs : List α} {i : Nat} {x : α} (h : xs[i]? = some x) : atI xs (i : Int) = some x := by
  have hi := (List.getElem?_eq_some_iff.mp h).1
  unfold atI ixN
  rw [if_pos (by omega), if_pos (by omega)]
  simpa using h
theorem at_int {α : Type} {xs : List α} {i : Int} {x : α} (h0 : 0 ≤ i) (h : xs[i.toNat]? = some x) : atI xs i = some x := by
  have := at_nat h
  rwa [Int.toNat_of_nonneg h0] at this
theorem at_last {α : Type} {xs : List α} {x : α} : atI (xs ++ [x]) (-1) = some x := by
  unfold atI ixN
  rw [if_neg (by omega), if_pos (by simp; omega)]
  have : ((-1 : Int) + ((xs ++ [x]).length : Nat)).toNat = xs.length := by simp; omega
  show (some _).bind _ = _
  rw [Option.bind_some, this, List.getElem?_append_right (Nat.le_refl _), Nat.sub_self]
  rfl
theorem row_at {kt : Bool} {l : List Int} {i : Int} (h0 : 0 ≤ i) (h : i.toNat < l.length) : ixD kt (.tuple (l.map .int)) (.int i) = some (.int (l.getD i.toNat 0)) := by
  show atI _ _ = _
  refine at_int h0 ?_
  rw [List.getElem?_map, List.getElem?_eq_getElem h]
  simp [List.getD, h]
theorem allSh_map : ∀ l : List Dt, allSh (l.map .sh) = some l
  | [] => rfl
  | d :: l => by simp only [List.map_cons, allSh, allSh_map l]
end Pv
end
section
set_option Elab.async false
set_option linter.all false
set_option maxRecDepth 100000
/-! Pw.C: the well from which a law draws. -/
namespace Pv
open PySem L2
def WellD (l s m : Int) : Dt := .dict [(.str "left", .int l), (.str "seed", .int s), (.str "many", .int m)]
def Well (c : Dt) (M : Nat) : Prop := ∃ l s m : Int, c = WellD l s m ∧ 0 ≤ l ∧ 0 ≤ s ∧ s < 2 ^ 40 ∧ 0 ≤ m ∧ m ≤ (M : Int)
theorem Well.mono {c : Dt} {M N : Nat} (h : Well c M) (e : M ≤ N) : Well c N := by
  obtain ⟨l, s, m, rfl, h1, h2, h3, h4, h5⟩ := h
  exact ⟨l, s, m, rfl, h1, h2, h3, h4, by omega⟩
theorem w_left (kt : Bool) (l s m : Int) : ixD kt (WellD l s m) (.str "left") = some (.int l) := by
  simp only [ixD, WellD, getD, keyD, getK, if_true]
theorem w_seed (kt : Bool) (l s m : Int) : ixD kt (WellD l s m) (.str "seed") = some (.int s) := by
  have h1 : ¬ ((Sum.inr "left" : Key) = .inr "seed") := by decide +kernel
  simp only [ixD, WellD, getD, keyD, getK, if_true, if_neg h1]
theorem w_many (kt : Bool) (l s m : Int) : ixD kt (WellD l s m) (.str "many") = some (.int m) := by
  have h1 : ¬ ((Sum.inr "left" : Key) = .inr "many") := by decide +kernel
  have h2 : ¬ ((Sum.inr "seed" : Key) = .inr "many") := by decide +kernel
  simp only [ixD, WellD, getD, keyD, getK, if_true, if_neg h1, if_neg h2]
theorem ws_eqv (x y : Str) : PyData.eqv (.str x) (.str y) = decide (x = y) := by
  by_cases h : x = y
  · subst h; simp [PyData.eqv]
  · simp [PyData.eqv, h]
theorem s_left (kt : Bool) (l s m x : Int) : storeD kt (WellD l s m) (.str "left") (.int x) = some (WellD x s m) := by
  have hl : (3 : Nat) < line := by decide
  simp only [storeD, WellD, getD, keyD, getK, if_true, List.length_cons, List.length_nil, putD, ws_eqv, List.any_cons, List.map_cons, List.map_nil]
  have h1 : ¬ (("seed" : Str) = "left") := by decide +kernel
  have h2 : ¬ (("many" : Str) = "left") := by decide +kernel
  simp [h1, h2]
  exact hl
theorem s_seed (kt : Bool) (l s m x : Int) : storeD kt (WellD l s m) (.str "seed") (.int x) = some (WellD l x m) := by
  have hl : (3 : Nat) < line := by decide
  have h0 : ¬ ((Sum.inr "left" : Key) = .inr "seed") := by decide +kernel
  simp only [storeD, WellD, getD, keyD, getK, if_true, if_neg h0, List.length_cons, List.length_nil, putD, ws_eqv, List.any_cons, List.map_cons, List.map_nil]
  have h1 : ¬ (("left" : Str) = "seed") := by decide +kernel
  have h2 : ¬ (("many" : Str) = "seed") := by decide +kernel
  simp [h1, h2]
  exact hl
theorem s_many (kt : Bool) (l s m x : Int) : storeD kt (WellD l s m) (.str "many") (.int x) = some (WellD l s x) := by
  have hl : (3 : Nat) < line := by decide
  have h0 : ¬ ((Sum.inr "left" : Key) = .inr "many") := by decide +kernel
  have h00 : ¬ ((Sum.inr "seed" : Key) = .inr "many") := by decide +kernel
  simp only [storeD, WellD, getD, keyD, getK, if_true, if_neg h0, if_neg h00, List.length_cons, List.length_nil, putD, ws_eqv, List.any_cons, List.map_cons, List.map_nil]
  have h1 : ¬ (("left" : Str) = "many") := by decide +kernel
  have h2 : ¬ (("seed" : Str) = "many") := by decide +kernel
  simp [h1, h2]
  exact hl
theorem slotC_0 (r : List Sl) : slotC (.cell :: r) 0 = true := rfl
theorem slotC_s (x : Sl) (r : List Sl) (n : Nat) : slotC (x :: r) (n + 1) = slotC r n := rfl
theorem bt_int (i : Int) : btD .int [.int i] = some (.int i) := rfl
theorem bt_abs (i : Int) : btD .abs [.int i] = some (.int (if i < 0 then -i else i)) := rfl
theorem bt_lenL (l : List Dt) : btD .len [.list l] = some (.int l.length) := rfl
theorem bt_lenT (l : List Dt) : btD .len [.tuple l] = some (.int l.length) := rfl
theorem bt_tupL (l : List Dt) : btD .tuple [.list l] = some (.tuple l) := rfl
theorem small_lt {v : Int} (h : v.natAbs ≤ 2 ^ 62) : v.natAbs < 2 ^ 200 := Nat.lt_of_le_of_lt h (by decide)
end Pv
end
section
set_option Elab.async false
set_option linter.all false
set_option maxRecDepth 100000
/-! Pw.D: lots. -/
namespace Pv
open PySem L2
/-- where the next key of a lot may begin -/
def lo (p : List Int) : Int := match p.getLast? with
  | some x => x + 1
  | none => 0
theorem lo_nil : lo [] = 0 := rfl
theorem lo_snoc (q : List Int) (x : Int) : lo (q ++ [x]) = x + 1 := by unfold lo; rw [List.getLast?_concat]
def rngI (a : Int) (n : Nat) : List Int := (List.range n).map fun i => a + (i : Nat)
def extL (k : Int) (p : List Int) : List (List Int) := (rngI (lo p) (k - lo p).toNat).map fun x => p ++ [x]
def lotsL (k : Int) : Nat → List (List Int)
  | 0 => [[]]
  | n + 1 => (lotsL k n).flatMap (extL k)
def lotsD (L : List (List Int)) : Dt := .list (L.map rowD)
def LotOk (k : Int) (p : List Int) : Prop := ∀ x ∈ p, 0 ≤ x ∧ x < k
theorem lo_ok {k : Int} {p : List Int} (h : LotOk k p) (hk : 0 ≤ k) : 0 ≤ lo p ∧ lo p ≤ k := by
  rcases List.eq_nil_or_concat p with rfl | ⟨q, x, rfl⟩
  · rw [lo_nil]; omega
  · have := h x (by simp)
    rw [List.concat_eq_append, lo_snoc]; omega
theorem mem_rngI {a x : Int} {n : Nat} : x ∈ rngI a n ↔ a ≤ x ∧ x < a + (n : Nat) := by
  unfold rngI
  rw [List.mem_map]
  constructor
  · rintro ⟨i, hi, rfl⟩
    have := List.mem_range.mp hi
    omega
  · rintro ⟨h1, h2⟩
    exact ⟨(x - a).toNat, List.mem_range.mpr (by omega), by omega⟩
theorem rng_ints (a : Int) (n : Nat) : rngD (a, n) = (rngI a n).map .int := by
  unfold rngD rngI
  rw [List.map_map]; rfl
theorem ext_ok {k : Int} {p q : List Int} (hk : 0 ≤ k) (h : LotOk k p) (hq : q ∈ extL k p) : LotOk k q ∧ q.length = p.length + 1 := by
  unfold extL at hq
  obtain ⟨x, hx, rfl⟩ := List.mem_map.mp hq
  obtain ⟨h1, h2⟩ := mem_rngI.mp hx
  have := lo_ok h hk
  refine ⟨fun y hy => ?_, by simp⟩
  rcases List.mem_append.mp hy with hy | hy
  · exact h y hy
  · simp at hy; subst hy; omega
theorem lots_ok {k : Int} (hk : 0 ≤ k) : ∀ (n : Nat) (p : List Int), p ∈ lotsL k n → LotOk k p ∧ p.length = n
  | 0, p, h => by
    simp [lotsL] at h; subst h
    exact ⟨fun x hx => by simp at hx, rfl⟩
  | n + 1, p, h => by
    simp only [lotsL, List.mem_flatMap] at h
    obtain ⟨q, hq, hp⟩ := h
    obtain ⟨h1, h2⟩ := lots_ok hk n q hq
    obtain ⟨h3, h4⟩ := ext_ok hk h1 hp
    exact ⟨h3, by rw [h4, h2]⟩
theorem ext_len {k : Int} {p : List Int} (hk : 0 ≤ k) (h : LotOk k p) : (extL k p).length ≤ k.toNat := by
  have := lo_ok h hk
  unfold extL rngI
  simp only [List.length_map, List.length_range]
  omega
theorem flat_len {α β : Type} {f : α → List β} {b : Nat} : ∀ {l : List α}, (∀ x ∈ l, (f x).length ≤ b) → (l.flatMap f).length ≤ l.length * b
  | [], _ => by simp
  | x :: l, h => by
    rw [List.flatMap_cons, List.length_append, List.length_cons]
    have h1 := h x List.mem_cons_self
    have h2 := flat_len (l := l) fun y hy => h y (List.mem_cons_of_mem _ hy)
    rw [Nat.add_mul]
    omega
theorem lots_len {k : Int} (hk : 0 ≤ k) : ∀ n : Nat, (lotsL k n).length ≤ k.toNat ^ n
  | 0 => by simp [lotsL]
  | n + 1 => by
    have h1 := lots_len hk n
    have h2 := flat_len (f := extL k) (b := k.toNat) (l := lotsL k n) fun p hp => ext_len hk (lots_ok hk n p hp).1
    rw [lotsL, Nat.pow_succ]
    exact Nat.le_trans h2 (Nat.mul_le_mul_right _ h1)
/-- where the next key may begin, as it is reckoned -/
theorem lo_ev {kt : Bool} {p : List Int} : (p = [] ∧ cmpD kt .NotEq (rowD p) (.tuple []) = some false) ∨ (cmpD kt .NotEq (rowD p) (.tuple []) = some true ∧ ∃ x, ixD kt (rowD p) (.int (-1)) = some (.int x) ∧ lo p = x + 1) := by
  rcases List.eq_nil_or_concat p with rfl | ⟨q, x, rfl⟩
  · exact .inl ⟨rfl, by unfold rowD; rw [c_ner0]; rfl⟩
  · rw [List.concat_eq_append]
    refine .inr ⟨by unfold rowD; rw [c_ner0]; simp, x, ?_, lo_snoc q x⟩
    show atI _ _ = _
    rw [List.map_append]
    exact at_last
theorem take_snoc {α : Type} {l : List α} {i : Nat} {x : α} (h : l[i]? = some x) : l.take (i + 1) = l.take i ++ [x] := by
  rw [List.take_add_one, h]; rfl
theorem ext_at {k : Int} {p : List Int} {n : Nat} (h : n < (k - lo p).toNat) : (extL k p)[n]? = some (p ++ [lo p + (n : Nat)]) := by
  unfold extL rngI
  rw [List.getElem?_map, List.getElem?_map, List.getElem?_range h]; rfl
theorem ext_length {k : Int} {p : List Int} : (extL k p).length = (k - lo p).toNat := by
  unfold extL rngI; simp
theorem row_snoc (p : List Int) (x : Int) : PyData.tuple (p.map .int ++ [.int x]) = rowD (p ++ [x]) := by
  unfold rowD; rw [List.map_append]; rfl
theorem lots_snoc (L : List (List Int)) (p : List Int) : PyData.list (L.map rowD ++ [rowD p]) = lotsD (L ++ [p]) := by
  unfold lotsD; rw [List.map_append]; rfl
theorem app_lots {L : List (List Int)} {p : List Int} (h : L.length < line) : appD (rowD p) (lotsD L) = some (lotsD (L ++ [p])) := by
  unfold lotsD
  simp only [appD, List.length_map]
  rw [if_pos h, ← List.map_singleton, ← List.map_append]
theorem lots_at {L : List (List Int)} {i : Nat} {d : Dt} (h : (L.map rowD)[i]? = some d) : ∃ p, L[i]? = some p ∧ d = rowD p := by
  rw [List.getElem?_map] at h
  obtain ⟨p, h1, h2⟩ := Option.map_eq_some_iff.mp h
  exact ⟨p, h1, h2.symm⟩
/-- the row that data are -/
def unrow : Dt → List Int
  | .tuple ds => (intsD ds).getD []
  | _ => []
theorem unrow_row (p : List Int) : unrow (rowD p) = p := by
  show (intsD (p.map .int)).getD [] = p
  rw [intsD_map]; rfl
theorem flat_rows {k : Int} (L : List (List Int)) : (L.map rowD).flatMap (fun d => (extL k (unrow d)).map rowD) = (L.flatMap (extL k)).map rowD := by
  induction L with
  | nil => rfl
  | cons p L ih => rw [List.map_cons, List.flatMap_cons, ih, List.flatMap_cons, List.map_append, unrow_row]
theorem allSh_app : ∀ (l m : List Dt), allSh (l.map .sh ++ m.map .sh) = some (l ++ m)
  | [], m => allSh_map m
  | d :: l, m => by simp only [List.map_cons, List.cons_append, allSh, allSh_app l m]
theorem allSh_snoc (l : List Dt) (x : Dt) : allSh (l.map .sh ++ [.sh x]) = some (l ++ [x]) := allSh_app l [x]
theorem seqD_row (p : List Int) : seqD (rowD p) = some (p.map .int) := rfl
theorem ext_rows {k : Int} (p : List Int) : (rngD (lo p, (k - lo p).toNat)).map (fun d => PyData.tuple (p.map .int ++ [d])) = (extL k p).map rowD := by
  rw [rng_ints]
  unfold extL
  rw [List.map_map, List.map_map]
  congr 1
  funext x
  show PyData.tuple (p.map .int ++ [.int x]) = _
  rw [row_snoc]; rfl
end Pv
end
section
set_option Elab.async false
set_option linter.all false
set_option maxRecDepth 100000
/-! Pw.E: marks that differ. -/
namespace Pv
open PySem L2
def marksL (row lot : List Int) : List Int := lot.map fun i => row.getD i.toNat 0
def tells (row lot : List Int) : Bool := decide (marksL row lot).Nodup
theorem mem_take_iff {l : List Int} {i : Nat} {x : Int} : x ∈ l.take i ↔ ∃ j, j < i ∧ l[j]? = some x := by
  rw [List.mem_iff_getElem?]
  constructor
  · rintro ⟨j, hj⟩
    rw [List.getElem?_take] at hj
    split at hj
    · exact ⟨j, by assumption, hj⟩
    · cases hj
  · rintro ⟨j, h1, h2⟩
    exact ⟨j, by rw [List.getElem?_take, if_pos h1]; exact h2⟩
theorem nodup_take (l : List Int) : (∀ (i : Nat) (x : Int), l[i]? = some x → x ∉ l.take i) ↔ l.Nodup := by
  unfold List.Nodup
  rw [List.pairwise_iff_getElem]
  constructor
  · intro h i j hi hj hij e
    exact h j l[j] (List.getElem?_eq_getElem hj) (mem_take_iff.mpr ⟨i, hij, by rw [List.getElem?_eq_getElem hi, e]⟩)
  · intro h i x hx hm
    obtain ⟨j, h1, h2⟩ := mem_take_iff.mp hm
    obtain ⟨hi, e1⟩ := List.getElem?_eq_some_iff.mp hx
    obtain ⟨hj, e2⟩ := List.getElem?_eq_some_iff.mp h2
    exact h j i hj hi h1 (by rw [e1, e2])
theorem nodup_count : ∀ l : List Int, (∀ x ∈ l, l.count x = 1) ↔ l.Nodup
  | [] => by simp
  | a :: l => by
    rw [List.nodup_cons, ← nodup_count l]
    constructor
    · intro h
      have ha := h a List.mem_cons_self
      rw [List.count_cons_self] at ha
      have h0 : a ∉ l := List.count_eq_zero.mp (by omega)
      refine ⟨h0, fun x hx => ?_⟩
      have := h x (List.mem_cons_of_mem _ hx)
      have hne : a ≠ x := fun z => h0 (z ▸ hx)
      rwa [List.count_cons_of_ne hne] at this
    · rintro ⟨h0, h⟩ x hx
      rcases List.mem_cons.mp hx with rfl | hx
      · rw [List.count_cons_self, List.count_eq_zero.mpr h0]
      · have hne : a ≠ x := fun z => h0 (z ▸ hx)
        rw [List.count_cons_of_ne hne]
        exact h x hx
theorem cut_take {α : Type} (xs : List Dt) (i : Nat) (h : i ≤ xs.length) : cutD xs none (some (i : Int)) = xs.take i := by
  unfold cutD
  rw [HT.sIx_none, HT.sIx_nat, List.drop_zero, Nat.sub_zero, Nat.min_eq_left h]
theorem cut_drop (xs : List Dt) (i : Nat) (h : i ≤ xs.length) : cutD xs (some (i : Int)) none = xs.drop i := by
  unfold cutD
  rw [HT.sIx_none, HT.sIx_nat, Nat.min_eq_left h, ← List.length_drop, List.take_length]
theorem sl_take {xs : List Dt} {i : Nat} (h : i ≤ xs.length) : slD (.list xs) none (some (i : Int)) = some (.list (xs.take i)) := by
  simp only [slD]; rw [cut_take (α := Int) xs i h]
theorem marks_at {row : List Int} {kt : Bool} {k x : Int} (hr : row.length = k.toNat) (h : 0 ≤ x ∧ x < k) : ixD kt (rowD row) (.int x) = some (.int (row.getD x.toNat 0)) := row_at h.1 (by omega)
theorem img_flat {α : Type} {e : α → Dt} {g : Dt → Dt → Option (List Dt × Dt)} {h : α → List Dt} {c : Dt} : ∀ {l : List α}, (∀ x ∈ l, g (e x) c = some (h x, c)) → compGo g (l.map e) c = some (l.flatMap h, c)
  | [], _ => rfl
  | x :: l, q => by
    rw [List.map_cons]
    simp only [compGo, q x List.mem_cons_self, img_flat (l := l) fun y hy => q y (List.mem_cons_of_mem _ hy), List.flatMap_cons]
theorem img_map {α : Type} {e : α → Dt} {g : Dt → Dt → Option (List Dt × Dt)} {h : α → Dt} {c : Dt} {l : List α} (q : ∀ x ∈ l, g (e x) c = some ([h x], c)) : compGo g (l.map e) c = some (l.map h, c) := by
  rw [img_flat (h := fun x => [h x]) q]
  congr 2
  induction l with
  | nil => rfl
  | cons d ds ih => rw [List.flatMap_cons, List.map_cons, ih fun d' hd => q d' (List.mem_cons_of_mem _ hd)]; rfl
theorem img_filter {α : Type} {e : α → Dt} {g : Dt → Dt → Option (List Dt × Dt)} {p : α → Bool} {h : α → Dt} {c : Dt} {l : List α} (q : ∀ x ∈ l, g (e x) c = some (if p x = true then [h x] else [], c)) : compGo g (l.map e) c = some ((l.filter p).map h, c) := by
  rw [img_flat (h := fun x => if p x = true then [h x] else []) q]
  congr 2
  clear q
  induction l with
  | nil => rfl
  | cons d ds ih =>
    rw [List.flatMap_cons, ih]
    by_cases hp : p d = true
    · rw [if_pos hp, List.filter_cons_of_pos hp]; rfl
    · rw [if_neg hp, List.filter_cons_of_neg hp]; rfl
theorem rng_img (lo : Int) (n : Nat) : rngD (lo, n) = (List.range n).map fun i => .int (lo + (i : Nat)) := rfl
def boardD (rows : List (List Int)) : Dt := .tuple (rows.map rowD)
def blindL (rows : List (List Int)) (k : Int) (s : Nat) : Option (List Int) := (lotsL k s).find? fun l => !(rows.any fun r => tells r l)
def blindD : Option (List Int) → Dt
  | some l => rowD l
  | none => .none
/-- rows of k marks below v -/
structure Board (v k : Int) (rows : List (List Int)) : Prop where
  ne : rows ≠ []
  few : rows.length ≤ 128
  len : ∀ r ∈ rows, r.length = k.toNat
  mks : ∀ r ∈ rows, ∀ x ∈ r, 0 ≤ x ∧ x < v
theorem board_0 {v k : Int} {rows : List (List Int)} (B : Board v k rows) (hk : 0 ≤ k) : ∃ r0, ixD kt (boardD rows) (.int 0) = some (rowD r0) ∧ r0 ∈ rows ∧ ((r0.map PyData.int).length : Int) = k := by
  obtain ⟨r0, rest, e⟩ := List.exists_cons_of_ne_nil B.ne
  subst e
  refine ⟨r0, at_nat (i := 0) (xs := (r0 :: rest).map rowD) rfl, List.mem_cons_self, ?_⟩
  rw [List.length_map, B.len r0 List.mem_cons_self]; omega
theorem bt_any (l : List Bool) : btD .any [.list (l.map .bool)] = some (.bool (l.any id)) := by
  show (boolsD _).map _ = _
  rw [boolsD_map]; rfl
theorem bt_all (l : List Bool) : btD .all [.list (l.map .bool)] = some (.bool (l.all id)) := by
  show (boolsD _).map _ = _
  rw [boolsD_map]; rfl
theorem bt_lenR (l : List Int) : btD .len [rowD l] = some (.int l.length) := by
  show some _ = some _
  rw [List.length_map]
theorem rows_lay : ∀ L : List (List Int), PyData.canLayAll0 (L.map rowD) = true
  | [] => by simp [PyData.canLayAll0]
  | r :: L => by
    have h := ints_lay r
    simp only [List.map_cons, PyData.canLayAll0, rows_lay L, rowD, PyData.canLay0, h, Bool.and_self]
theorem rows_depth : ∀ L : List (List Int), PyData.depthAll (L.map rowD) ≤ 2
  | [] => by simp [PyData.depthAll]
  | r :: L => by
    have h := ints_depth r
    have h2 := rows_depth L
    simp only [List.map_cons, PyData.depthAll, rowD, PyData.depth]
    omega
theorem sh_board (L : List (List Int)) : SeqAt.shaped (boardD L) = true := by
  have := rows_depth L
  unfold boardD
  simp only [SeqAt.shaped, PyData.canLay0, rows_lay, PyData.depth, Bool.true_and]
  exact decide_eq_true (by omega)
theorem board_ne {kt : Bool} {L : List (List Int)} (h : L ≠ []) : cmpD kt .Eq (boardD L) (.tuple []) = some false := by
  have h0 : SeqAt.shaped (.tuple []) = true := sh_row []
  simp only [cmpD, sh_board, h0, and_self, if_true]
  obtain ⟨r, rest, rfl⟩ := List.exists_cons_of_ne_nil h
  unfold boardD
  simp [PyData.eqv, PyData.eqvAll]
theorem enum_at : ∀ {ds : List Dt} {n i : Nat} {d : Dt}, (enumD n ds)[i]? = some d → ∃ e, ds[i]? = some e ∧ d = .tuple [.int ((n + i : Nat) : Int), e]
  | [], _, _, _, h => by simp [enumD] at h
  | x :: r, n, 0, d, h => by simp [enumD] at h; exact ⟨x, rfl, by rw [← h]; rfl⟩
  | x :: r, n, i + 1, d, h => by
    rw [enumD, List.getElem?_cons_succ] at h
    obtain ⟨e, h1, h2⟩ := enum_at h
    refine ⟨e, by simpa using h1, ?_⟩
    rw [h2]
    congr 4
    omega
end Pv
end
section
set_option Elab.async false
set_option linter.all false
set_option maxRecDepth 100000
/-! Pw.F: comprehensions that draw. -/
namespace Pv
open PySem L2
theorem comp_core_ex {g : Dt → Dt → Option (List Dt × Dt)} {I : Nat → Dt → Prop} {P : Dt → Prop} : ∀ {xs : List Dt} {n : Nat} {c : Dt}, (∀ i d c, xs[i]? = some d → I (n + i) c → ∃ y c', g d c = some ([y], c') ∧ P y ∧ I (n + i + 1) c') → I n c →
    ∃ ys c', compGo g xs c = some (ys, c') ∧ ys.length = xs.length ∧ (∀ y ∈ ys, P y) ∧ I (n + xs.length) c'
  | [], n, c, _, h0 => ⟨[], c, rfl, rfl, fun y hy => (nomatch hy), h0⟩
  | d :: ds, n, c, h, h0 => by
    obtain ⟨y, c1, e1, p1, i1⟩ := h 0 d c rfl h0
    obtain ⟨ys, c2, e2, l2, p2, i2⟩ := comp_core_ex (g := g) (I := I) (P := P) (xs := ds) (n := n + 1) (c := c1) (fun i d' c' hi hs => by
      have e : n + (i + 1) = n + 1 + i := by omega
      have := h (i + 1) d' c' (by simpa using hi) (by rw [e]; exact hs)
      rw [e] at this; exact this) i1
    refine ⟨y :: ys, c2, by simp only [compGo, e1, e2]; rfl, by simp [l2], fun z hz => ?_, ?_⟩
    · rcases List.mem_cons.mp hz with rfl | hz
      · exact p1
      · exact p2 z hz
    · have e : n + (d :: ds).length = n + 1 + ds.length := by simp; omega
      rw [e]; exact i2
theorem comp_run {g : Dt → Dt → Option (List Dt × Dt)} {xs : List Dt} {c : Dt} {r : Option (List Dt × Dt)} (I : Nat → Dt → Prop) (P : Dt → Prop) (hr : compGo g xs c = r) (h0 : I 0 c) (h : ∀ i d c, xs[i]? = some d → I i c → ∃ y c', g d c = some ([y], c') ∧ P y ∧ I (i + 1) c') :
    ∃ ys c', r = some (ys, c') ∧ ys.length = xs.length ∧ (∀ y ∈ ys, P y) ∧ I xs.length c' := by
  obtain ⟨ys, c', e, l, p, i⟩ := comp_core_ex (g := g) (I := I) (P := P) (xs := xs) (n := 0) (c := c) (fun i d c hi hs => by
    rw [Nat.zero_add] at hs ⊢
    exact h i d c hi hs) h0
  rw [Nat.zero_add] at i
  exact ⟨ys, c', by rw [← hr]; exact e, l, p, i⟩
theorem img_of {α : Type} {e : α → Dt} {Q : α → Prop} : ∀ {ys : List Dt}, (∀ y ∈ ys, ∃ x, y = e x ∧ Q x) → ∃ l : List α, ys = l.map e ∧ ∀ x ∈ l, Q x
  | [], _ => ⟨[], rfl, fun x hx => (nomatch hx)⟩
  | y :: ys, h => by
    obtain ⟨x, rfl, q⟩ := h y List.mem_cons_self
    obtain ⟨l, rfl, ql⟩ := img_of (ys := ys) fun z hz => h z (List.mem_cons_of_mem _ hz)
    refine ⟨x :: l, rfl, fun z hz => ?_⟩
    rcases List.mem_cons.mp hz with rfl | hz
    · exact q
    · exact ql z hz
end Pv
end
section
set_option Elab.async false
set_option linter.all false
set_option maxRecDepth 100000
/-! Pw.G: lots and rows that tell: larger lots are harder. -/
namespace Pv
open PySem L2
theorem nodup_sub_len : ∀ {a b : List Int}, a.Nodup → (∀ x ∈ a, x ∈ b) → a.length ≤ b.length
  | [], _, _, _ => Nat.zero_le _
  | x :: a, b, nd, h => by
    obtain ⟨n1, n2⟩ := List.nodup_cons.mp nd
    have hx := h x List.mem_cons_self
    have ih := nodup_sub_len (a := a) (b := b.erase x) n2 fun y hy => by
      have : y ≠ x := fun z => n1 (z ▸ hy)
      exact (List.mem_erase_of_ne this).mpr (h y (List.mem_cons_of_mem _ hy))
    rw [List.length_erase_of_mem hx] at ih
    have := List.length_pos_of_mem hx
    rw [List.length_cons]; omega
theorem rngI_len (a : Int) (n : Nat) : (rngI a n).length = n := by unfold rngI; simp
theorem rngI_nodup (a : Int) (n : Nat) : (rngI a n).Nodup := by
  unfold rngI List.Nodup
  rw [List.pairwise_map]
  exact List.Pairwise.imp (fun h z => by omega) (List.pairwise_lt_range (n := n))
def Asc (l : List Int) : Prop := l.Pairwise (· < ·)
theorem Asc.nodup {l : List Int} (h : Asc l) : l.Nodup := List.Pairwise.imp (fun h z => by omega) h
theorem lots_mem {k : Int} : ∀ {n : Nat} {l : List Int}, l ∈ lotsL k n ↔ l.length = n ∧ LotOk k l ∧ Asc l
  | 0, l => by
    constructor
    · intro h
      simp [lotsL] at h; subst h
      exact ⟨rfl, fun x hx => (nomatch hx), List.Pairwise.nil⟩
    · rintro ⟨h, _⟩
      rw [List.length_eq_zero_iff.mp h]
      simp [lotsL]
  | n + 1, l => by
    simp only [lotsL, List.mem_flatMap]
    constructor
    · rintro ⟨q, hq, hl⟩
      obtain ⟨h1, h2, h3⟩ := lots_mem.mp hq
      unfold extL at hl
      obtain ⟨x, hx, rfl⟩ := List.mem_map.mp hl
      obtain ⟨x1, x2⟩ := mem_rngI.mp hx
      have last : ∀ y ∈ q, y < lo q := fun y hy => by
        rcases List.eq_nil_or_concat q with rfl | ⟨p, z, rfl⟩
        · cases hy
        · rw [List.concat_eq_append] at hy h3 ⊢
          rw [lo_snoc]
          rcases List.mem_append.mp hy with hy | hy
          · have := (List.pairwise_append.mp h3).2.2 y hy z (by simp)
            omega
          · simp at hy; omega
      have l0 : 0 ≤ lo q := by
        rcases List.eq_nil_or_concat q with rfl | ⟨p, z, rfl⟩
        · rw [lo_nil]; omega
        · have := h2 z (by simp)
          rw [List.concat_eq_append, lo_snoc]; omega
      refine ⟨by simp [h1], fun y hy => ?_, ?_⟩
      · rcases List.mem_append.mp hy with hy | hy
        · exact h2 y hy
        · simp at hy; subst hy; omega
      · exact List.pairwise_append.mpr ⟨h3, List.pairwise_singleton _ _, fun y hy z hz => by
          simp at hz; subst hz
          have := last y hy
          omega⟩
    · rintro ⟨h1, h2, h3⟩
      rcases List.eq_nil_or_concat l with rfl | ⟨q, x, rfl⟩
      · simp at h1
      · rw [List.concat_eq_append] at h1 h2 h3 ⊢
        have hq : q ∈ lotsL k n := lots_mem.mpr ⟨by simpa using h1, fun y hy => h2 y (by simp [hy]), (List.pairwise_append.mp h3).1⟩
        refine ⟨q, hq, ?_⟩
        unfold extL
        refine List.mem_map.mpr ⟨x, mem_rngI.mpr ?_, rfl⟩
        have hx := h2 x (by simp)
        have : lo q ≤ x := by
          rcases List.eq_nil_or_concat q with rfl | ⟨p, z, rfl⟩
          · rw [lo_nil]; omega
          · rw [List.concat_eq_append] at h3 ⊢
            rw [lo_snoc]
            have := (List.pairwise_append.mp h3).2.2 z (by simp) x (by simp)
            omega
        omega
theorem insI_sub (y : Int) : ∀ l : List Int, l.Sublist (insI y l)
  | [] => List.nil_sublist _
  | x :: l => by
    unfold insI
    split
    · exact List.sublist_cons_self _ _
    · exact (insI_sub y l).cons_cons x
theorem mem_insI {y z : Int} : ∀ {l : List Int}, z ∈ insI y l ↔ z = y ∨ z ∈ l
  | [] => by simp [insI]
  | x :: l => by
    unfold insI
    split
    · simp
    · simp only [List.mem_cons, mem_insI (l := l)]
      constructor
      · rintro (h | h | h)
        · exact .inr (.inl h)
        · exact .inl h
        · exact .inr (.inr h)
      · rintro (h | h | h)
        · exact .inr (.inl h)
        · exact .inl h
        · exact .inr (.inr h)
theorem insI_len (y : Int) : ∀ l : List Int, (insI y l).length = l.length + 1
  | [] => rfl
  | x :: l => by
    unfold insI
    split
    · rfl
    · rw [List.length_cons, insI_len y l, List.length_cons]
theorem insI_asc {y : Int} : ∀ {l : List Int}, y ∉ l → Asc l → Asc (insI y l)
  | [], _, _ => List.pairwise_singleton _ _
  | x :: l, hn, h => by
    simp only [List.mem_cons, not_or] at hn
    obtain ⟨a1, a2⟩ := List.pairwise_cons.mp h
    unfold insI
    split
    · rename_i hle
      refine List.pairwise_cons.mpr ⟨fun z hz => ?_, h⟩
      rcases List.mem_cons.mp hz with rfl | hz
      · have := hn.1; omega
      · have := a1 z hz; have := hn.1; omega
    · refine List.pairwise_cons.mpr ⟨fun z hz => ?_, insI_asc hn.2 a2⟩
      rcases mem_insI.mp hz with rfl | hz
      · omega
      · exact a1 z hz
/-- a larger lot about a lot -/
theorem grow {k : Int} {n : Nat} {l : List Int} (h : l ∈ lotsL k n) (hn : (n : Int) < k) : ∃ l', l' ∈ lotsL k (n + 1) ∧ l.Sublist l' := by
  obtain ⟨h1, h2, h3⟩ := lots_mem.mp h
  have : ∃ y, (0 ≤ y ∧ y < k) ∧ y ∉ l := by
    refine Classical.byContradiction fun hno => ?_
    have := nodup_sub_len (rngI_nodup 0 k.toNat) (b := l) fun y hy => by
      obtain ⟨y1, y2⟩ := mem_rngI.mp hy
      refine Classical.byContradiction fun hy' => hno ⟨y, ⟨by omega, by omega⟩, hy'⟩
    rw [rngI_len, h1] at this
    omega
  obtain ⟨y, hy, hny⟩ := this
  refine ⟨insI y l, lots_mem.mpr ⟨by rw [insI_len, h1], fun z hz => ?_, insI_asc hny h3⟩, insI_sub y l⟩
  rcases mem_insI.mp hz with rfl | hz
  · exact hy
  · exact h2 z hz
theorem tells_sub {row l l' : List Int} (h : l.Sublist l') (t : tells row l' = true) : tells row l = true := by
  unfold tells marksL at t ⊢
  rw [decide_eq_true_eq] at t ⊢
  exact List.Pairwise.sublist (h.map _) t
theorem blind_none {rows : List (List Int)} {k : Int} {s : Nat} : blindL rows k s = none ↔ ∀ l ∈ lotsL k s, ∃ r ∈ rows, tells r l = true := by
  unfold blindL
  rw [List.find?_eq_none]
  constructor
  · intro h l hl
    have := h l hl
    simpa using this
  · intro h l hl
    obtain ⟨r, hr, t⟩ := h l hl
    have : (rows.any fun r => tells r l) = true := List.any_eq_true.mpr ⟨r, hr, t⟩
    simp [this]
theorem apart_less {rows : List (List Int)} {k : Int} {s : Nat} (hs : (s : Int) < k) (h : blindL rows k (s + 1) = none) : blindL rows k s = none := by
  rw [blind_none] at h ⊢
  intro l hl
  obtain ⟨l', h1, h2⟩ := grow hl hs
  obtain ⟨r, hr, t⟩ := h l' h1
  exact ⟨r, hr, tells_sub h2 t⟩
theorem apart_few {v k : Int} {rows : List (List Int)} (B : Board v k rows) {s : Nat} (hs : (s : Int) ≤ k) (h : blindL rows k s = none) (v0 : 0 ≤ v) : (s : Int) ≤ v := by
  rw [blind_none] at h
  have hm : rngI 0 s ∈ lotsL k s := lots_mem.mpr ⟨rngI_len 0 s, fun x hx => by have := mem_rngI.mp hx; omega, by
    unfold rngI Asc
    rw [List.pairwise_map]
    exact List.Pairwise.imp (fun h => by omega) (List.pairwise_lt_range (n := s))⟩
  obtain ⟨r, hr, t⟩ := h _ hm
  unfold tells at t
  rw [decide_eq_true_eq] at t
  have := nodup_sub_len t (b := rngI 0 v.toNat) fun x hx => by
    unfold marksL at hx
    obtain ⟨i, hi, rfl⟩ := List.mem_map.mp hx
    have hi' := mem_rngI.mp hi
    have hlen := B.len r hr
    have hlt : i.toNat < r.length := by omega
    have := B.mks r hr (r.getD i.toNat 0) (by rw [List.getD_eq_getElem?_getD, List.getElem?_eq_getElem hlt]; exact List.getElem_mem hlt)
    exact mem_rngI.mpr (by omega)
  rw [rngI_len] at this
  have e : (marksL r (rngI 0 s)).length = s := by unfold marksL; rw [List.length_map, rngI_len]
  omega
end Pv
end
section
set_option Elab.async false
set_option linter.all false
set_option maxRecDepth 100000
/-! Pw.H: repr of calm data (no texts, no dicts, short ints). -/
namespace Pv
open PySem L2
mutual
def calm : PyData → Bool
  | .none => true
  | .bool _ => true
  | .int i => decide (i.natAbs < 2 ^ 200)
  | .str _ => false
  | .list xs => calmAll xs
  | .tuple xs => calmAll xs
  | .dict _ => false
def calmAll : List PyData → Bool
  | [] => true
  | x :: xs => calm x && calmAll xs
end
theorem ok_app {a b : Str} (h1 : PyData.strOk a = true) (h2 : PyData.strOk b = true) : PyData.strOk (a ++ b) = true := by
  unfold PyData.strOk at *
  rw [Str.cps_append, Array.all_append, h1, h2]; rfl
theorem ok_of (s : String) : PyData.strOk (Str.ofString s) = true := by
  unfold PyData.strOk
  rw [Str.ofString_eq_toList]
  simp only [List.all_toArray, List.all_map, List.all_eq_true, Function.comp, decide_eq_true_eq]
  intro c _
  have := c.valid
  rcases this with h | h
  · exact Nat.lt_trans h (by decide)
  · exact h.2
theorem ok_lit {s : String} : PyData.strOk (s : Str) = true := ok_of s
theorem ok_join {sep : Str} (h0 : PyData.strOk sep = true) : ∀ {ts : List Str}, (∀ t ∈ ts, PyData.strOk t = true) → PyData.strOk (Str.join sep ts) = true
  | [], _ => by simp [Str.join, Str.empty, PyData.strOk]
  | [x], h => h x List.mem_cons_self
  | x :: y :: r, h => by
    show PyData.strOk (x ++ sep ++ Str.join sep (y :: r)) = true
    exact ok_app (ok_app (h x List.mem_cons_self) h0) (ok_join h0 fun t ht => h t (List.mem_cons_of_mem _ ht))
theorem ok_from : ∀ {ts : List Str} {k : Nat} {acc : Str}, PyData.strOk acc = true → (∀ t ∈ ts, PyData.strOk t = true) → PyData.strOk (textFrom k acc ts) = true
  | [], _, _, h, _ => h
  | t :: ts, k, acc, h, hs => by
    show PyData.strOk (textFrom (k + 1) (acc ++ (if k > 0 then ", " else "" : String) ++ t) ts) = true
    exact ok_from (ts := ts) (ok_app (ok_app h (ok_of _)) (hs t List.mem_cons_self)) fun u hu => hs u (List.mem_cons_of_mem _ hu)
theorem ok_list {ts : List Str} (h : ∀ t ∈ ts, PyData.strOk t = true) : PyData.strOk (listText ts) = true := ok_app (ok_from (ok_of _) h) (ok_of _)
theorem ok_tup {ts : List Str} (h : ∀ t ∈ ts, PyData.strOk t = true) : PyData.strOk (tupleText ts) = true := ok_app (ok_app (ok_of _) (ok_join (ok_of _) h)) (ok_of _)
mutual
theorem calm_shown : ∀ d : PyData, calm d = true → PyData.strOk d.shown = true
  | .none, _ => ok_of _
  | .bool b, _ => by cases b <;> exact ok_of _
  | .int i, _ => ok_of _
  | .str _, h => by simp [calm] at h
  | .list xs, h => by rw [PyData.shown]; exact ok_list (calmAll_shown xs (by simpa [calm] using h))
  | .tuple xs, h => by rw [PyData.shown]; exact ok_tup (calmAll_shown xs (by simpa [calm] using h))
  | .dict _, h => by simp [calm] at h
theorem calmAll_shown : ∀ xs : List PyData, calmAll xs = true → ∀ t ∈ PyData.shownAll xs, PyData.strOk t = true
  | [], _, _, h => by simp [PyData.shownAll] at h
  | x :: xs, h, t, ht => by
    simp only [calmAll, Bool.and_eq_true] at h
    simp only [PyData.shownAll, List.mem_cons] at ht
    rcases ht with rfl | ht
    · exact calm_shown x h.1
    · exact calmAll_shown xs h.2 t ht
end
theorem sh62 {i : Int} (h : i.natAbs < 2 ^ 200) : (PyData.shown (.int i)).length ≤ 62 := by
  have e := PySem.int_text_length_le10 (k := 61) (by decide) (Nat.lt_of_lt_of_le h (by decide))
  show (Str.ofString (toString i)).length ≤ 62
  rw [show (Str.ofString (toString i)).length = (toString i).length from PySem.ofString_length _]; exact e
theorem calm_log {i : Int} (h : i.natAbs < 2 ^ 200) : i.natAbs.log2 < 200 := by
  by_cases z : i.natAbs = 0
  · rw [z]; decide
  · exact (Nat.log2_lt z).mpr (Nat.lt_of_lt_of_le h (by decide))
mutual
theorem calm_facts : ∀ d : PyData, calm d = true → d.showable = true ∧ d.canLay0 = true ∧ d.intsShort 62 = true
  | .none, _ => ⟨by simp [PyData.showable], by simp [PyData.canLay0], by simp [PyData.intsShort]⟩
  | .bool _, _ => ⟨by simp [PyData.showable], by simp [PyData.canLay0], by simp [PyData.intsShort]⟩
  | .int i, h => by
    have h' : i.natAbs < 2 ^ 200 := by simpa only [calm, decide_eq_true_eq] using h
    have := calm_log h'
    refine ⟨?_, by simp [PyData.canLay0], ?_⟩
    · simp only [PyData.showable, decide_eq_true_eq]; omega
    · simp only [PyData.intsShort, decide_eq_true_eq]; exact sh62 h'
  | .str _, h => by simp [calm] at h
  | .list xs, h => by
    have := calmAll_facts xs (by simpa [calm] using h)
    simpa only [PyData.showable, PyData.canLay0, PyData.intsShort] using this
  | .tuple xs, h => by
    have := calmAll_facts xs (by simpa [calm] using h)
    simpa only [PyData.showable, PyData.canLay0, PyData.intsShort] using this
  | .dict _, h => by simp [calm] at h
theorem calmAll_facts : ∀ xs : List PyData, calmAll xs = true → PyData.showableAll xs = true ∧ PyData.canLayAll0 xs = true ∧ PyData.intsShortAll 62 xs = true
  | [], _ => ⟨by simp [PyData.showableAll], by simp [PyData.canLayAll0], by simp [PyData.intsShortAll]⟩
  | x :: xs, h => by
    simp only [calmAll, Bool.and_eq_true] at h
    have h1 := calm_facts x h.1
    have h2 := calmAll_facts xs h.2
    simp only [PyData.showableAll, PyData.canLayAll0, PyData.intsShortAll, Bool.and_eq_true]
    exact ⟨⟨h1.1, h2.1⟩, ⟨h1.2.1, h2.2.1⟩, h1.2.2, h2.2.2⟩
end
/-- repr of calm data of few parts -/
theorem bt_repr {d : PyData} (h : calm d = true) (hd : d.depth ≤ 64) (hw : d.weight ≤ 2 ^ 17) : btD .repr [d] = some (.str d.shown) := by
  obtain ⟨h1, h2, h3⟩ := calm_facts d h
  have := PyData.shown_le 62 (by decide) d (PyData.leavesShort_of_canLay0 62 d h2 h3)
  have h4 : (62 + 2) * d.weight ≤ 64 * 2 ^ 17 := Nat.mul_le_mul (by decide) hw
  have hline := line_val
  simp only [btD]
  rw [if_pos ⟨h1, hd, h2, by omega⟩]
theorem sh_shown {d : PyData} (h : calm d = true) : SeqAt.shaped (.str d.shown) = true := by
  simp only [SeqAt.shaped, PyData.canLay0, calm_shown d h, PyData.depth, Bool.true_and]
  exact decide_eq_true (by omega)
theorem c_neS (kt : Bool) {d : PyData} (h : calm d = true) : cmpD kt .NotEq (.str d.shown) (.str d.shown) = some false := by
  simp only [cmpD, sh_shown h, and_self, if_true, ws_eqv, decide_true, Bool.not_true]
theorem c_eqS (kt : Bool) {d : PyData} (h : calm d = true) : cmpD kt .Eq (.str d.shown) (.str d.shown) = some true := by
  simp only [cmpD, sh_shown h, and_self, if_true, ws_eqv, decide_true]
/-! ### weights -/
theorem w_ints : ∀ {l : List Int}, (∀ x ∈ l, x.natAbs < 2 ^ 200) → PyData.weightAll (l.map .int) ≤ l.length * 201 ∧ calmAll (l.map .int) = true
  | [], _ => by simp [PyData.weightAll, calmAll]
  | x :: l, h => by
    have h1 := w_ints (l := l) fun y hy => h y (List.mem_cons_of_mem _ hy)
    have h0 := h x List.mem_cons_self
    have := calm_log h0
    simp only [List.map_cons, PyData.weightAll, PyData.weight, calmAll, calm, List.length_cons, Bool.and_eq_true, decide_eq_true_eq]
    refine ⟨?_, h0, h1.2⟩
    have e : (if (x == 0) = true then 0 else x.natAbs.log2 + 1) ≤ 200 := by split <;> omega
    omega
theorem repr_row {l : List Int} (h : ∀ x ∈ l, x.natAbs < 2 ^ 200) (hl : l.length ≤ 500) : calm (rowD l) = true ∧ btD .repr [rowD l] = some (.str (rowD l).shown) := by
  obtain ⟨h1, h2⟩ := w_ints h
  have hc : calm (rowD l) = true := by simpa only [rowD, calm] using h2
  refine ⟨hc, bt_repr hc ?_ ?_⟩
  · have := ints_depth l
    simp only [rowD, PyData.depth]; omega
  · simp only [rowD, PyData.weight]
    have : (2 : Nat) ^ 17 = 131072 := by decide
    omega
theorem repr_bool (b : Bool) : btD .repr [.bool b] = some (.str (PyData.bool b).shown) := bt_repr (by simp [calm]) (by simp [PyData.depth]) (by simp [PyData.weight])
theorem repr_none : btD .repr [.none] = some (.str PyData.none.shown) := bt_repr (by simp [calm]) (by simp [PyData.depth]) (by simp [PyData.weight])
end Pv
end
section
set_option Elab.async false
set_option linter.all false
set_option maxRecDepth 100000
/-! Pw.I: searching loops; membership; parted lots. -/
namespace Pv
open PySem L2
theorem calm_bool (b : Bool) : calm (.bool b) = true := by simp [calm]
section
variable {α : Type} {Φ : List Fn} {ct : Ct} {F : Nat} {ρ : List Sl} {c : Dt} {Q : Fl → Prop} {r : ISs} {tg : Tg} {it : II} {body : ISs}
/-- a loop that hands back at the first x with p -/
theorem W_find {e : α → Dt} {l : List α} (p : α → Bool) (St : List Sl → Prop) (hI : evI Φ ct it ρ c = some (l.map e, c)) (h0 : St ρ)
    (hs : ∀ x ρ, x ∈ l → (p x = true → l.find? p = some x) → St ρ → ∃ ρ1, putTg tg (e x) ρ = some ρ1 ∧ W (evSs Φ ct F body ρ1 c) fun fl => match fl with
      | .nx ρ' c' => c' = c ∧ St ρ' ∧ p x = false
      | .rt d c' => Q (.rt d c'))
    (k : ∀ ρ', St ρ' → l.find? p = none → W (evSs Φ ct F r ρ' c) Q) : W (evSs Φ ct F (.cons (.for_ tg it body) r) ρ c) Q := by
  refine W_for (xs := l.map e) (c1 := c) (fun i ρ c' => c' = c ∧ St ρ ∧ ∀ j y, j < i → l[j]? = some y → p y = false) hI ⟨rfl, h0, fun j y hj => absurd hj (by omega)⟩ ?_ ?_
  · rintro i d ρ c' hd ⟨rfl, hst, hp⟩
    rw [List.getElem?_map] at hd
    obtain ⟨x, hx, rfl⟩ := Option.map_eq_some_iff.mp hd
    obtain ⟨hi, hx2⟩ := List.getElem?_eq_some_iff.mp hx
    obtain ⟨ρ1, e1, fl, e2, q⟩ := hs x ρ (List.mem_of_getElem? hx) (fun z => by
      rw [List.find?_eq_some_iff_getElem]
      refine ⟨z, i, hi, hx2, fun j hj => ?_⟩
      have := hp j _ hj (List.getElem?_eq_getElem (by omega))
      simp [this]) hst
    refine ⟨ρ1, e1, fl, e2, ?_⟩
    cases fl with
    | rt d c2 => exact q
    | nx ρ2 c2 =>
      obtain ⟨rfl, q2, q3⟩ := q
      refine ⟨rfl, q2, fun j y hj hy => ?_⟩
      by_cases e : j = i
      · subst e
        rw [hx] at hy; cases hy; exact q3
      · exact hp j y (by omega) hy
  · rintro ρ' c' ⟨rfl, hst, hp⟩
    refine k ρ' hst ?_
    rw [List.find?_eq_none]
    intro x hx
    obtain ⟨j, hj⟩ := List.mem_iff_getElem?.mp hx
    have := hp j x (by rw [List.length_map]; exact (List.getElem?_eq_some_iff.mp hj).1) hj
    simp [this]
end
/-! ### membership -/
theorem c_notInL (kt : Bool) (i : Int) (b : List Int) : cmpD kt .NotIn (.int i) (.list (b.map .int)) = some (!b.contains i) := by
  have := c_in kt i b
  simp only [cmpD] at this ⊢
  rw [this]; rfl
theorem flat_ints (b : List Int) : (b.map PyData.int).all flatD = true := by
  rw [List.all_map, List.all_eq_true]
  intro x _; rfl
theorem c_inR (kt : Bool) (i : Int) (b : List Int) : cmpD kt .In (.int i) (rowD b) = some (b.contains i) := by
  have h0 : flatD (.int i) = true := rfl
  simp only [cmpD, inD, rowD, flat_ints, h0, and_self, if_true, any_int]
theorem c_notInR (kt : Bool) (i : Int) (b : List Int) : cmpD kt .NotIn (.int i) (rowD b) = some (!b.contains i) := by
  have := c_inR kt i b
  simp only [cmpD] at this ⊢
  rw [this]; rfl
theorem sh_rows (L : List (List Int)) : SeqAt.shaped (lotsD L) = true := by
  have := rows_depth L
  unfold lotsD
  simp only [SeqAt.shaped, PyData.canLay0, rows_lay, PyData.depth, Bool.true_and]
  exact decide_eq_true (by omega)
theorem any_row (l : List Int) (L : List (List Int)) : ((L.map rowD).any fun z => PyData.eqv z (rowD l)) = L.contains l := by
  induction L with
  | nil => rfl
  | cons x L ih =>
    rw [List.map_cons, List.any_cons, ih, List.contains_cons]
    congr 1
    show PyData.eqv (.tuple (x.map .int)) (.tuple (l.map .int)) = _
    rw [eqv_row]
    by_cases h : x = l
    · subst h; simp
    · simp [h, Ne.symm h]
theorem c_inRows (kt : Bool) (l : List Int) (L : List (List Int)) : cmpD kt .In (rowD l) (lotsD L) = some (L.contains l) := by
  have h0 : SeqAt.shaped (rowD l) = true := sh_row l
  have h1 : SeqAt.shaped (.list (L.map rowD)) = true := sh_rows L
  simp only [cmpD, inD, lotsD, h0, h1, and_self, if_true, any_row]
theorem c_notInRows (kt : Bool) (l : List Int) (L : List (List Int)) : cmpD kt .NotIn (rowD l) (lotsD L) = some (!L.contains l) := by
  have := c_inRows kt l L
  simp only [cmpD] at this ⊢
  rw [this]; rfl
theorem c_nel0 (kt : Bool) (a : List Int) : cmpD kt .NotEq (.list (a.map .int)) (.list []) = some (!decide (a = [])) := c_nel kt a []
/-! ### slices from 1 -/
theorem cut_drop' (xs : List Dt) (i : Nat) : cutD xs (some (i : Int)) none = xs.drop i := by
  unfold cutD
  rw [HT.sIx_none, HT.sIx_nat]
  by_cases h : i ≤ xs.length
  · rw [Nat.min_eq_left h, ← List.length_drop, List.take_length]
  · rw [Nat.min_eq_right (by omega), List.drop_of_length_le (Nat.le_refl _), List.drop_of_length_le (by omega), List.take_nil]
theorem sl_drop1 (l : List Int) : slD (rowD l) (some 1) none = some (rowD (l.drop 1)) := by
  show some (PyData.tuple (cutD (l.map .int) (some ((1 : Nat) : Int)) none)) = _
  rw [cut_drop', ← List.map_drop]; rfl
theorem zip_ints : ∀ a b : List Int, zipD (a.map .int) (b.map .int) = (a.zip b).map fun p => .tuple [.int p.1, .int p.2]
  | [], _ => rfl
  | _ :: _, [] => rfl
  | x :: a, y :: b => by
    simp only [List.map_cons, zipD, List.zip_cons_cons, zip_ints a b]
theorem asc_zip : ∀ {l : List Int}, Asc l → ∀ p ∈ l.zip (l.drop 1), p.1 < p.2
  | [], _, p, hp => by simp at hp
  | [x], _, p, hp => by simp at hp
  | x :: y :: r, h, p, hp => by
    rw [List.drop_succ_cons, List.drop_zero, List.zip_cons_cons, List.mem_cons] at hp
    obtain ⟨h1, h2⟩ := List.pairwise_cons.mp h
    rcases hp with rfl | hp
    · exact h1 y List.mem_cons_self
    · exact asc_zip (l := y :: r) h2 p (by rw [List.drop_succ_cons, List.drop_zero]; exact hp)
/-! ### parted -/
def partR (r one two : List Int) : Bool := (marksL r one).all fun m => !(marksL r two).contains m
def partsB (rows : List (List Int)) (one two : List Int) : Bool := rows.any fun r => partR r one two
theorem partR_iff {r one two : List Int} : partR r one two = true ↔ ∀ x ∈ one, ∀ y ∈ two, r.getD x.toNat 0 ≠ r.getD y.toNat 0 := by
  unfold partR marksL
  rw [List.all_eq_true]
  constructor
  · intro h x hx y hy e
    have := h _ (List.mem_map.mpr ⟨x, hx, rfl⟩)
    simp only [Bool.not_eq_true', List.contains_eq_mem, decide_eq_false_iff_not] at this
    exact this (List.mem_map.mpr ⟨y, hy, e.symm⟩)
  · intro h m hm
    obtain ⟨x, hx, rfl⟩ := List.mem_map.mp hm
    simp only [Bool.not_eq_true', List.contains_eq_mem, decide_eq_false_iff_not]
    rintro hy
    obtain ⟨y, hy, e⟩ := List.mem_map.mp hy
    exact h x hx y hy e.symm
theorem partR_comm (r one two : List Int) : partR r one two = partR r two one := by
  rw [Bool.eq_iff_iff, partR_iff, partR_iff]
  constructor
  · intro h x hx y hy e; exact h y hy x hx e.symm
  · intro h x hx y hy e; exact h y hy x hx e.symm
theorem partsB_comm (rows : List (List Int)) (one two : List Int) : partsB rows one two = partsB rows two one := by
  unfold partsB
  congr 1
  funext r
  exact partR_comm r one two
/-! ### framed -/
def frmB (rows : List (List Int)) (x : Int) (l : List Int) : Bool := !l.contains x && !partsB rows [x] l
def framedB (rows : List (List Int)) (k : Int) (w : Nat) : Bool := (lotsL k w).any fun l => (rngI 0 k.toNat).any fun x => frmB rows x l
def FramedD (rows : List (List Int)) (k : Int) (w : Nat) (d : Dt) : Prop := (d = .none ∧ framedB rows k w = false) ∨ ∃ x l, d = .tuple [.int x, rowD l] ∧ 0 ≤ x ∧ x < k ∧ l ∈ lotsL k w ∧ frmB rows x l = true
theorem framedB_of {rows : List (List Int)} {k x : Int} {w : Nat} {l : List Int} (h0 : 0 ≤ x) (h1 : x < k) (hl : l ∈ lotsL k w) (hf : frmB rows x l = true) : framedB rows k w = true :=
  List.any_eq_true.mpr ⟨l, hl, List.any_eq_true.mpr ⟨x, mem_rngI.mpr ⟨h0, by omega⟩, hf⟩⟩
theorem one_ok {k x : Int} (h0 : 0 ≤ x) (h1 : x < k) : LotOk k [x] := fun y hy => by
  simp at hy; subst hy; exact ⟨h0, h1⟩
/-! ### repr of few bools -/
theorem repr_bools {l : List Bool} (hl : l.length ≤ 1000) : calm (.list (l.map .bool)) = true ∧ btD .repr [.list (l.map .bool)] = some (.str (PyData.list (l.map .bool)).shown) := by
  have h : ∀ l : List Bool, calmAll (l.map .bool) = true ∧ PyData.depthAll (l.map .bool) ≤ 1 ∧ PyData.weightAll (l.map .bool) ≤ l.length * 10 := fun l => by
    induction l with
    | nil => simp [calmAll, PyData.depthAll, PyData.weightAll]
    | cons b l ih =>
      obtain ⟨i1, i2, i3⟩ := ih
      simp only [List.map_cons, calmAll, calm, i1, PyData.depthAll, PyData.depth, PyData.weightAll, PyData.weight, List.length_cons]
      refine ⟨rfl, by omega, by omega⟩
  obtain ⟨i1, i2, i3⟩ := h l
  have hc : calm (.list (l.map .bool)) = true := by simpa only [calm] using i1
  refine ⟨hc, bt_repr hc ?_ ?_⟩
  · simp only [PyData.depth]; omega
  · simp only [PyData.weight]
    have : (2 : Nat) ^ 17 = 131072 := by decide
    omega
theorem bt_tup (l : List Int) : btD .tuple [.list (l.map .int)] = some (rowD l) := rfl
theorem c_isB (kt : Bool) (a b : Bool) : cmpD kt .Is (.bool a) (.bool b) = some (decide (a = b)) := rfl
theorem c_notB (kt : Bool) (a b : Bool) : cmpD kt .IsNot (.bool a) (.bool b) = some (!decide (a = b)) := rfl
theorem unframed {rows : List (List Int)} {k x : Int} {w : Nat} {l : List Int} (h : framedB rows k w = false) (h0 : 0 ≤ x) (h1 : x < k) (hl : l ∈ lotsL k w) (hx : l.contains x = false) : partsB rows [x] l = true := by
  cases e : partsB rows [x] l with
  | true => rfl
  | false =>
    have := framedB_of h0 h1 hl (show frmB rows x l = true by unfold frmB; rw [hx, e]; rfl)
    rw [h] at this; cases this
theorem c_isNon (kt : Bool) (d : Dt) : cmpD kt .Is d .none = some (isNonD d) := by cases d <;> rfl
theorem lst_at {kt : Bool} {l : List Int} {i : Int} (h0 : 0 ≤ i) (h : i.toNat < l.length) : ixD kt (.list (l.map .int)) (.int i) = some (.int (l.getD i.toNat 0)) := by
  show atI _ _ = _
  refine at_int h0 ?_
  rw [List.getElem?_map, List.getElem?_eq_getElem h]
  simp [List.getD, h]
theorem first_lot {k : Int} {s : Nat} (hs : (s : Int) ≤ k) : rngI 0 s ∈ lotsL k s := lots_mem.mpr ⟨rngI_len 0 s, fun x hx => by have := mem_rngI.mp hx; omega, by
    unfold rngI Asc
    rw [List.pairwise_map]
    exact List.Pairwise.imp (fun h => by omega) (List.pairwise_lt_range (n := s))⟩
theorem rngI_asc (a : Int) (n : Nat) : Asc (rngI a n) := by
  unfold rngI Asc
  rw [List.pairwise_map]
  exact List.Pairwise.imp (fun h => by omega) (List.pairwise_lt_range (n := n))
theorem filt_asc {l : List Int} (p : Int → Bool) (h : Asc l) : Asc (l.filter p) := List.Pairwise.sublist List.filter_sublist h
/-- a list of draws -/
theorem draws_run {g : Dt → Dt → Option (List Dt × Dt)} {xs : List Dt} {c : Dt} {r : Option (List Dt × Dt)} {M : Nat} (n : Int) (hr : compGo g xs c = r) (h0 : Well c M) (hM : M + xs.length ≤ 1000000)
    (h : ∀ d c M', Well c M' → M' ≤ 1000000 → ∃ x c', g d c = some ([.int x], c') ∧ 0 ≤ x ∧ x < n ∧ Well c' (M' + 1)) :
    ∃ (l : List Int) (c' : Dt), r = some (l.map .int, c') ∧ l.length = xs.length ∧ (∀ x ∈ l, 0 ≤ x ∧ x < n) ∧ Well c' (M + xs.length) := by
  obtain ⟨zs, c4, e, lz, pz, iz⟩ := comp_run (fun j c => Well c (M + j) ∧ j ≤ xs.length) (fun y => ∃ x, y = .int x ∧ (0 ≤ x ∧ x < n)) hr ⟨h0, Nat.zero_le _⟩ (by
    rintro i d c hi ⟨w, hi2⟩
    have hlt := (List.getElem?_eq_some_iff.mp hi).1
    obtain ⟨x, c5, e5, x1, x2, w5⟩ := h d c (M + i) w (by omega)
    exact ⟨_, _, e5, ⟨x, rfl, x1, x2⟩, w5, by omega⟩)
  obtain ⟨l, rfl, ql⟩ := img_of pz
  exact ⟨l, c4, e, by rw [← lz, List.length_map], ql, iz.1⟩
end Pv
end
section
set_option Elab.async false
set_option linter.all false
set_option maxRecDepth 100000
/-! Pw.J: while; fractions in lowest terms. -/
namespace Pv
open PySem L2
section
variable {Φ : List Fn} {ct : Ct} {F : Nat} {ρ : List Sl} {c : Dt} {Q : Fl → Prop} {r : ISs}
theorem W_whl {tst : IE} {body : ISs} (I : Nat → List Sl → Dt → Prop) (h0 : I F ρ c) (hz : ∀ ρ c, ¬ I 0 ρ c)
    (hs : ∀ n ρ c, I (n + 1) ρ c → ∃ b, evE Φ ct tst ρ c = some (.bool b, c) ∧ (b = true → W (evSs Φ ct F body ρ c) fun fl => match fl with
      | .nx ρ' c' => I n ρ' c'
      | .rt d c' => Q (.rt d c')) ∧ (b = false → W (evSs Φ ct F r ρ c) Q)) : W (evSs Φ ct F (.cons (.whl tst body) r) ρ c) Q := by
  have go : ∀ n ρ c, I n ρ c → W (whlGo (fun ρ c => evE Φ ct tst ρ c) (fun ρ c => evSs Φ ct F body ρ c) n ρ c) fun fl => match fl with
      | .nx ρ1 c1 => W (evSs Φ ct F r ρ1 c1) Q
      | .rt d c1 => Q (.rt d c1) := by
    intro n
    induction n with
    | zero => intro ρ c h; exact absurd h (hz ρ c)
    | succ n ih =>
      intro ρ c h
      obtain ⟨b, e, ht, hf⟩ := hs n ρ c h
      cases b with
      | false => exact ⟨.nx ρ c, by simp only [whlGo, e], hf rfl⟩
      | true =>
        obtain ⟨fl, e2, q⟩ := ht rfl
        cases fl with
        | rt d c1 => exact ⟨.rt d c1, by simp only [whlGo, e, e2], q⟩
        | nx ρ1 c1 =>
          obtain ⟨fl2, e3, q2⟩ := ih ρ1 c1 q
          exact ⟨fl2, by simp only [whlGo, e, e2]; exact e3, q2⟩
  refine W_any ?_
  obtain ⟨fl, e, q⟩ := go F ρ c h0
  exact ⟨fl, by simp only [evS]; exact e, q⟩
end
def gI (n m : Int) : Int := ((Nat.gcd n.natAbs m.natAbs : Nat) : Int)
def lowD (n m : Int) : Dt := rowD [n / gI n m, m / gI n m]
theorem gI_pos {n m : Int} (h : 0 < m) : 0 < gI n m := by
  unfold gI
  have : 0 < Nat.gcd n.natAbs m.natAbs := Nat.gcd_pos_of_pos_right _ (by omega)
  omega
theorem gI_le {n m : Int} (h : 0 < m) : gI n m ≤ m := by
  unfold gI
  have : Nat.gcd n.natAbs m.natAbs ≤ m.natAbs := Nat.gcd_le_right _ (by omega)
  omega
theorem gI_dvd_left (n m : Int) : gI n m ∣ n := Int.gcd_dvd_left ..
theorem gI_dvd_right (n m : Int) : gI n m ∣ m := Int.gcd_dvd_right ..
theorem low_mul_left (n m : Int) : n / gI n m * gI n m = n := Int.ediv_mul_cancel (gI_dvd_left n m)
theorem low_mul_right (n m : Int) : m / gI n m * gI n m = m := Int.ediv_mul_cancel (gI_dvd_right n m)
theorem mul_lt_iff {a b g : Int} (hg : 0 < g) : a * g < b * g ↔ a < b := by
  constructor
  · intro h
    exact Int.lt_of_mul_lt_mul_right h (by omega)
  · intro h
    exact Int.mul_lt_mul_of_pos_right h hg
theorem low_cross {a N b M : Int} (hN : 0 < N) (hM : 0 < M) : (a / gI a N) * (M / gI b M) < (b / gI b M) * (N / gI a N) ↔ a * M < b * N := by
  have g1 := gI_pos (n := a) hN
  have g2 := gI_pos (n := b) hM
  have e1 := low_mul_left a N
  have e2 := low_mul_right a N
  have e3 := low_mul_left b M
  have e4 := low_mul_right b M
  generalize gI a N = g at *
  generalize gI b M = h at *
  generalize a / g = x at *
  generalize N / g = y at *
  generalize b / h = z at *
  generalize M / h = t at *
  have hp : 0 < g * h := Int.mul_pos g1 g2
  rw [← mul_lt_iff hp]
  have l : x * t * (g * h) = a * M := by rw [← e1, ← e4]; ac_rfl
  have r : z * y * (g * h) = b * N := by rw [← e2, ← e3]; ac_rfl
  rw [l, r]
theorem low_inj {a b N : Int} (hN : 0 < N) (h : lowD a N = lowD b N) : a = b := by
  unfold lowD rowD at h
  simp only [List.map_cons, List.map_nil, PyData.tuple.injEq, List.cons.injEq, PyData.int.injEq, and_true] at h
  obtain ⟨h1, h2⟩ := h
  have e1 := low_mul_left a N
  have e2 := low_mul_right a N
  have e3 := low_mul_left b N
  have e4 := low_mul_right b N
  have g1 := gI_pos (n := a) hN
  rw [← h1] at e3
  rw [← h2] at e4
  have hy : N / gI a N ≠ 0 := by
    intro z; rw [z] at e2; omega
  have : gI a N = gI b N := by
    have := e2.trans e4.symm
    exact Int.eq_of_mul_eq_mul_left hy this
  rw [← e1, ← e3, this]
theorem low_zero {N : Int} (hN : 0 < N) : lowD 0 N = rowD [0, 1] := by
  have e : gI 0 N = N := by
    unfold gI
    rw [Int.natAbs_zero, Nat.gcd_zero_left]; omega
  unfold lowD
  rw [e, Int.zero_ediv, Int.ediv_self (by omega)]
theorem low_small {n m : Int} (hm : 0 < m) (h0 : 0 ≤ n) (h1 : n < 2 ^ 200) (h2 : m < 2 ^ 200) : ∀ x ∈ [n / gI n m, m / gI n m], x.natAbs < 2 ^ 200 := by
  have g1 := gI_pos (n := n) hm
  intro x hx
  simp only [List.mem_cons, List.not_mem_nil, or_false] at hx
  rcases hx with rfl | rfl
  · have a := Int.ediv_nonneg h0 (Int.le_of_lt g1)
    have b := Int.ediv_le_self (b := gI n m) h0
    omega
  · have a := Int.ediv_nonneg (Int.le_of_lt hm) (Int.le_of_lt g1)
    have b := Int.ediv_le_self (a := m) (b := gI n m) (by omega)
    omega
/-! ### repr of few rows -/
theorem w_rows : ∀ {L : List (List Int)}, (∀ r ∈ L, r.length ≤ 20 ∧ ∀ x ∈ r, x.natAbs < 2 ^ 200) → PyData.weightAll (L.map rowD) ≤ L.length * 4200 ∧ calmAll (L.map rowD) = true
  | [], _ => by simp [PyData.weightAll, calmAll]
  | r :: L, h => by
    have h1 := w_rows (L := L) fun y hy => h y (List.mem_cons_of_mem _ hy)
    have h0 := h r List.mem_cons_self
    obtain ⟨h2, h3⟩ := w_ints h0.2
    simp only [List.map_cons, PyData.weightAll, rowD, PyData.weight, calmAll, calm, List.length_cons, Bool.and_eq_true]
    refine ⟨?_, h3, h1.2⟩
    have := h1.1
    unfold rowD at this
    omega
theorem repr_rows {L : List (List Int)} (h : ∀ r ∈ L, r.length ≤ 20 ∧ ∀ x ∈ r, x.natAbs < 2 ^ 200) (hl : L.length ≤ 30) : calm (lotsD L) = true ∧ btD .repr [lotsD L] = some (.str (lotsD L).shown) := by
  obtain ⟨h1, h2⟩ := w_rows h
  have hc : calm (lotsD L) = true := by simpa only [lotsD, calm] using h2
  refine ⟨hc, bt_repr hc ?_ ?_⟩
  · have := rows_depth L
    simp only [lotsD, PyData.depth]; omega
  · simp only [lotsD, PyData.weight]
    have : (2 : Nat) ^ 17 = 131072 := by decide
    omega
theorem bt_gcd (i j : Int) : btD .gcd [.int i, .int j] = some (.int (gI i j)) := rfl
/-- a search's answer by an order -/
theorem find_first {α : Type} {R : α → α → Prop} {p : α → Bool} : ∀ {L : List α} {l : α}, L.Pairwise R → l ∈ L → p l = true → (∀ l' ∈ L, R l' l → p l' = false) → L.find? p = some l
  | x :: L, l, hp, hl, pl, h => by
    obtain ⟨h1, h2⟩ := List.pairwise_cons.mp hp
    rw [List.find?_cons]
    rcases List.mem_cons.mp hl with rfl | hl
    · rw [pl]
    · rw [h x List.mem_cons_self (h1 l hl)]
      exact find_first h2 hl pl fun l' h' => h l' (List.mem_cons_of_mem _ h')
end Pv
end
section
set_option Elab.async false
set_option linter.all false
set_option maxRecDepth 100000
/-! Pw.K: collisions; pairs of keys. -/
namespace Pv
open PySem L2
def cntC (rows : List (List Int)) (x y : Int) : Nat := (rows.filter fun r => decide (r.getD x.toNat 0 = r.getD y.toNat 0)).length
def cntL (rows : List (List Int)) : List Int → Nat
  | [x, y] => cntC rows x y
  | _ => 0
def wC (rows : List (List Int)) (L : List (List Int)) : Nat := L.foldl (fun m l => max m (cntL rows l)) 0
theorem cnt_le (rows : List (List Int)) (x y : Int) : cntC rows x y ≤ rows.length := List.length_filter_le ..
theorem cntL_le (rows : List (List Int)) (l : List Int) : cntL rows l ≤ rows.length := by
  unfold cntL
  split
  · exact cnt_le ..
  · omega
theorem foldmax {α : Type} (f : α → Nat) : ∀ (L : List α) (m : Nat), m ≤ L.foldl (fun m l => max m (f l)) m ∧ (∀ l ∈ L, f l ≤ L.foldl (fun m l => max m (f l)) m) ∧ (L.foldl (fun m l => max m (f l)) m = m ∨ ∃ l ∈ L, f l = L.foldl (fun m l => max m (f l)) m)
  | [], m => ⟨Nat.le_refl _, fun l hl => (nomatch hl), .inl rfl⟩
  | x :: L, m => by
    obtain ⟨h1, h2, h3⟩ := foldmax f L (max m (f x))
    rw [List.foldl_cons]
    refine ⟨by omega, fun l hl => ?_, ?_⟩
    · rcases List.mem_cons.mp hl with rfl | hl
      · omega
      · exact h2 l hl
    · rcases h3 with h3 | ⟨l, hl, e⟩
      · by_cases h : f x ≤ m
        · exact .inl (by omega)
        · exact .inr ⟨x, List.mem_cons_self, by omega⟩
      · exact .inr ⟨l, List.mem_cons_of_mem _ hl, e⟩
theorem wC_le (rows L : List (List Int)) : wC rows L ≤ rows.length := by
  obtain ⟨_, _, h⟩ := foldmax (cntL rows) L 0
  unfold wC
  rcases h with h | ⟨l, _, h⟩
  · omega
  · rw [← h]; exact cntL_le _ _
theorem lots2 (k : Int) : lotsL k 2 = (rngI 0 k.toNat).flatMap fun x => (rngI (x + 1) (k - (x + 1)).toNat).map fun y => [x, y] := by
  have h1 : lotsL k 1 = (rngI 0 k.toNat).map fun x => [x] := by
    simp only [lotsL, List.flatMap_cons, List.flatMap_nil, List.append_nil, extL, lo_nil, List.nil_append, Int.sub_zero]
  rw [show lotsL k 2 = (lotsL k 1).flatMap (extL k) from rfl, h1, List.flatMap_map]
  congr 1
def lex2 (l l' : List Int) : Prop := ∃ a b c d, l = [a, b] ∧ l' = [c, d] ∧ (a < c ∨ (a = c ∧ b < d))
theorem lots2_sorted (k : Int) : (lotsL k 2).Pairwise lex2 := by
  rw [lots2, List.pairwise_flatMap]
  constructor
  · intro x hx
    rw [List.pairwise_map]
    exact List.Pairwise.imp (fun {a b} h => ⟨x, a, x, b, rfl, rfl, .inr ⟨rfl, h⟩⟩) (rngI_asc _ _)
  · refine List.Pairwise.imp (fun {a b} h l hl l' hl' => ?_) (rngI_asc 0 k.toNat)
    obtain ⟨y, _, rfl⟩ := List.mem_map.mp hl
    obtain ⟨z, _, rfl⟩ := List.mem_map.mp hl'
    exact ⟨a, y, b, z, rfl, rfl, .inl h⟩
theorem mem_lots2 {k : Int} {l : List Int} : l ∈ lotsL k 2 ↔ ∃ x y, l = [x, y] ∧ 0 ≤ x ∧ x < y ∧ y < k := by
  rw [lots_mem]
  constructor
  · rintro ⟨h1, h2, h3⟩
    match l, h1 with
    | [x, y], _ =>
      have a := h2 x (by simp)
      have b := h2 y (by simp)
      have c := (List.pairwise_cons.mp h3).1 y (by simp)
      exact ⟨x, y, rfl, by omega, c, by omega⟩
  · rintro ⟨x, y, rfl, h1, h2, h3⟩
    refine ⟨rfl, fun z hz => ?_, ?_⟩
    · simp at hz; omega
    · exact List.pairwise_cons.mpr ⟨fun z hz => by simp at hz; omega, List.pairwise_singleton _ _⟩
theorem c_neRows0 (kt : Bool) (L : List (List Int)) : cmpD kt .NotEq (lotsD L) (.list []) = some (!decide (L = [])) := by
  have h0 : SeqAt.shaped (.list []) = true := sh_ints []
  simp only [cmpD, sh_rows, h0, and_self, if_true]
  cases L with
  | nil => simp [lotsD, PyData.eqv, PyData.eqvAll]
  | cons r L => simp [lotsD, PyData.eqv, PyData.eqvAll]
/-- what a search over pairs has found so far -/
def Best (rows : List (List Int)) (P : Int → Int → Prop) (m : Nat) : Option (Int × Int) → Prop
  | none => m = 0 ∧ ∀ a b, ¬ P a b
  | some (a, b) => P a b ∧ cntC rows a b = m ∧ (∀ x y, P x y → cntC rows x y ≤ m) ∧ ∀ x y, P x y → (x < a ∨ (x = a ∧ y < b)) → cntC rows x y < m
def pairD : Option (Int × Int) → Dt
  | none => .none
  | some (a, b) => rowD [a, b]
theorem Best.step {rows : List (List Int)} {P P' : Int → Int → Prop} {m : Nat} {p : Option (Int × Int)} {x y : Int} (h : Best rows P m p) (hP : ∀ a b, P' a b ↔ (P a b ∨ (a = x ∧ b = y))) (hl : ∀ a b, P a b → a < x ∨ (a = x ∧ b < y)) :
    (p = none ∨ m < cntC rows x y → Best rows P' (cntC rows x y) (some (x, y))) ∧ (¬ (p = none ∨ m < cntC rows x y) → Best rows P' m p) := by
  constructor
  · intro hc
    refine ⟨(hP _ _).mpr (.inr ⟨rfl, rfl⟩), rfl, fun a b hab => ?_, fun a b hab hlt => ?_⟩
    · rcases (hP _ _).mp hab with h' | ⟨rfl, rfl⟩
      · cases p with
        | none => exact absurd h' (h.2 a b)
        | some q =>
          obtain ⟨q1, q2⟩ := q
          have := h.2.2.1 a b h'
          rcases hc with hc | hc
          · cases hc
          · omega
      · exact Nat.le_refl _
    · rcases (hP _ _).mp hab with h' | ⟨rfl, rfl⟩
      · cases p with
        | none => exact absurd h' (h.2 a b)
        | some q =>
          obtain ⟨q1, q2⟩ := q
          have := h.2.2.1 a b h'
          rcases hc with hc | hc
          · cases hc
          · omega
      · omega
  · intro hc
    cases p with
    | none => exact absurd (.inl rfl) hc
    | some q =>
      obtain ⟨q1, q2⟩ := q
      obtain ⟨h1, h2, h3, h4⟩ := h
      have hc' : cntC rows x y ≤ m := by
        by_cases z : m < cntC rows x y
        · exact absurd (.inr z) hc
        · omega
      refine ⟨(hP _ _).mpr (.inl h1), h2, fun a b hab => ?_, fun a b hab hlt => ?_⟩
      · rcases (hP _ _).mp hab with h' | ⟨rfl, rfl⟩
        · exact h3 a b h'
        · exact hc'
      · rcases (hP _ _).mp hab with h' | ⟨rfl, rfl⟩
        · exact h4 a b h' hlt
        · have := hl q1 q2 h1
          omega
theorem Best.skip {rows : List (List Int)} {P P' : Int → Int → Prop} {m : Nat} {p : Option (Int × Int)} (h : Best rows P m p) (hP : ∀ a b, P' a b ↔ P a b) : Best rows P' m p := by
  have : P' = P := by funext a b; exact propext (hP a b)
  rw [this]; exact h
theorem Best.fin {rows : List (List Int)} {k : Int} {P : Int → Int → Prop} {m : Nat} {p : Option (Int × Int)} (h : Best rows P m p) (hP : ∀ a b, P a b ↔ (0 ≤ a ∧ a < b ∧ b < k)) :
    m = wC rows (lotsL k 2) ∧ pairD p = blindD ((lotsL k 2).find? fun l => decide (cntL rows l = wC rows (lotsL k 2))) := by
  obtain ⟨_, w2, w3⟩ := foldmax (cntL rows) (lotsL k 2) 0
  rw [show (lotsL k 2).foldl (fun m l => max m (cntL rows l)) 0 = wC rows (lotsL k 2) from rfl] at w2 w3
  cases p with
  | none =>
    have hnil : lotsL k 2 = [] := by
      rw [List.eq_nil_iff_forall_not_mem]
      intro l hl
      obtain ⟨x, y, rfl, h0, h1, h2⟩ := mem_lots2.mp hl
      exact h.2 x y ((hP _ _).mpr ⟨h0, h1, h2⟩)
    rw [hnil]
    exact ⟨h.1, rfl⟩
  | some q =>
    obtain ⟨a, b⟩ := q
    obtain ⟨h1, h2, h3, h4⟩ := h
    have hab := (hP _ _).mp h1
    have hm : [a, b] ∈ lotsL k 2 := mem_lots2.mpr ⟨a, b, rfl, hab⟩
    have e : m = wC rows (lotsL k 2) := by
      have u1 := w2 _ hm
      have e1 : cntL rows [a, b] = cntC rows a b := rfl
      rcases w3 with w3 | ⟨l, hl, w3⟩
      · omega
      · obtain ⟨x, y, rfl, g0, g1, g2⟩ := mem_lots2.mp hl
        have := h3 x y ((hP _ _).mpr ⟨g0, g1, g2⟩)
        have e2 : cntL rows [x, y] = cntC rows x y := rfl
        omega
    refine ⟨e, ?_⟩
    have := find_first (p := fun l => decide (cntL rows l = wC rows (lotsL k 2))) (lots2_sorted k) hm (by
      rw [decide_eq_true_eq, ← e]; exact h2) fun l' hl' hR => by
      obtain ⟨x, y, c, d, rfl, e', hlt⟩ := hR
      cases e'
      obtain ⟨x', y', e'', g⟩ := mem_lots2.mp hl'
      cases e''
      have := h4 x y ((hP _ _).mpr g) hlt
      rw [decide_eq_false_iff_not, ← e]
      have e2 : cntL rows [x, y] = cntC rows x y := rfl
      omega
    rw [this]; rfl
theorem repr_two {d : Dt} (h : calm d = true) (hd : d.depth ≤ 10) (hw : d.weight ≤ 60000) : calm (.list [d, d]) = true ∧ btD .repr [.list [d, d]] = some (.str (PyData.list [d, d]).shown) := by
  have hc : calm (.list [d, d]) = true := by simp only [calm, calmAll, h, Bool.and_self]
  refine ⟨hc, bt_repr hc ?_ ?_⟩
  · simp only [PyData.depth, PyData.depthAll]; omega
  · simp only [PyData.weight, PyData.weightAll]
    have : (2 : Nat) ^ 17 = 131072 := by decide
    omega
theorem row_dw {l : List Int} (h : ∀ x ∈ l, x.natAbs < 2 ^ 200) (hl : l.length ≤ 100) : (rowD l).depth ≤ 10 ∧ (rowD l).weight ≤ 60000 := by
  obtain ⟨h1, h2⟩ := w_ints h
  have h3 := ints_depth l
  simp only [rowD, PyData.depth, PyData.weight]
  omega
theorem low_calm {n m : Int} (hm : 0 < m) (h0 : 0 ≤ n) (h1 : n < 2 ^ 200) (h2 : m < 2 ^ 200) : calm (lowD n m) = true ∧ btD .repr [lowD n m] = some (.str (lowD n m).shown) ∧ (lowD n m).depth ≤ 10 ∧ (lowD n m).weight ≤ 60000 := by
  obtain ⟨a, b⟩ := repr_row (low_small hm h0 h1 h2) (by simp)
  obtain ⟨p, q⟩ := row_dw (low_small hm h0 h1 h2) (by simp)
  exact ⟨a, b, p, q⟩
theorem low_ix0 (kt : Bool) (n m : Int) : ixD kt (lowD n m) (.int 0) = some (.int (n / gI n m)) := at_nat (i := 0) rfl
theorem low_ix1 (kt : Bool) (n m : Int) : ixD kt (lowD n m) (.int 1) = some (.int (m / gI n m)) := at_nat (i := 1) rfl
end Pv
end
section
set_option Elab.async false
set_option linter.all false
set_option maxRecDepth 100000
/-! Pw.L: offs of sources. -/
namespace Pv
open PySem L2
def absI (i : Int) : Int := if i < 0 then -i else i
theorem absI_nn (i : Int) : 0 ≤ absI i := by unfold absI; split <;> omega
theorem absI_add (i j : Int) : absI (i + j) ≤ absI i + absI j := by unfold absI; split <;> split <;> split <;> omega
theorem absI_mul {s : Int} (h : 0 ≤ s) (i : Int) : absI (s * i) = s * absI i := by
  unfold absI
  by_cases hi : i < 0
  · rw [if_pos hi]
    by_cases hs : s = 0
    · subst hs; simp
    · have : s * i < 0 := Int.mul_neg_of_pos_of_neg (by omega) hi
      rw [if_pos this, Int.mul_neg]
  · rw [if_neg hi]
    have : 0 ≤ s * i := Int.mul_nonneg h (by omega)
    rw [if_neg (by omega)]
/-! ### sums -/
theorem sum_congr {α : Type} {f g : α → Int} : ∀ {l : List α}, (∀ x ∈ l, f x = g x) → (l.map f).sum = (l.map g).sum
  | [], _ => rfl
  | x :: l, h => by
    rw [List.map_cons, List.map_cons, List.sum_cons, List.sum_cons, h x List.mem_cons_self, sum_congr fun y hy => h y (List.mem_cons_of_mem _ hy)]
theorem sum_le {α : Type} {f g : α → Int} : ∀ {l : List α}, (∀ x ∈ l, f x ≤ g x) → (l.map f).sum ≤ (l.map g).sum
  | [], _ => Int.le_refl _
  | x :: l, h => by
    rw [List.map_cons, List.map_cons, List.sum_cons, List.sum_cons]
    have := h x List.mem_cons_self
    have := sum_le (l := l) fun y hy => h y (List.mem_cons_of_mem _ hy)
    omega
theorem sum_nn {α : Type} {f : α → Int} {l : List α} (h : ∀ x ∈ l, 0 ≤ f x) : 0 ≤ (l.map f).sum := by
  have := sum_le (f := fun _ => (0 : Int)) (g := f) h
  have e : ∀ l : List α, (l.map fun _ => (0 : Int)).sum = 0 := fun l => by induction l with
    | nil => rfl
    | cons x l ih => rw [List.map_cons, List.sum_cons, ih]; rfl
  rw [e] at this; exact this
theorem sum_const {α : Type} (c : Int) : ∀ l : List α, (l.map fun _ => c).sum = c * (l.length : Nat)
  | [] => by simp
  | x :: l => by
    rw [List.map_cons, List.sum_cons, sum_const c l, List.length_cons, Int.natCast_succ, Int.mul_add]; omega
theorem sum_add {α : Type} (f g : α → Int) : ∀ l : List α, (l.map fun x => f x + g x).sum = (l.map f).sum + (l.map g).sum
  | [] => rfl
  | x :: l => by
    rw [List.map_cons, List.map_cons, List.map_cons, List.sum_cons, List.sum_cons, List.sum_cons, sum_add f g l]; omega
theorem sum_mul {α : Type} (c : Int) (f : α → Int) : ∀ l : List α, (l.map fun x => c * f x).sum = c * (l.map f).sum
  | [] => by simp
  | x :: l => by
    rw [List.map_cons, List.map_cons, List.sum_cons, List.sum_cons, sum_mul c f l, Int.mul_add]
theorem sum_swap {α β : Type} (f : α → β → Int) : ∀ (l : List α) (m : List β), (l.map fun x => (m.map fun y => f x y).sum).sum = (m.map fun y => (l.map fun x => f x y).sum).sum
  | [], m => by
    rw [List.map_nil]
    have := sum_const (0 : Int) m
    simp only [List.map_nil, List.sum_nil]
    rw [this]; simp
  | x :: l, m => by
    rw [List.map_cons, List.sum_cons, sum_swap f l m, ← sum_add]
    exact sum_congr fun y _ => by rw [List.map_cons, List.sum_cons]
theorem sum_abs {α : Type} (f : α → Int) : ∀ l : List α, absI (l.map f).sum ≤ (l.map fun x => absI (f x)).sum
  | [] => by simp [absI]
  | x :: l => by
    rw [List.map_cons, List.map_cons, List.sum_cons, List.sum_cons]
    have := absI_add (f x) (l.map f).sum
    have := sum_abs f l
    omega
theorem rngI_succ (a : Int) (n : Nat) : rngI a (n + 1) = a :: rngI (a + 1) n := by
  unfold rngI
  rw [List.range_succ_eq_map, List.map_cons, List.map_map]
  simp only [Int.natCast_zero, Int.add_zero]
  congr 1
  refine List.map_congr_left fun i _ => ?_
  show a + ((i + 1 : Nat) : Int) = a + 1 + (i : Nat)
  omega
theorem rngI_snoc (a : Int) (n : Nat) : rngI a (n + 1) = rngI a n ++ [a + (n : Nat)] := by
  unfold rngI
  rw [List.range_succ, List.map_append]; rfl
theorem sum_ind (f : Int → Int) : ∀ (n : Nat) (a : Int) (l : List Int), Asc l → (∀ x ∈ l, a ≤ x ∧ x < a + (n : Nat)) → ((rngI a n).map fun x => if l.contains x then f x else 0).sum = (l.map f).sum
  | 0, a, l, _, h => by
    cases l with
    | nil => rfl
    | cons x l => have := h x List.mem_cons_self; omega
  | n + 1, a, l, hl, h => by
    rw [rngI_succ, List.map_cons, List.sum_cons]
    cases l with
    | nil =>
      have := sum_ind f n (a + 1) [] List.Pairwise.nil (fun x hx => (nomatch hx))
      rw [this]; rfl
    | cons x l =>
      obtain ⟨h1, h2⟩ := List.pairwise_cons.mp hl
      have hx := h x List.mem_cons_self
      by_cases e : x = a
      · subst e
        have ih := sum_ind f n (x + 1) l h2 (fun y hy => by
          have := h1 y hy
          have := h y (List.mem_cons_of_mem _ hy)
          omega)
        rw [List.map_cons, List.sum_cons, ← ih]
        have c0 : (x :: l).contains x = true := by simp
        rw [if_pos c0]
        congr 1
        refine sum_congr fun y hy => ?_
        have hy := mem_rngI.mp hy
        have : (x :: l).contains y = l.contains y := by
          rw [List.contains_cons]
          have : (y == x) = false := by rw [beq_eq_false_iff_ne]; omega
          rw [this, Bool.false_or]
        rw [this]
      · have hn : (x :: l).contains a = false := by
          have : a ∉ x :: l := fun hm => by
            rcases List.mem_cons.mp hm with rfl | hm
            · exact e rfl
            · have := h1 a hm; omega
          simpa using this
        rw [hn, if_neg (by decide)]
        have ih := sum_ind f n (a + 1) (x :: l) hl (fun y hy => by
          have := h y hy
          rcases List.mem_cons.mp hy with rfl | hy
          · omega
          · have := h1 y hy; omega)
        rw [ih]; omega
/-! ### offs -/
def acc (r w : List Int) (m : Int) (n : Nat) : Int := ((List.range n).map fun x => if r.getD x 0 = m then w.getD x 0 else 0).sum
def rowOff (v t : Int) (f : Int → Int) : Int := ((rngI 0 v.toNat).map fun m => absI (v * f m - t)).sum
def offW (v : Int) (rows : List (List Int)) (w : List Int) : Int := (rows.map fun r => rowOff v w.sum fun m => acc r w m w.length).sum
def cntM (r l : List Int) (m : Int) : Int := ((l.filter fun x => decide (r.getD x.toNat 0 = m)).length : Nat)
def offL (v : Int) (rows : List (List Int)) (l : List Int) : Int := (rows.map fun r => rowOff v (l.length : Nat) (cntM r l)).sum
def indW (k : Int) (l : List Int) : List Int := (rngI 0 k.toNat).map fun x => if l.contains x then 1 else 0
theorem acc_succ (r w : List Int) (m : Int) (n : Nat) : acc r w m (n + 1) = acc r w m n + if r.getD n 0 = m then w.getD n 0 else 0 := by
  unfold acc
  rw [List.range_succ, List.map_append, List.sum_append]
  simp
theorem acc_bnd {r w : List Int} {m M : Int} (hw : ∀ x ∈ w, 0 ≤ x ∧ x ≤ M) (hM : 0 ≤ M) : ∀ n : Nat, 0 ≤ acc r w m n ∧ acc r w m n ≤ M * (n : Nat)
  | 0 => by simp [acc]
  | n + 1 => by
    have := acc_bnd (r := r) (m := m) hw hM n
    rw [acc_succ, Int.natCast_succ, Int.mul_add]
    have h : 0 ≤ w.getD n 0 ∧ w.getD n 0 ≤ M := by
      rw [List.getD_eq_getElem?_getD]
      cases e : w[n]? with
      | none => exact ⟨Int.le_refl _, hM⟩
      | some x => exact hw x (List.mem_of_getElem? e)
    split <;> omega
theorem rowOff_nn (v t : Int) (f : Int → Int) : 0 ≤ rowOff v t f := sum_nn fun x _ => absI_nn _
theorem offL_nn (v : Int) (rows : List (List Int)) (l : List Int) : 0 ≤ offL v rows l := sum_nn fun x _ => rowOff_nn _ _ _
theorem ind_sum {k : Int} {l : List Int} (hl : Asc l) (hk : LotOk k l) : (indW k l).sum = (l.length : Nat) := by
  unfold indW
  rw [sum_ind (fun _ => 1) k.toNat 0 l hl (fun x hx => by have := hk x hx; omega), sum_const]; omega
theorem cntM_sum (r l : List Int) (m : Int) : (l.map fun x => if r.getD x.toNat 0 = m then (1 : Int) else 0).sum = cntM r l m := by
  unfold cntM
  induction l with
  | nil => rfl
  | cons x l ih =>
    rw [List.map_cons, List.sum_cons, ih]
    by_cases h : r.getD x.toNat 0 = m
    · rw [if_pos h, List.filter_cons_of_pos (by simpa using h), List.length_cons]; omega
    · rw [if_neg h, List.filter_cons_of_neg (by simpa using h)]; omega
theorem ind_acc {k : Int} {l : List Int} (hl : Asc l) (hk : LotOk k l) (r : List Int) (m : Int) : acc r (indW k l) m (indW k l).length = cntM r l m := by
  have hlen : (indW k l).length = k.toNat := by unfold indW; rw [List.length_map, rngI_len]
  rw [hlen, ← cntM_sum, ← sum_ind (fun x => if r.getD x.toNat 0 = m then (1 : Int) else 0) k.toNat 0 l hl (fun x hx => by have := hk x hx; omega)]
  unfold acc rngI
  rw [List.map_map]
  refine sum_congr fun x hx => ?_
  have hx := List.mem_range.mp hx
  have e1 : ((fun x : Int => if l.contains x = true then if r.getD x.toNat 0 = m then (1 : Int) else 0 else 0) ∘ fun i : Nat => (0 : Int) + (i : Nat)) x = if l.contains (0 + (x : Nat) : Int) = true then if r.getD x 0 = m then (1 : Int) else 0 else 0 := by
    show (if l.contains (0 + (x : Nat) : Int) = true then if r.getD ((0 : Int) + (x : Nat)).toNat 0 = m then (1 : Int) else 0 else 0) = _
    have : ((0 : Int) + (x : Nat)).toNat = x := by omega
    rw [this]
  rw [e1]
  have e2 : (indW k l).getD x 0 = if l.contains (0 + (x : Nat) : Int) then 1 else 0 := by
    unfold indW rngI
    rw [List.map_map, List.getD_eq_getElem?_getD, List.getElem?_map, List.getElem?_range hx]; rfl
  rw [e2]
  by_cases a : l.contains (0 + (x : Nat) : Int) = true <;> by_cases b : r.getD x 0 = m <;> simp only [a, b, if_true, if_false, reduceIte, Bool.false_eq_true]
theorem off_ind {v k : Int} {rows : List (List Int)} {l : List Int} (hl : Asc l) (hk : LotOk k l) : offW v rows (indW k l) = offL v rows l := by
  unfold offW offL
  refine sum_congr fun r _ => ?_
  unfold rowOff
  refine sum_congr fun m _ => ?_
  show absI (v * acc r (indW k l) m (indW k l).length - (indW k l).sum) = _
  rw [ind_acc hl hk, ind_sum hl hk]
theorem perm_sum {a b : List Int} (h : a.Perm b) : a.sum = b.sum := by
  induction h with
  | nil => rfl
  | cons x _ ih => rw [List.sum_cons, List.sum_cons, ih]
  | swap x y l => simp only [List.sum_cons]; omega
  | trans _ _ i1 i2 => exact i1.trans i2
/-! ### smaller lots are worse -/
theorem cnt_erase {r : List Int} {m : Int} : ∀ {l : List Int}, l.Nodup → (l.map fun x => cntM r (l.erase x) m).sum = ((l.length : Nat) - 1) * cntM r l m := by
  intro l nd
  have h : ∀ x ∈ l, cntM r (l.erase x) m = cntM r l m - if r.getD x.toNat 0 = m then 1 else 0 := by
    intro x hx
    rw [← cntM_sum, ← cntM_sum]
    have hp := List.perm_cons_erase hx
    have := perm_sum (hp.map fun x : Int => if r.getD x.toNat 0 = m then (1 : Int) else 0)
    rw [this, List.map_cons, List.sum_cons]; omega
  rw [sum_congr h]
  have e : (l.map fun x => cntM r l m - if r.getD x.toNat 0 = m then (1 : Int) else 0).sum = (l.map fun _ => cntM r l m).sum - (l.map fun x => if r.getD x.toNat 0 = m then (1 : Int) else 0).sum := by
    have := sum_add (fun x => cntM r l m - if r.getD x.toNat 0 = m then (1 : Int) else 0) (fun x => if r.getD x.toNat 0 = m then (1 : Int) else 0) l
    have e2 : (l.map fun x => (cntM r l m - if r.getD x.toNat 0 = m then (1 : Int) else 0) + if r.getD x.toNat 0 = m then (1 : Int) else 0).sum = (l.map fun _ => cntM r l m).sum := sum_congr fun x _ => by omega
    omega
  rw [e, sum_const, cntM_sum, Int.sub_mul, Int.mul_comm]; omega
theorem erase_len {l : List Int} {x : Int} (h : x ∈ l) : (((l.erase x).length : Nat) : Int) = (l.length : Nat) - 1 := by
  have := List.length_erase_of_mem h
  have := List.length_pos_of_mem h
  omega
theorem off_erase {v : Int} {rows : List (List Int)} {l : List Int} (nd : l.Nodup) (h1 : 1 ≤ l.length) : ((l.length : Nat) - 1) * offL v rows l ≤ (l.map fun x => offL v rows (l.erase x)).sum := by
  unfold offL
  rw [sum_swap (fun x r => rowOff v ((l.erase x).length : Nat) (cntM r (l.erase x))), ← sum_mul]
  refine sum_le fun r _ => ?_
  unfold rowOff
  rw [sum_swap (fun x m => absI (v * cntM r (l.erase x) m - ((l.erase x).length : Nat))), ← sum_mul]
  refine sum_le fun m _ => ?_
  rw [← absI_mul (by omega)]
  have e : ((l.length : Nat) - 1) * (v * cntM r l m - (l.length : Nat)) = (l.map fun x => v * cntM r (l.erase x) m - ((l.erase x).length : Nat)).sum := by
    have e1 : (l.map fun x => v * cntM r (l.erase x) m - ((l.erase x).length : Nat)).sum = (l.map fun x => v * cntM r (l.erase x) m + -((l.length : Nat) - 1 : Int)).sum := sum_congr fun x hx => by rw [erase_len hx]; omega
    rw [e1, sum_add, sum_mul, cnt_erase nd, sum_const]
    generalize cntM r l m = c
    generalize ((l.length : Nat) : Int) = n
    rw [Int.mul_sub, ← Int.mul_assoc, ← Int.mul_assoc, Int.mul_comm (n - 1) v, Int.neg_mul]; omega
  rw [e]
  exact sum_abs _ _
def wO (v k : Int) (rows : List (List Int)) (L : List (List Int)) : Int := L.foldl (fun m l => max m (offL v rows l)) 0
theorem foldmaxI {α : Type} (f : α → Int) : ∀ (L : List α) (m : Int), m ≤ L.foldl (fun m l => max m (f l)) m ∧ (∀ l ∈ L, f l ≤ L.foldl (fun m l => max m (f l)) m) ∧ (L.foldl (fun m l => max m (f l)) m = m ∨ ∃ l ∈ L, f l = L.foldl (fun m l => max m (f l)) m)
  | [], m => ⟨Int.le_refl _, fun l hl => (nomatch hl), .inl rfl⟩
  | x :: L, m => by
    obtain ⟨h1, h2, h3⟩ := foldmaxI f L (max m (f x))
    rw [List.foldl_cons]
    refine ⟨by omega, fun l hl => ?_, ?_⟩
    · rcases List.mem_cons.mp hl with rfl | hl
      · omega
      · exact h2 l hl
    · rcases h3 with h3 | ⟨l, hl, e⟩
      · by_cases h : f x ≤ m
        · exact .inl (by omega)
        · exact .inr ⟨x, List.mem_cons_self, by omega⟩
      · exact .inr ⟨l, List.mem_cons_of_mem _ hl, e⟩
def wS (v k : Int) (rows : List (List Int)) (s : Nat) : Int := wO v k rows (lotsL k s)
theorem wS_nn (v k : Int) (rows : List (List Int)) (s : Nat) : 0 ≤ wS v k rows s := (foldmaxI (offL v rows) (lotsL k s) 0).1
theorem wS_ge {v k : Int} {rows : List (List Int)} {s : Nat} {l : List Int} (h : l ∈ lotsL k s) : offL v rows l ≤ wS v k rows s := (foldmaxI (offL v rows) (lotsL k s) 0).2.1 l h
theorem wS_at {v k : Int} {rows : List (List Int)} {s : Nat} (h : lotsL k s ≠ []) : ∃ l ∈ lotsL k s, offL v rows l = wS v k rows s := by
  rcases (foldmaxI (offL v rows) (lotsL k s) 0).2.2 with e | h'
  · obtain ⟨l, L, e2⟩ := List.exists_cons_of_ne_nil h
    have hm : l ∈ lotsL k s := by rw [e2]; exact List.mem_cons_self
    refine ⟨l, hm, ?_⟩
    have a := wS_ge (v := v) (rows := rows) hm
    have b := offL_nn v rows l
    have c : wS v k rows s = 0 := e
    omega
  · exact h'
/-- the worst off of larger lots is no greater -/
theorem wS_fall {v k : Int} {rows : List (List Int)} {s : Nat} (h1 : 1 ≤ s) (h2 : ((s + 1 : Nat) : Int) ≤ k) : wS v k rows (s + 1) * (s : Nat) ≤ wS v k rows s * ((s + 1 : Nat) : Int) := by
  have hne : lotsL k (s + 1) ≠ [] := fun z => by
    have := first_lot h2
    rw [z] at this; cases this
  obtain ⟨l, hl, e⟩ := wS_at (v := v) (rows := rows) hne
  obtain ⟨m1, m2, m3⟩ := lots_mem.mp hl
  have nd := m3.nodup
  have h := off_erase (v := v) (rows := rows) nd (by omega)
  have hle : (l.map fun x => offL v rows (l.erase x)).sum ≤ (l.map fun _ => wS v k rows s).sum := sum_le fun x hx => by
    refine wS_ge (lots_mem.mpr ⟨?_, fun y hy => m2 y (List.mem_of_mem_erase hy), List.Pairwise.sublist List.erase_sublist m3⟩)
    rw [List.length_erase_of_mem hx, m1]; rfl
  rw [sum_const, m1] at hle
  rw [m1, e] at h
  have e3 : (((s + 1 : Nat) : Int) - 1) = (s : Nat) := by omega
  rw [e3, Int.mul_comm] at h
  exact Int.le_trans h hle
end Pv
end
section
set_option Elab.async false
set_option linter.all false
set_option maxRecDepth 100000
/-! Pw.M: more on fractions. -/
namespace Pv
open PySem L2
theorem low_coprime {n m : Int} (h : 0 < m) : gI (n / gI n m) (m / gI n m) = 1 := by
  have g0 : 0 < Nat.gcd n.natAbs m.natAbs := Nat.gcd_pos_of_pos_right _ (by omega)
  have eg : (gI n m).natAbs = Nat.gcd n.natAbs m.natAbs := Int.natAbs_natCast _
  have e1 : (n / gI n m).natAbs = n.natAbs / Nat.gcd n.natAbs m.natAbs := by
    have := congrArg Int.natAbs (low_mul_left n m)
    rw [Int.natAbs_mul, eg] at this
    rw [Nat.eq_div_of_mul_eq_left (by omega) this]
  have e2 : (m / gI n m).natAbs = m.natAbs / Nat.gcd n.natAbs m.natAbs := by
    have := congrArg Int.natAbs (low_mul_right n m)
    rw [Int.natAbs_mul, eg] at this
    rw [Nat.eq_div_of_mul_eq_left (by omega) this]
  have := Nat.gcd_div_gcd_div_gcd_of_pos_right (n := n.natAbs) (m := m.natAbs) (by omega)
  show ((Nat.gcd (n / gI n m).natAbs (m / gI n m).natAbs : Nat) : Int) = 1
  rw [e1, e2, this]; rfl
/-- a right fraction from nought -/
def Frac (r : List Int) : Prop := ∃ a b, r = [a, b] ∧ 0 ≤ a ∧ 0 < b ∧ gI a b = 1 ∧ a < 2 ^ 200 ∧ b < 2 ^ 200
theorem low_frac {n m : Int} (hm : 0 < m) (h0 : 0 ≤ n) (h1 : n < 2 ^ 200) (h2 : m < 2 ^ 200) : Frac [n / gI n m, m / gI n m] := by
  have g1 := gI_pos (n := n) hm
  have a := Int.ediv_nonneg h0 (Int.le_of_lt g1)
  have b := Int.ediv_le_self (b := gI n m) h0
  have a' := Int.ediv_nonneg (Int.le_of_lt hm) (Int.le_of_lt g1)
  have b' := Int.ediv_le_self (a := m) (b := gI n m) (by omega)
  have e := low_mul_right n m
  have : m / gI n m ≠ 0 := fun z => by rw [z] at e; omega
  exact ⟨_, _, rfl, a, by omega, low_coprime hm, by omega, by omega⟩
theorem low_of_frac {a b : Int} (hg : gI a b = 1) : lowD a b = rowD [a, b] := by
  unfold lowD
  rw [hg, Int.ediv_one, Int.ediv_one]
/-- the same fraction -/
theorem low_eq {a b n m : Int} (hb : 0 < b) (hm : 0 < m) (h : a * m = n * b) : lowD a b = lowD n m := by
  have g1 := gI_pos (n := a) hb
  have g2 := gI_pos (n := n) hm
  have e1 := low_mul_left a b
  have e2 := low_mul_right a b
  have e3 := low_mul_left n m
  have e4 := low_mul_right n m
  have c1 := low_coprime (n := a) hb
  have c2 := low_coprime (n := n) hm
  unfold lowD
  generalize gI a b = g at *
  generalize gI n m = q at *
  generalize a / g = x at *
  generalize b / g = y at *
  generalize n / q = z at *
  generalize m / q = t at *
  have hy : 0 < y := by
    rcases Int.lt_trichotomy y 0 with h' | h' | h'
    · have := Int.mul_neg_of_neg_of_pos h' g1; omega
    · rw [h'] at e2; omega
    · exact h'
  have ht : 0 < t := by
    rcases Int.lt_trichotomy t 0 with h' | h' | h'
    · have := Int.mul_neg_of_neg_of_pos h' g2; omega
    · rw [h'] at e4; omega
    · exact h'
  have hx : x * t = z * y := by
    have : (x * t) * (g * q) = (z * y) * (g * q) := by
      have l : (x * t) * (g * q) = a * m := by rw [← e1, ← e4]; ac_rfl
      have r : (z * y) * (g * q) = n * b := by rw [← e3, ← e2]; ac_rfl
      rw [l, r, h]
    exact Int.eq_of_mul_eq_mul_right (by have := Int.mul_pos g1 g2; omega) this
  have hN : x.natAbs * t.natAbs = z.natAbs * y.natAbs := by
    rw [← Int.natAbs_mul, ← Int.natAbs_mul, hx]
  have n1 : Nat.gcd x.natAbs y.natAbs = 1 := by
    have : ((Nat.gcd x.natAbs y.natAbs : Nat) : Int) = 1 := c1
    omega
  have n2 : Nat.gcd z.natAbs t.natAbs = 1 := by
    have : ((Nat.gcd z.natAbs t.natAbs : Nat) : Int) = 1 := c2
    omega
  have d1 : y.natAbs ∣ t.natAbs := by
    have : y.natAbs ∣ x.natAbs * t.natAbs := ⟨z.natAbs, by rw [hN, Nat.mul_comm]⟩
    exact Nat.Coprime.dvd_of_dvd_mul_left (show Nat.Coprime y.natAbs x.natAbs from (Nat.gcd_comm _ _).trans n1) this
  have d2 : t.natAbs ∣ y.natAbs := by
    have : t.natAbs ∣ z.natAbs * y.natAbs := ⟨x.natAbs, by rw [← hN, Nat.mul_comm]⟩
    exact Nat.Coprime.dvd_of_dvd_mul_left (show Nat.Coprime t.natAbs z.natAbs from (Nat.gcd_comm _ _).trans n2) this
  have hyt : y = t := by
    have := Nat.dvd_antisymm d1 d2
    omega
  subst hyt
  have : x = z := Int.eq_of_mul_eq_mul_right (by omega) hx
  rw [this]
theorem low_le {a D n m : Int} (hD : 0 < D) : (a / gI a D) * m ≤ n * (D / gI a D) ↔ a * m ≤ n * D := by
  have g1 := gI_pos (n := a) hD
  have e1 := low_mul_left a D
  have e2 := low_mul_right a D
  generalize gI a D = g at *
  generalize a / g = x at *
  generalize D / g = y at *
  have l : x * m * g = a * m := by rw [← e1]; ac_rfl
  have r : n * y * g = n * D := by rw [← e2]; ac_rfl
  rw [← l, ← r]
  constructor
  · intro h; exact Int.mul_le_mul_of_nonneg_right h (by omega)
  · intro h; exact Int.le_of_mul_le_mul_right h g1
/-! ### worst offs by their size -/
def frS (v k : Int) (rows : List (List Int)) (s : Int) : Dt := lowD (wS v k rows s.toNat) (2 * v * s * rows.length)
def frP (v k : Int) (rows : List (List Int)) (s : Int) : List Int := [wS v k rows s.toNat / gI (wS v k rows s.toNat) (2 * v * s * rows.length), (2 * v * s * rows.length) / gI (wS v k rows s.toNat) (2 * v * s * rows.length)]
def sizesD (v k : Int) (rows : List (List Int)) : Dt := .list ((rngI 1 k.toNat).map (frS v k rows))
theorem sizes_lots (v k : Int) (rows : List (List Int)) : sizesD v k rows = lotsD ((rngI 1 k.toNat).map (frP v k rows)) := by
  unfold sizesD lotsD
  rw [List.map_map]; rfl
def leastO (v k : Int) (rows : List (List Int)) (n m : Int) : Option Int := (rngI 1 k.toNat).find? fun s => decide (wS v k rows s.toNat * m ≤ n * (2 * v * s * rows.length))
def leastD : Option Int → Dt
  | some s => .int s
  | none => .none
theorem off_one {v k : Int} {rows : List (List Int)} {x : Int} (B : Board v k rows) (v1 : 2 ≤ v) (hx : 0 ≤ x ∧ x < k) : offL v rows [x] = 2 * (v - 1) * rows.length := by
  unfold offL
  have : ∀ r ∈ rows, rowOff v (([x] : List Int).length : Nat) (cntM r [x]) = 2 * (v - 1) := fun r hr => by
    have hlt : x.toNat < r.length := by have := B.len r hr; omega
    have hm := B.mks r hr (r.getD x.toNat 0) (by rw [List.getD_eq_getElem?_getD, List.getElem?_eq_getElem hlt]; exact List.getElem_mem hlt)
    unfold rowOff
    have e : ((rngI 0 v.toNat).map fun m => absI (v * cntM r [x] m - (([x] : List Int).length : Nat))).sum = ((rngI 0 v.toNat).map fun m => 1 + (v - 2) * (if ([r.getD x.toNat 0] : List Int).contains m then 1 else 0)).sum := sum_congr fun m _ => by
      have c : cntM r [x] m = if ([r.getD x.toNat 0] : List Int).contains m then 1 else 0 := by
        rw [← cntM_sum]
        simp only [List.map_cons, List.map_nil, List.sum_cons, List.sum_nil, Int.add_zero]
        by_cases h : r.getD x.toNat 0 = m
        · rw [if_pos h, if_pos (by simp [← h])]
        · rw [if_neg h, if_neg (by simp only [List.contains_cons, List.contains_nil, Bool.or_false, beq_iff_eq]; exact fun z => h z.symm)]
      rw [c]
      split
      · simp only [List.length_cons, List.length_nil, absI]; split <;> omega
      · simp only [List.length_cons, List.length_nil, absI]; split <;> omega
    rw [e, sum_add, sum_const, sum_mul, sum_ind (fun _ => 1) v.toNat 0 [r.getD x.toNat 0] (List.pairwise_singleton _ _) (fun y hy => by simp at hy; subst hy; simp at hm ⊢; omega), rngI_len]
    simp only [List.map_cons, List.map_nil, List.sum_cons, List.sum_nil]
    omega
  rw [sum_congr this, sum_const]
theorem frS_one {v k : Int} {rows : List (List Int)} (B : Board v k rows) (v1 : 2 ≤ v) (v2 : v ≤ 5) (k1 : 1 ≤ k) : frS v k rows 1 = rowD [v - 1, v] := by
  have hp : 0 < rows.length := List.length_pos_iff.mpr B.ne
  have hne : lotsL k 1 ≠ [] := fun z => by
    have := first_lot (k := k) (s := 1) (by omega)
    rw [z] at this; cases this
  obtain ⟨l, hl, e⟩ := wS_at (v := v) (rows := rows) hne
  obtain ⟨m1, m2, m3⟩ := lots_mem.mp hl
  have hw : wS v k rows 1 = 2 * (v - 1) * rows.length := by
    match l, m1 with
    | [x], _ =>
      rw [← e]
      exact off_one B v1 (m2 x (by simp))
  unfold frS
  rw [show (1 : Int).toNat = 1 from rfl, hw, ← low_of_frac (a := v - 1) (b := v) (by
    have : v = 2 ∨ v = 3 ∨ v = 4 ∨ v = 5 := by omega
    rcases this with rfl | rfl | rfl | rfl <;> decide)]
  refine low_eq ?_ (by omega) ?_
  · exact Int.mul_pos (by omega) (by omega)
  · rw [Int.mul_one]; ac_rfl
end Pv
end
section
set_option Elab.async false
set_option linter.all false
set_option maxRecDepth 100000
/-! Pw.N: reckoning with fractions of one denominator; sources. -/
namespace Pv
open PySem L2
theorem low_le_abs {n m : Int} (hm : 0 < m) : (n / gI n m).natAbs ≤ n.natAbs ∧ 0 < m / gI n m ∧ m / gI n m ≤ m := by
  have g1 := gI_pos (n := n) hm
  have e1 := low_mul_left n m
  have e2 := low_mul_right n m
  refine ⟨?_, ?_, Int.ediv_le_self _ (by omega)⟩
  · have := congrArg Int.natAbs e1
    rw [Int.natAbs_mul] at this
    have h : 1 ≤ (gI n m).natAbs := by omega
    calc (n / gI n m).natAbs = (n / gI n m).natAbs * 1 := (Nat.mul_one _).symm
      _ ≤ (n / gI n m).natAbs * (gI n m).natAbs := Nat.mul_le_mul_left _ h
      _ = n.natAbs := this
  · have := Int.ediv_nonneg (Int.le_of_lt hm) (Int.le_of_lt g1)
    have h : m / gI n m ≠ 0 := fun z => by rw [z] at e2; omega
    omega
theorem low_plus {a b D E : Int} (hD : 0 < D) (hE : 0 < E) : lowD ((a / gI a D) * (E / gI b E) + (b / gI b E) * (D / gI a D)) ((D / gI a D) * (E / gI b E)) = lowD (a * E + b * D) (D * E) := by
  have p1 := (low_le_abs (n := a) hD).2.1
  have p2 := (low_le_abs (n := b) hE).2.1
  refine low_eq (Int.mul_pos p1 p2) (Int.mul_pos hD hE) ?_
  have e1 := low_mul_left a D
  have e2 := low_mul_right a D
  have e3 := low_mul_left b E
  have e4 := low_mul_right b E
  generalize gI a D = g at *
  generalize gI b E = q at *
  generalize a / g = x at *
  generalize D / g = y at *
  generalize b / q = z at *
  generalize E / q = t at *
  rw [← e1, ← e2, ← e3, ← e4, Int.add_mul, Int.add_mul]
  congr 1 <;> ac_rfl
theorem low_minus {a b D E : Int} (hD : 0 < D) (hE : 0 < E) : lowD ((a / gI a D) * (E / gI b E) - (b / gI b E) * (D / gI a D)) ((D / gI a D) * (E / gI b E)) = lowD (a * E - b * D) (D * E) := by
  have p1 := (low_le_abs (n := a) hD).2.1
  have p2 := (low_le_abs (n := b) hE).2.1
  refine low_eq (Int.mul_pos p1 p2) (Int.mul_pos hD hE) ?_
  have e1 := low_mul_left a D
  have e2 := low_mul_right a D
  have e3 := low_mul_left b E
  have e4 := low_mul_right b E
  generalize gI a D = g at *
  generalize gI b E = q at *
  generalize a / g = x at *
  generalize D / g = y at *
  generalize b / q = z at *
  generalize E / q = t at *
  rw [← e1, ← e2, ← e3, ← e4, Int.sub_mul, Int.sub_mul]
  congr 1 <;> ac_rfl
theorem low_times {a b D E : Int} (hD : 0 < D) (hE : 0 < E) : lowD ((a / gI a D) * (b / gI b E)) ((D / gI a D) * (E / gI b E)) = lowD (a * b) (D * E) := by
  have p1 := (low_le_abs (n := a) hD).2.1
  have p2 := (low_le_abs (n := b) hE).2.1
  refine low_eq (Int.mul_pos p1 p2) (Int.mul_pos hD hE) ?_
  have e1 := low_mul_left a D
  have e2 := low_mul_right a D
  have e3 := low_mul_left b E
  have e4 := low_mul_right b E
  generalize gI a D = g at *
  generalize gI b E = q at *
  generalize a / g = x at *
  generalize D / g = y at *
  generalize b / q = z at *
  generalize E / q = t at *
  rw [← e1, ← e2, ← e3, ← e4]
  ac_rfl
theorem low_over {a b D E : Int} (hD : 0 < D) (hE : 0 < E) (hb : 0 < b) : 0 < b / gI b E ∧ lowD ((a / gI a D) * (E / gI b E)) ((D / gI a D) * (b / gI b E)) = lowD (a * E) (D * b) := by
  have p1 := (low_le_abs (n := a) hD).2.1
  have g2 := gI_pos (n := b) hE
  have e3 := low_mul_left b E
  have p3 : 0 < b / gI b E := by
    have := Int.ediv_nonneg (Int.le_of_lt hb) (Int.le_of_lt g2)
    have h : b / gI b E ≠ 0 := fun z => by rw [z] at e3; omega
    omega
  refine ⟨p3, low_eq (Int.mul_pos p1 p3) (Int.mul_pos hD hb) ?_⟩
  have e1 := low_mul_left a D
  have e2 := low_mul_right a D
  have e4 := low_mul_right b E
  generalize gI a D = g at *
  generalize gI b E = q at *
  generalize a / g = x at *
  generalize D / g = y at *
  generalize b / q = z at *
  generalize E / q = t at *
  rw [← e1, ← e2, ← e3, ← e4]
  ac_rfl
theorem low_scale {a D g : Int} (hD : 0 < D) (hg : 0 < g) : lowD (a * g) (D * g) = lowD a D := low_eq (Int.mul_pos hD hg) hD (by ac_rfl)
theorem low_same {a b D : Int} (hD : 0 < D) : lowD (a * D + b * D) (D * D) = lowD (a + b) D := by
  rw [← Int.add_mul]; exact low_scale hD hD
theorem low_self {D : Int} (hD : 0 < D) : lowD D D = rowD [1, 1] := by
  have := low_eq (a := D) (b := D) (n := 1) (m := 1) hD (by decide) (by omega)
  rw [this]; rfl
theorem gI_neg (a D : Int) : gI (absI a) D = gI a D := by
  unfold gI absI
  congr 2
  split <;> omega
theorem absI_div {a D : Int} (hD : 0 < D) : absI (a / gI a D) = absI a / gI (absI a) D := by
  rw [gI_neg]
  have g1 := gI_pos (n := a) hD
  have e1 := low_mul_left a D
  generalize gI a D = g at *
  generalize a / g = x at *
  rw [← e1]
  have : absI (x * g) = absI x * g := by rw [Int.mul_comm, absI_mul (by omega), Int.mul_comm]
  rw [this, Int.mul_ediv_cancel _ (by omega)]
theorem low_one (n : Int) : lowD n 1 = rowD [n, 1] := by
  have e : gI n 1 = 1 := by
    unfold gI
    rw [show (1 : Int).natAbs = 1 from rfl, Nat.gcd_one_right]; rfl
  exact low_of_frac e
/-- a source -/
structure Src (k : Int) (w : List Int) : Prop where
  len : w.length = k.toNat
  nn : ∀ x ∈ w, 0 ≤ x
  pos : 0 < w.sum
  few : w.sum < 2 ^ 90
def srcD (w : List Int) : Dt := .tuple (w.map fun x => lowD x w.sum)
theorem sum_ge : ∀ {w : List Int}, (∀ x ∈ w, 0 ≤ x) → ∀ x ∈ w, x ≤ w.sum
  | y :: w, h, x, hx => by
    have h0 := h y List.mem_cons_self
    have h1 : 0 ≤ w.sum := by
      have := sum_nn (f := fun x : Int => x) (l := w) fun z hz => h z (List.mem_cons_of_mem _ hz)
      rwa [List.map_id'] at this
    rw [List.sum_cons]
    rcases List.mem_cons.mp hx with rfl | hx
    · omega
    · have := sum_ge (w := w) (fun z hz => h z (List.mem_cons_of_mem _ hz)) x hx
      omega
theorem sum_pre : ∀ {w : List Int}, (∀ x ∈ w, 0 ≤ x) → ∀ i, 0 ≤ (w.take i).sum ∧ (w.take i).sum ≤ w.sum
  | [], _, i => by simp
  | y :: w, h, 0 => by
    have := sum_nn (f := fun x : Int => x) (l := y :: w) h
    rw [List.map_id'] at this
    simpa using this
  | y :: w, h, i + 1 => by
    have := sum_pre (w := w) (fun z hz => h z (List.mem_cons_of_mem _ hz)) i
    have h0 := h y List.mem_cons_self
    rw [List.take_succ_cons, List.sum_cons, List.sum_cons]
    omega
theorem Src.le {k : Int} {w : List Int} (S : Src k w) : ∀ x ∈ w, x ≤ w.sum := sum_ge S.nn
theorem acc_le {r w : List Int} (hw : ∀ x ∈ w, 0 ≤ x) (m : Int) (n : Nat) : 0 ≤ acc r w m n ∧ acc r w m n ≤ (w.take n).sum := by
  induction n with
  | zero => simp [acc]
  | succ n ih =>
    rw [acc_succ]
    by_cases hn : n < w.length
    · have e : w.getD n 0 = w[n] := by rw [List.getD_eq_getElem?_getD, List.getElem?_eq_getElem hn]; rfl
      have h0 := hw w[n] (List.getElem_mem hn)
      rw [take_snoc (List.getElem?_eq_getElem hn), List.sum_append, e]
      simp only [List.sum_cons, List.sum_nil]
      split <;> omega
    · have e : w.getD n 0 = 0 := by rw [List.getD_eq_getElem?_getD, List.getElem?_eq_none (by omega)]; rfl
      rw [e, List.take_of_length_le (by omega)]
      rw [List.take_of_length_le (by omega)] at ih
      split <;> omega
theorem set_heldD {α : Type} {v : Int} (f g : Int → α) (i : Int) (h0 : 0 ≤ i) (h1 : i < v) (hg : ∀ m, m ≠ i → g m = f m) : ((rngI 0 v.toNat).map f).set i.toNat (g i) = (rngI 0 v.toNat).map g := by
  apply List.ext_getElem?
  intro n
  rw [List.getElem?_set]
  simp only [rngI, List.map_map, List.getElem?_map, List.length_map, List.length_range]
  by_cases h : i.toNat = n
  · subst h
    rw [if_pos rfl, if_pos (by omega), List.getElem?_range (by omega)]
    show some (g i) = some (g (0 + (i.toNat : Nat)))
    congr 2; omega
  · rw [if_neg h]
    by_cases hn : n < v.toNat
    · rw [List.getElem?_range hn]
      show some (f (0 + (n : Nat))) = some (g (0 + (n : Nat)))
      rw [hg _ (by omega)]
    · rw [List.getElem?_eq_none (by rw [List.length_range]; omega)]; rfl
theorem held_atD {kt : Bool} {v : Int} (f : Int → Dt) (i : Int) (h0 : 0 ≤ i) (h1 : i < v) : ixD kt (.list ((rngI 0 v.toNat).map f)) (.int i) = some (f i) := by
  refine at_int h0 ?_
  simp only [rngI, List.map_map, List.getElem?_map]
  rw [List.getElem?_range (by omega)]
  show some (f (0 + (i.toNat : Nat))) = _
  congr 2; omega
theorem sum_flat {α : Type} (f : α → List Int) : ∀ l : List α, (l.flatMap f).sum = (l.map fun x => (f x).sum).sum
  | [] => rfl
  | x :: l => by rw [List.flatMap_cons, List.sum_append, List.map_cons, List.sum_cons, sum_flat f l]
theorem c_eqF (kt : Bool) (a b : List Int) : cmpD kt .Eq (rowD a) (rowD b) = some (decide (a = b)) := c_eqr kt a b
end Pv
end
section
set_option Elab.async false
set_option linter.all false
set_option maxRecDepth 100000
/-! Pw.O: sources with small chances are mixtures of flat ones. -/
namespace Pv
open PySem L2
theorem maxL_ok : ∀ {l : List Int}, l ≠ [] → maxL l ∈ l ∧ ∀ x ∈ l, x ≤ maxL l
  | [x], _ => by simp [maxL]
  | x :: y :: r, _ => by
    obtain ⟨h1, h2⟩ := maxL_ok (l := y :: r) (by simp)
    have e : maxL (x :: y :: r) = if maxL (y :: r) > x then maxL (y :: r) else x := rfl
    rw [e]
    split
    · refine ⟨List.mem_cons_of_mem _ h1, fun z hz => ?_⟩
      rcases List.mem_cons.mp hz with rfl | hz
      · omega
      · exact h2 z hz
    · refine ⟨List.mem_cons_self, fun z hz => ?_⟩
      rcases List.mem_cons.mp hz with rfl | hz
      · omega
      · have := h2 z hz; omega
/-- w is no worse than flat sources of s keys -/
def Mix (s : Nat) (w : List Int) : Prop := ∀ (v k : Int) (rows : List (List Int)), w.length = k.toNat → 0 ≤ k → offW v rows w * (s : Nat) ≤ wS v k rows s * w.sum
theorem acc_comb {r w w' u : List Int} {a : Int} {n : Nat} (h : ∀ i, i < n → w'.getD i 0 = w.getD i 0 + a * u.getD i 0) (m : Int) : acc r w' m n = acc r w m n + a * acc r u m n := by
  induction n with
  | zero => simp [acc]
  | succ n ih =>
    rw [acc_succ, acc_succ, acc_succ, ih fun i hi => h i (by omega), Int.mul_add]
    rw [h n (by omega)]
    split
    · omega
    · rw [Int.mul_zero]; omega
theorem sum_getD : ∀ w : List Int, w.sum = ((List.range w.length).map fun i => w.getD i 0).sum
  | [] => rfl
  | x :: w => by
    rw [List.sum_cons, sum_getD w, List.length_cons, List.range_succ_eq_map, List.map_cons, List.sum_cons, List.map_map]; rfl
theorem mix_zero (s : Nat) (n : Nat) : Mix s (List.replicate n 0) := by
  intro v k rows hl hk
  have h0 : (List.replicate n (0 : Int)).sum = 0 := by
    have := sum_const (0 : Int) (List.range n)
    rw [List.map_const', List.length_range] at this
    rw [this]; simp
  have ha : ∀ r m j, acc r (List.replicate n (0 : Int)) m j = 0 := fun r m j => by
    induction j with
    | zero => rfl
    | succ j ih =>
      rw [acc_succ, ih]
      have : (List.replicate n (0 : Int)).getD j 0 = 0 := by
        rw [List.getD_eq_getElem?_getD, List.getElem?_replicate]; split <;> rfl
      rw [this]; split <;> rfl
  have : offW v rows (List.replicate n (0 : Int)) = 0 := by
    unfold offW
    have h : ∀ r ∈ rows, rowOff v (List.replicate n (0 : Int)).sum (fun m => acc r (List.replicate n (0 : Int)) m (List.replicate n (0 : Int)).length) = 0 := fun r _ => by
      rw [h0]
      show ((rngI 0 v.toNat).map fun m => absI (v * acc r (List.replicate n (0 : Int)) m (List.replicate n (0 : Int)).length - 0)).sum = 0
      rw [sum_congr (g := fun _ => (0 : Int)) (fun m _ => by rw [ha, Int.mul_zero]; rfl), sum_const, Int.zero_mul]
    rw [sum_congr h, sum_const, Int.zero_mul]
  rw [this, h0, Int.zero_mul, Int.mul_zero]
  exact Int.le_refl _
theorem mix_add {s : Nat} {w : List Int} {k a : Int} {l : List Int} (h : Mix s w) (hl : w.length = k.toNat) (ha : 0 ≤ a) (hs : l ∈ lotsL k s) : Mix s ((rngI 0 k.toNat).map fun x => w.getD x.toNat 0 + if l.contains x then a else 0) := by
  obtain ⟨m1, m2, m3⟩ := lots_mem.mp hs
  generalize hw' : ((rngI 0 k.toNat).map fun x => w.getD x.toNat 0 + if l.contains x then a else 0) = w'
  have hl' : w'.length = k.toNat := by rw [← hw', List.length_map, rngI_len]
  have hg : ∀ i, i < k.toNat → w'.getD i 0 = w.getD i 0 + a * (indW k l).getD i 0 := fun i hi => by
    rw [← hw']
    unfold indW rngI
    rw [List.map_map, List.map_map, List.getD_eq_getElem?_getD, List.getD_eq_getElem?_getD (l := List.map _ _), List.getElem?_map, List.getElem?_map, List.getElem?_range hi]
    show w.getD ((0 : Int) + (i : Nat)).toNat 0 + (if l.contains (0 + (i : Nat) : Int) then a else 0) = w.getD i 0 + a * (if l.contains (0 + (i : Nat) : Int) then 1 else 0)
    have : ((0 : Int) + (i : Nat)).toNat = i := by omega
    rw [this]
    split <;> simp
  have hil : (indW k l).length = k.toNat := by unfold indW; rw [List.length_map, rngI_len]
  have hsum : w'.sum = w.sum + a * (s : Nat) := by
    rw [sum_getD w', sum_getD w, hl', hl, ← m1, ← ind_sum m3 m2, sum_getD (indW k l), hil, ← sum_mul, ← sum_add]
    exact sum_congr fun i hi => hg i (List.mem_range.mp hi)
  intro v k' rows hk hk0
  have ek : k.toNat = k'.toNat := by rw [← hl', hk]
  have h1 := h v k' rows (by rw [hl, ek]) hk0
  have hoff : offW v rows w' ≤ offW v rows w + a * offL v rows l := by
    unfold offW offL
    rw [← sum_mul, ← sum_add]
    refine sum_le fun r _ => ?_
    show ((rngI 0 v.toNat).map fun m => absI (v * acc r w' m w'.length - w'.sum)).sum ≤ ((rngI 0 v.toNat).map fun m => absI (v * acc r w m w.length - w.sum)).sum + a * ((rngI 0 v.toNat).map fun m => absI (v * cntM r l m - (l.length : Nat))).sum
    rw [← sum_mul, ← sum_add]
    refine sum_le fun m _ => ?_
    rw [hl', acc_comb hg m, hsum, hl, ← absI_mul ha]
    have e := ind_acc m3 m2 r m
    rw [hil] at e
    rw [e, m1]
    have : v * (acc r w m k.toNat + a * cntM r l m) - (w.sum + a * (s : Nat)) = (v * acc r w m k.toNat - w.sum) + a * (v * cntM r l m - (s : Nat)) := by
      rw [Int.mul_add, Int.mul_sub, ← Int.mul_assoc, ← Int.mul_assoc, Int.mul_comm v a]; omega
    rw [this]
    exact absI_add _ _
  have hle : offL v rows l ≤ wS v k' rows s := by
    refine wS_ge ?_
    rcases Int.le_total 0 k with h0 | h0
    · have : k = k' := by omega
      rw [← this]; exact hs
    · have : k.toNat = 0 := by omega
      have hl0 : l = [] := by
        rw [List.eq_nil_iff_forall_not_mem]
        intro x hx
        have := m2 x hx
        omega
      subst hl0
      exact lots_mem.mpr ⟨m1, fun x hx => (nomatch hx), List.Pairwise.nil⟩
  rw [hsum, Int.mul_add]
  have c1 := Int.mul_le_mul_of_nonneg_right hoff (show (0 : Int) ≤ (s : Nat) by omega)
  have c2 : a * offL v rows l * (s : Nat) ≤ a * wS v k' rows s * (s : Nat) := Int.mul_le_mul_of_nonneg_right (Int.mul_le_mul_of_nonneg_left hle ha) (by omega)
  rw [Int.add_mul] at c1
  have c3 : a * wS v k' rows s * (s : Nat) = wS v k' rows s * (a * (s : Nat)) := by ac_rfl
  omega
/-! ### keys in a row, each so often as it weighs -/
def runK (u : List Nat) : List Nat := (List.range u.length).flatMap fun x => List.replicate (u.getD x 0) x
theorem sum_run (f : Nat → Int) (u : List Nat) (n : Nat) : (((List.range n).flatMap fun x => List.replicate (u.getD x 0) x).map f).sum = ((List.range n).map fun x => f x * (u.getD x 0 : Nat)).sum := by
  induction n with
  | zero => rfl
  | succ n ih =>
    rw [List.range_succ, List.flatMap_append, List.map_append, List.sum_append, List.map_append, List.sum_append, ih]
    simp only [List.flatMap_cons, List.flatMap_nil, List.append_nil, List.map_cons, List.map_nil, List.sum_cons, List.sum_nil, List.map_replicate]
    have := sum_const (f n) (List.range (u.getD n 0))
    rw [List.map_const', List.length_range] at this
    rw [this]; omega
theorem run_len (u : List Nat) : (runK u).length = u.sum := by
  unfold runK
  rw [List.length_flatMap]
  congr 1
  apply List.ext_getElem?
  intro i
  rw [List.getElem?_map]
  by_cases h : i < u.length
  · rw [List.getElem?_range h, List.getElem?_eq_getElem h]
    show some (List.replicate (u.getD i 0) i).length = _
    rw [List.length_replicate, List.getD_eq_getElem?_getD, List.getElem?_eq_getElem h]; rfl
  · rw [List.getElem?_eq_none (by rw [List.length_range]; omega), List.getElem?_eq_none (by omega)]; rfl
theorem run_sorted (u : List Nat) : (runK u).Pairwise (· ≤ ·) := by
  unfold runK
  rw [List.pairwise_flatMap]
  constructor
  · intro x _
    exact List.pairwise_replicate.mpr (.inr (Nat.le_refl _))
  · refine List.Pairwise.imp (fun {a b} h x hx y hy => ?_) (List.pairwise_lt_range (n := u.length))
    rw [List.eq_of_mem_replicate hx, List.eq_of_mem_replicate hy]; omega
theorem run_mem {u : List Nat} {x : Nat} (h : x ∈ runK u) : x < u.length := by
  unfold runK at h
  obtain ⟨y, hy, hx⟩ := List.mem_flatMap.mp h
  rw [List.eq_of_mem_replicate hx]; exact List.mem_range.mp hy
theorem run_count {u : List Nat} (x : Nat) : (runK u).count x ≤ u.getD x 0 := by
  unfold runK
  have : ∀ n, ((List.range n).flatMap fun x => List.replicate (u.getD x 0) x).count x ≤ if x < n then u.getD x 0 else 0 := fun n => by
    induction n with
    | zero => simp
    | succ n ih =>
      rw [List.range_succ, List.flatMap_append, List.count_append]
      simp only [List.flatMap_cons, List.flatMap_nil, List.append_nil]
      rw [List.count_replicate]
      by_cases h : n = x
      · subst h
        rw [if_neg (by omega)] at ih
        rw [if_pos (by simp), if_pos (by omega)]; omega
      · rw [if_neg (by simpa using h)]
        split at ih <;> split <;> omega
  refine Nat.le_trans (this u.length) ?_
  split <;> omega
/-- two places so far apart hold unlike keys -/
theorem run_lt {u : List Nat} {W p : Nat} (hW : ∀ x, u.getD x 0 ≤ W) {a b : Nat} (ha : (runK u)[p]? = some a) (hb : (runK u)[p + W]? = some b) (W1 : 1 ≤ W) : a < b := by
  have hs := run_sorted u
  have hp := (List.getElem?_eq_some_iff.mp ha)
  have hq := (List.getElem?_eq_some_iff.mp hb)
  obtain ⟨hp1, hp2⟩ := hp
  obtain ⟨hq1, hq2⟩ := hq
  have mono : ∀ i j (hi : i < (runK u).length) (hj : j < (runK u).length), i ≤ j → (runK u)[i] ≤ (runK u)[j] := fun i j hi hj hij => by
    rcases Nat.lt_or_ge i j with h | h
    · exact List.pairwise_iff_getElem.mp hs i j hi hj h
    · have : i = j := by omega
      subst this; exact Nat.le_refl _
  have hab : a ≤ b := by rw [← hp2, ← hq2]; exact mono _ _ hp1 hq1 (by omega)
  rcases Nat.lt_or_ge a b with h | h
  · exact h
  · exfalso
    have e : a = b := by omega
    have hsub : ((runK u).drop p).take (W + 1) = List.replicate (W + 1) a := by
      apply List.ext_getElem
      · rw [List.length_take, List.length_drop, List.length_replicate]; omega
      · intro i h1 h2
        rw [List.length_replicate] at h2
        rw [List.getElem_take, List.getElem_drop, List.getElem_replicate]
        have l1 := mono p (p + i) hp1 (by omega) (by omega)
        have l2 := mono (p + i) (p + W) (by omega) hq1 (by omega)
        rw [hp2] at l1
        rw [hq2] at l2
        omega
    have hc : (((runK u).drop p).take (W + 1)).count a ≤ (runK u).count a := List.Sublist.count_le a ((List.take_sublist _ _).trans (List.drop_sublist _ _))
    rw [hsub, List.count_replicate_self] at hc
    have := run_count (u := u) a
    have := hW a
    omega
theorem sum_cols (g : Nat → Int) (W : Nat) : ∀ s : Nat, ((List.range W).map fun j => ((List.range s).map fun i => g (j + i * W)).sum).sum = ((List.range (s * W)).map g).sum
  | 0 => by
    rw [Nat.zero_mul]
    have := sum_const (0 : Int) (List.range W)
    simp only [List.range_zero, List.map_nil, List.sum_nil]
    rw [this]; simp
  | s + 1 => by
    have e : ∀ j, ((List.range (s + 1)).map fun i => g (j + i * W)).sum = ((List.range s).map fun i => g (j + i * W)).sum + g (j + s * W) := fun j => by
      rw [List.range_succ, List.map_append, List.sum_append]; simp
    rw [sum_congr fun j _ => e j, sum_add, sum_cols g W s, Nat.succ_mul, List.range_add, List.map_append, List.sum_append, List.map_map]
    congr 1
    exact sum_congr fun j _ => by show g (j + s * W) = g (s * W + j); rw [Nat.add_comm]
/-- small chances: a mixture of flat sources -/
theorem mix_flat {w : List Int} {s : Nat} (hn : ∀ x ∈ w, 0 ≤ x) (hs : 1 ≤ s) (hpos : 0 < w.sum) (hM : ∀ x ∈ w, x * (s : Nat) ≤ w.sum) : Mix s w := by
  intro v k rows hl hk
  obtain ⟨W, hW⟩ : ∃ W : Nat, w.sum = (W : Int) := ⟨w.sum.toNat, by omega⟩
  have W1 : 1 ≤ W := by omega
  obtain ⟨u, hu⟩ : ∃ u : List Nat, u = w.map fun x => x.toNat * s := ⟨_, rfl⟩
  have ul : u.length = k.toNat := by rw [hu, List.length_map, hl]
  have ug : ∀ i, ((u.getD i 0 : Nat) : Int) = w.getD i 0 * (s : Nat) ∧ u.getD i 0 ≤ W := fun i => by
    rw [hu, List.getD_eq_getElem?_getD, List.getD_eq_getElem?_getD, List.getElem?_map]
    cases e : w[i]? with
    | none => simp
    | some x =>
      have hm := List.mem_of_getElem? e
      have h0 := hn x hm
      have h1 := hM x hm
      show ((x.toNat * s : Nat) : Int) = x * (s : Nat) ∧ x.toNat * s ≤ W
      have e1 : ((x.toNat * s : Nat) : Int) = x * (s : Nat) := by rw [Int.natCast_mul, Int.toNat_of_nonneg h0]
      exact ⟨e1, by omega⟩
  have us : u.sum = s * W := by
    have : ((u.sum : Nat) : Int) = (s : Nat) * (W : Nat) := by
      rw [← hW, hu]
      clear hu hM ul ug hl hpos hW
      induction w with
      | nil => simp
      | cons x w ih =>
        have h0 := hn x List.mem_cons_self
        rw [List.map_cons, List.sum_cons, List.sum_cons, Int.natCast_add, ih fun y hy => hn y (List.mem_cons_of_mem _ hy), Int.natCast_mul, Int.toNat_of_nonneg h0, Int.mul_add, Int.mul_comm x]
    rw [← Int.natCast_mul] at this
    exact Int.natCast_inj.mp this
  obtain ⟨K, hK⟩ : ∃ K, K = runK u := ⟨_, rfl⟩
  have Kl : K.length = s * W := by rw [hK, run_len, us]
  -- the lot of a column
  obtain ⟨col, hcol⟩ : ∃ col : Nat → List Int, col = fun j => (List.range s).map fun i => ((K.getD (j + i * W) 0 : Nat) : Int) := ⟨_, rfl⟩
  have in_ : ∀ j i, j < W → i < s → j + i * W < K.length := fun j i hj hi => by
    rw [Kl]
    have : (i + 1) * W ≤ s * W := Nat.mul_le_mul_right _ hi
    rw [Nat.succ_mul] at this
    omega
  have colm : ∀ j, j < W → col j ∈ lotsL k s := fun j hj => by
    rw [hcol]
    refine lots_mem.mpr ⟨by rw [List.length_map, List.length_range], fun x hx => ?_, ?_⟩
    · obtain ⟨i, hi, rfl⟩ := List.mem_map.mp hx
      have hi := List.mem_range.mp hi
      have hlt := in_ j i hj hi
      have : K.getD (j + i * W) 0 ∈ runK u := by
        rw [← hK, List.getD_eq_getElem?_getD, List.getElem?_eq_getElem hlt]; exact List.getElem_mem hlt
      have := run_mem this
      omega
    · unfold Asc
      rw [List.pairwise_map, List.pairwise_iff_getElem]
      intro a b ha hb hab
      rw [List.length_range] at ha hb
      rw [List.getElem_range, List.getElem_range]
      have step : ∀ d i, 1 ≤ d → i + d < s → K.getD (j + i * W) 0 < K.getD (j + (i + d) * W) 0 := fun d => by
        induction d with
        | zero => intro i h; omega
        | succ d ih =>
          intro i _ hid
          have one : ∀ i, i + 1 < s → K.getD (j + i * W) 0 < K.getD (j + (i + 1) * W) 0 := fun i hi => by
            have h1 := in_ j i hj (by omega)
            have h2 := in_ j (i + 1) hj hi
            have e : j + (i + 1) * W = (j + i * W) + W := by rw [Nat.succ_mul]; omega
            rw [e] at h2 ⊢
            rw [hK] at h1 h2 ⊢
            have := run_lt (u := u) (W := W) (p := j + i * W) (fun x => (ug x).2) (List.getElem?_eq_getElem h1) (List.getElem?_eq_getElem h2) W1
            rw [List.getD_eq_getElem?_getD, List.getD_eq_getElem?_getD, List.getElem?_eq_getElem h1, List.getElem?_eq_getElem h2]
            exact this
          rcases Nat.eq_zero_or_pos d with rfl | hd
          · exact one i hid
          · have a1 := ih i hd (by omega)
            have a2 := one (i + d) (by omega)
            exact Nat.lt_trans a1 a2
      have := step (b - a) a (by omega) (by omega)
      rw [show a + (b - a) = b by omega] at this
      omega
  -- what columns tell together
  have tell : ∀ f : Nat → Int, ((List.range W).map fun j => ((col j).map fun x => f x.toNat).sum).sum = ((List.range k.toNat).map fun x => f x * (w.getD x 0 * (s : Nat))).sum := fun f => by
    have e1 : ((List.range W).map fun j => ((col j).map fun x => f x.toNat).sum).sum = ((List.range W).map fun j => ((List.range s).map fun i => f (K.getD (j + i * W) 0)).sum).sum := by
      refine sum_congr fun j _ => ?_
      rw [hcol, List.map_map]; rfl
    rw [e1, sum_cols (fun p => f (K.getD p 0)) W s, ← Kl]
    have e2 : ((List.range K.length).map fun p => f (K.getD p 0)) = K.map f := by
      apply List.ext_getElem?
      intro i
      rw [List.getElem?_map, List.getElem?_map]
      by_cases h : i < K.length
      · rw [List.getElem?_range h, List.getElem?_eq_getElem h]
        show some (f (K.getD i 0)) = _
        rw [List.getD_eq_getElem?_getD, List.getElem?_eq_getElem h]; rfl
      · rw [List.getElem?_eq_none (by rw [List.length_range]; omega), List.getElem?_eq_none (by omega)]; rfl
    rw [e2, hK]
    unfold runK
    rw [sum_run f u u.length, ul]
    exact sum_congr fun x _ => by rw [(ug x).1]
  have cnt_acc : ∀ r m, ((List.range W).map fun j => cntM r (col j) m).sum = acc r w m w.length * (s : Nat) := fun r m => by
    have := tell fun x => if r.getD x 0 = m then (1 : Int) else 0
    have e1 : ((List.range W).map fun j => cntM r (col j) m).sum = ((List.range W).map fun j => ((col j).map fun x => (fun x : Nat => if r.getD x 0 = m then (1 : Int) else 0) x.toNat).sum).sum := sum_congr fun j _ => (cntM_sum r (col j) m).symm
    rw [e1, this]
    unfold acc
    rw [hl, Int.mul_comm, ← sum_mul]
    refine sum_congr fun x _ => ?_
    split
    · rw [Int.one_mul, Int.mul_comm]
    · simp
  have collen : ∀ j, j < W → (((col j).length : Nat) : Int) = (s : Nat) := fun j hj => by rw [(lots_mem.mp (colm j hj)).1]
  have main : offW v rows w * (s : Nat) ≤ ((List.range W).map fun j => offL v rows (col j)).sum := by
    unfold offW offL
    rw [Int.mul_comm, ← sum_mul, sum_swap (fun j r => rowOff v ((col j).length : Nat) (cntM r (col j)))]
    refine sum_le fun r _ => ?_
    show (s : Nat) * ((rngI 0 v.toNat).map fun m => absI (v * acc r w m w.length - w.sum)).sum ≤ ((List.range W).map fun j => ((rngI 0 v.toNat).map fun m => absI (v * cntM r (col j) m - ((col j).length : Nat))).sum).sum
    rw [sum_swap (fun j m => absI (v * cntM r (col j) m - ((col j).length : Nat))), ← sum_mul]
    refine sum_le fun m _ => ?_
    rw [← absI_mul (by omega)]
    have e : (s : Nat) * (v * acc r w m w.length - w.sum) = ((List.range W).map fun j => v * cntM r (col j) m - ((col j).length : Nat)).sum := by
      have e1 : ((List.range W).map fun j => v * cntM r (col j) m - ((col j).length : Nat)).sum = ((List.range W).map fun j => v * cntM r (col j) m + -((s : Nat) : Int)).sum := sum_congr fun j hj => by rw [collen j (List.mem_range.mp hj)]; omega
      rw [e1, sum_add, sum_mul, cnt_acc, sum_const, List.length_range, hW, Int.mul_sub, Int.neg_mul]
      have : ((s : Nat) : Int) * (v * acc r w m w.length) = v * (acc r w m w.length * (s : Nat)) := by ac_rfl
      omega
    rw [e]
    exact sum_abs _ _
  have last : ((List.range W).map fun j => offL v rows (col j)).sum ≤ ((List.range W).map fun _ => wS v k rows s).sum := sum_le fun j hj => wS_ge (colm j (List.mem_range.mp hj))
  rw [sum_const, List.length_range, ← hW] at last
  exact Int.le_trans main last
end Pv
end
section
set_option Elab.async false
set_option linter.all false
set_option maxRecDepth 100000
/-! Pw.P: like chances bound offs. -/
namespace Pv
open PySem L2
theorem cauchy {α : Type} (f : α → Int) : ∀ l : List α, (l.map f).sum * (l.map f).sum ≤ (l.length : Nat) * (l.map fun x => f x * f x).sum
  | [] => by simp
  | x :: l => by
    have ih := cauchy f l
    rw [List.map_cons, List.map_cons, List.sum_cons, List.sum_cons, List.length_cons, Int.natCast_succ]
    have hT : 0 ≤ (l.map fun x => f x * f x).sum := sum_nn fun y _ => by
      rcases Int.le_total 0 (f y) with h | h
      · exact Int.mul_nonneg h h
      · exact Int.mul_nonneg_of_nonpos_of_nonpos h h
    generalize (l.map f).sum = S at *
    generalize (l.map fun x => f x * f x).sum = T at *
    generalize f x = a at *
    have hn : (0 : Int) ≤ (l.length : Nat) := by omega
    generalize ((l.length : Nat) : Int) = n at *
    have sq : ∀ z : Int, 0 ≤ z * z := fun z => by
      rcases Int.le_total 0 z with h | h
      · exact Int.mul_nonneg h h
      · exact Int.mul_nonneg_of_nonpos_of_nonpos h h
    have key : 2 * (S * a) ≤ T + n * (a * a) := by
      rcases Int.lt_or_le 0 n with h | h
      · have h1 := sq (S - n * a)
        have e : (S - n * a) * (S - n * a) = S * S - 2 * (n * (S * a)) + n * (n * (a * a)) := by
          rw [Int.sub_mul, Int.mul_sub, Int.mul_sub]
          have e1 : S * (n * a) = n * (S * a) := by ac_rfl
          have e2 : n * a * S = n * (S * a) := by ac_rfl
          have e3 : n * a * (n * a) = n * (n * (a * a)) := by ac_rfl
          rw [e1, e2, e3]; omega
        rw [e] at h1
        have h2 : n * (2 * (S * a)) ≤ n * (T + n * (a * a)) := by
          rw [Int.mul_add]
          have e4 : n * (2 * (S * a)) = 2 * (n * (S * a)) := by ac_rfl
          rw [e4]; omega
        exact Int.le_of_mul_le_mul_left h2 h
      · have h0 : n = 0 := by omega
        subst h0
        rw [Int.zero_mul] at ih
        have hS : S = 0 := by
          have := sq S
          have h3 : S * S = 0 := by omega
          rcases Int.mul_eq_zero.mp h3 with h | h <;> exact h
        subst hS
        rw [Int.zero_mul, Int.zero_mul]; omega
    have e1 : (a + S) * (a + S) = a * a + 2 * (S * a) + S * S := by
      rw [Int.add_mul, Int.mul_add, Int.mul_add, Int.mul_comm a S]; omega
    rw [e1, Int.add_mul, Int.mul_add, Int.one_mul]
    omega
theorem sum_prod {α β : Type} (f : α → Int) (g : β → Int) (l : List α) (m : List β) : (l.map f).sum * (m.map g).sum = (l.map fun x => (m.map fun y => f x * g y).sum).sum := by
  rw [Int.mul_comm, ← sum_mul]
  refine sum_congr fun x _ => ?_
  rw [Int.mul_comm, ← sum_mul]
def QQ (v : Int) (rows : List (List Int)) (w : List Int) : Int := (rows.map fun r => ((rngI 0 v.toNat).map fun m => acc r w m w.length * acc r w m w.length).sum).sum
def likeT (rows : List (List Int)) (w : List Int) (x y : Nat) : Int := w.getD x 0 * w.getD y 0 * (cntC rows (x : Int) (y : Int) : Nat)
def likeQ (rows : List (List Int)) (w : List Int) : Int := ((List.range w.length).map fun x => ((List.range w.length).map fun y => likeT rows w x y).sum).sum
theorem cntC_sum (rows : List (List Int)) (x y : Nat) : (rows.map fun r => if r.getD x 0 = r.getD y 0 then (1 : Int) else 0).sum = (cntC rows (x : Int) (y : Int) : Nat) := by
  unfold cntC
  rw [Int.toNat_natCast, Int.toNat_natCast]
  induction rows with
  | nil => rfl
  | cons r rows ih =>
    rw [List.map_cons, List.sum_cons, ih]
    by_cases h : r.getD x 0 = r.getD y 0
    · rw [if_pos h, List.filter_cons_of_pos (by simpa using h), List.length_cons]; omega
    · rw [if_neg h, List.filter_cons_of_neg (by simpa using h)]; omega
theorem pick_sum {v a : Int} (h : 0 ≤ a ∧ a < v) (g : Int → Int) : ((rngI 0 v.toNat).map fun m => if a = m then g m else 0).sum = g a := by
  have e := sum_ind g v.toNat 0 [a] (List.pairwise_singleton _ _) (fun y hy => by simp at hy; subst hy; omega)
  simp only [List.map_cons, List.map_nil, List.sum_cons, List.sum_nil, Int.add_zero] at e
  rw [← e]
  refine sum_congr fun m _ => ?_
  by_cases h : a = m
  · subst h; simp
  · rw [if_neg h, if_neg]; simp [Ne.symm h]
/-- r's marks at all its keys below w's length -/
theorem row_sq {v : Int} {r w : List Int} (hr : w.length ≤ r.length) (hm : ∀ x ∈ r, 0 ≤ x ∧ x < v) :
    ((rngI 0 v.toNat).map fun m => acc r w m w.length * acc r w m w.length).sum = ((List.range w.length).map fun x => ((List.range w.length).map fun y => w.getD x 0 * w.getD y 0 * if r.getD x 0 = r.getD y 0 then 1 else 0).sum).sum := by
  have e1 : ((rngI 0 v.toNat).map fun m => acc r w m w.length * acc r w m w.length).sum = ((rngI 0 v.toNat).map fun m => ((List.range w.length).map fun x => ((List.range w.length).map fun y => (if r.getD x 0 = m then w.getD x 0 else 0) * (if r.getD y 0 = m then w.getD y 0 else 0)).sum).sum).sum := sum_congr fun m _ => by
    unfold acc
    exact sum_prod _ _ _ _
  rw [e1, sum_swap (fun m x => ((List.range w.length).map fun y => (if r.getD x 0 = m then w.getD x 0 else 0) * (if r.getD y 0 = m then w.getD y 0 else 0)).sum)]
  refine sum_congr fun x hx => ?_
  rw [sum_swap (fun m y => (if r.getD x 0 = m then w.getD x 0 else 0) * (if r.getD y 0 = m then w.getD y 0 else 0))]
  refine sum_congr fun y hy => ?_
  have hx := List.mem_range.mp hx
  have hxm := hm (r.getD x 0) (by rw [List.getD_eq_getElem?_getD, List.getElem?_eq_getElem (by omega)]; exact List.getElem_mem (by omega))
  have e2 : ((rngI 0 v.toNat).map fun m => (if r.getD x 0 = m then w.getD x 0 else 0) * (if r.getD y 0 = m then w.getD y 0 else 0)).sum = ((rngI 0 v.toNat).map fun m => if r.getD x 0 = m then (fun m => w.getD x 0 * (if r.getD y 0 = m then w.getD y 0 else 0)) m else 0).sum := sum_congr fun m _ => by
    by_cases h : r.getD x 0 = m
    · rw [if_pos h, if_pos h]
    · rw [if_neg h, if_neg h, Int.zero_mul]
  rw [e2, pick_sum hxm]
  show w.getD x 0 * (if r.getD y 0 = r.getD x 0 then w.getD y 0 else 0) = _
  by_cases h : r.getD x 0 = r.getD y 0
  · rw [if_pos h, if_pos h.symm, Int.mul_one]
  · rw [if_neg h, if_neg (Ne.symm h)]; simp
theorem like_eq {v k : Int} {rows : List (List Int)} (B : Board v k rows) {w : List Int} (hl : w.length = k.toNat) : QQ v rows w = likeQ rows w := by
  unfold QQ likeQ
  have e1 : ∀ r ∈ rows, ((rngI 0 v.toNat).map fun m => acc r w m w.length * acc r w m w.length).sum = ((List.range w.length).map fun x => ((List.range w.length).map fun y => w.getD x 0 * w.getD y 0 * if r.getD x 0 = r.getD y 0 then 1 else 0).sum).sum := fun r hr => row_sq (by rw [hl, B.len r hr]; omega) (B.mks r hr)
  rw [sum_congr e1, sum_swap (fun (r : List Int) (x : Nat) => ((List.range w.length).map fun y => w.getD x 0 * w.getD y 0 * if r.getD x 0 = r.getD y 0 then 1 else 0).sum)]
  refine sum_congr fun x _ => ?_
  rw [sum_swap (fun (r : List Int) (y : Nat) => w.getD x 0 * w.getD y 0 * if r.getD x 0 = r.getD y 0 then 1 else 0)]
  refine sum_congr fun y _ => ?_
  rw [sum_mul, cntC_sum]; rfl
/-- the marks of a row share the whole weight -/
theorem acc_all {v : Int} {r w : List Int} (hr : w.length ≤ r.length) (hm : ∀ x ∈ r, 0 ≤ x ∧ x < v) : ((rngI 0 v.toNat).map fun m => acc r w m w.length).sum = w.sum := by
  unfold acc
  rw [sum_swap (fun m x => if r.getD x 0 = m then w.getD x 0 else 0), sum_getD w]
  refine sum_congr fun x hx => ?_
  have hx := List.mem_range.mp hx
  exact pick_sum (hm (r.getD x 0) (by rw [List.getD_eq_getElem?_getD, List.getElem?_eq_getElem (by omega)]; exact List.getElem_mem (by omega))) fun _ => w.getD x 0
theorem off_sq {v k : Int} {rows : List (List Int)} (B : Board v k rows) (v0 : 0 ≤ v) {w : List Int} (hl : w.length = k.toNat) :
    offW v rows w * offW v rows w ≤ v * v * rows.length * (v * QQ v rows w - w.sum * w.sum * rows.length) := by
  obtain ⟨P, hP⟩ : ∃ P : List (List Int × Int), P = rows.flatMap fun r => (rngI 0 v.toNat).map fun m => (r, m) := ⟨_, rfl⟩
  have flat : ∀ F : List Int → Int → Int, (P.map fun p => F p.1 p.2).sum = (rows.map fun r => ((rngI 0 v.toNat).map fun m => F r m).sum).sum := fun F => by
    rw [hP, List.map_flatMap, sum_flat]
    refine sum_congr fun r _ => ?_
    rw [List.map_map]; rfl
  have hlen : ((P.length : Nat) : Int) = v * rows.length := by
    have h1 := flat fun _ _ => 1
    rw [sum_const, Int.one_mul] at h1
    rw [h1, sum_congr (g := fun _ => v) (fun r _ => by rw [sum_const, rngI_len]; omega), sum_const]
  have hc := cauchy (fun p : List Int × Int => absI (v * acc p.1 w p.2 w.length - w.sum)) P
  rw [flat fun r m => absI (v * acc r w m w.length - w.sum), flat fun r m => absI (v * acc r w m w.length - w.sum) * absI (v * acc r w m w.length - w.sum), hlen] at hc
  have e0 : (rows.map fun r => ((rngI 0 v.toNat).map fun m => absI (v * acc r w m w.length - w.sum)).sum).sum = offW v rows w := rfl
  rw [e0] at hc
  have e1 : (rows.map fun r => ((rngI 0 v.toNat).map fun m => absI (v * acc r w m w.length - w.sum) * absI (v * acc r w m w.length - w.sum)).sum).sum = v * (v * QQ v rows w - w.sum * w.sum * rows.length) := by
    have hr : ∀ r ∈ rows, ((rngI 0 v.toNat).map fun m => absI (v * acc r w m w.length - w.sum) * absI (v * acc r w m w.length - w.sum)).sum = v * v * ((rngI 0 v.toNat).map fun m => acc r w m w.length * acc r w m w.length).sum + -(v * (w.sum * w.sum)) := fun r hr => by
      have e2 : ∀ m, absI (v * acc r w m w.length - w.sum) * absI (v * acc r w m w.length - w.sum) = v * v * (acc r w m w.length * acc r w m w.length) + (-(2 * v * w.sum) * acc r w m w.length + w.sum * w.sum) := fun m => by
        generalize acc r w m w.length = a
        generalize w.sum = W
        have e3 : absI (v * a - W) * absI (v * a - W) = (v * a - W) * (v * a - W) := by
          unfold absI; split
          · rw [Int.neg_mul_neg]
          · rfl
        rw [e3, Int.sub_mul, Int.mul_sub, Int.mul_sub, Int.neg_mul]
        have x1 : v * a * (v * a) = v * v * (a * a) := by ac_rfl
        have x2 : W * (v * a) = v * W * a := by ac_rfl
        have x3 : v * a * W = v * W * a := by ac_rfl
        have x4 : 2 * v * W * a = 2 * (v * W * a) := by ac_rfl
        rw [x1, x2, x3, x4]; omega
      rw [sum_congr fun m _ => e2 m, sum_add, sum_add, sum_mul, sum_mul, acc_all (by rw [hl, B.len r hr]; omega) (B.mks r hr), sum_const, rngI_len]
      have x5 : ((v.toNat : Nat) : Int) = v := by omega
      rw [x5, Int.neg_mul]
      have x6 : 2 * v * w.sum * w.sum = 2 * (v * (w.sum * w.sum)) := by ac_rfl
      have x7 : w.sum * w.sum * v = v * (w.sum * w.sum) := by ac_rfl
      rw [x6, x7]; omega
    rw [sum_congr hr, sum_add, sum_mul, sum_const, Int.mul_sub, Int.neg_mul]
    have x8 : v * (v * QQ v rows w) = v * v * QQ v rows w := by ac_rfl
    have x9 : v * (w.sum * w.sum * rows.length) = v * (w.sum * w.sum) * rows.length := by ac_rfl
    rw [x8, x9]
    show v * v * QQ v rows w + -(v * (w.sum * w.sum) * rows.length) = _
    omega
  rw [e1] at hc
  have e4 : v * rows.length * (v * (v * QQ v rows w - w.sum * w.sum * rows.length)) = v * v * rows.length * (v * QQ v rows w - w.sum * w.sum * rows.length) := by ac_rfl
  rw [e4] at hc
  exact hc
theorem like_ge {v k : Int} {rows : List (List Int)} (B : Board v k rows) (v0 : 0 < v) {w : List Int} (hl : w.length = k.toNat) : w.sum * w.sum * rows.length ≤ v * QQ v rows w := by
  have h := off_sq B (by omega) hl
  have hp : 0 < rows.length := List.length_pos_iff.mpr B.ne
  have h0 : 0 ≤ offW v rows w := sum_nn fun r _ => rowOff_nn _ _ _
  have h1 := Int.mul_nonneg h0 h0
  have hpos : 0 < v * v * rows.length := Int.mul_pos (Int.mul_pos v0 v0) (by omega)
  rcases Int.lt_or_le (v * QQ v rows w - w.sum * w.sum * rows.length) 0 with h2 | h2
  · have := Int.mul_neg_of_pos_of_neg hpos h2
    omega
  · omega
/-- flat sources where no two keys are alike too often -/
theorem flat_like {v k : Int} {rows : List (List Int)} (B : Board v k rows) (v0 : 0 < v) {s : Nat} {l : List Int} (hl : l ∈ lotsL k s) (k0 : 0 ≤ k) (ha : ∀ x y : Nat, x < y → (y : Int) < k → v * (cntC rows (x : Int) (y : Int) : Nat) ≤ rows.length) :
    v * QQ v rows (indW k l) ≤ (s : Nat) * rows.length * (v - 1) + (s : Nat) * (s : Nat) * rows.length := by
  obtain ⟨m1, m2, m3⟩ := lots_mem.mp hl
  have hil : (indW k l).length = k.toNat := by unfold indW; rw [List.length_map, rngI_len]
  rw [like_eq B hil]
  unfold likeQ
  rw [hil]
  obtain ⟨N, hN⟩ : ∃ N : Int, N = rows.length := ⟨_, rfl⟩
  obtain ⟨g, hg⟩ : ∃ g : Nat → Int, g = fun x => (indW k l).getD x 0 := ⟨_, rfl⟩
  have g01 : ∀ x, g x = 0 ∨ g x = 1 := fun x => by
    rw [hg]
    show (indW k l).getD x 0 = 0 ∨ (indW k l).getD x 0 = 1
    rw [List.getD_eq_getElem?_getD]
    cases e : (indW k l)[x]? with
    | none => exact .inl rfl
    | some z =>
      have hz := List.mem_of_getElem? e
      unfold indW at hz
      obtain ⟨y, _, rfl⟩ := List.mem_map.mp hz
      show (if l.contains y then (1 : Int) else 0) = 0 ∨ (if l.contains y then (1 : Int) else 0) = 1
      split
      · exact .inr rfl
      · exact .inl rfl
  have gs : ((List.range k.toNat).map g).sum = (s : Nat) := by
    have := ind_sum m3 m2
    rw [sum_getD, hil, m1] at this
    rw [hg]; exact this
  have sym : ∀ x y : Nat, cntC rows (x : Int) (y : Int) = cntC rows (y : Int) (x : Int) := fun x y => by
    unfold cntC
    congr 2
    funext r
    rw [decide_eq_decide]; exact eq_comm
  have self : ∀ x : Nat, cntC rows (x : Int) (x : Int) = rows.length := fun x => by
    unfold cntC
    congr 1
    rw [List.filter_eq_self]
    intro r _; simp
  have term : ∀ x y : Nat, x < k.toNat → y < k.toNat → v * likeT rows (indW k l) x y ≤ N * (g x * g y) + (if x = y then (v - 1) * N * g x else 0) := fun x y hx hy => by
    have e : likeT rows (indW k l) x y = g x * g y * (cntC rows (x : Int) (y : Int) : Nat) := by rw [hg]; rfl
    rw [e]
    have hgg : 0 ≤ g x * g y := by
      rcases g01 x with h | h <;> rcases g01 y with h' | h' <;> rw [h, h'] <;> decide
    by_cases hxy : x = y
    · subst hxy
      rw [if_pos rfl, self, ← hN]
      have hsq : g x * g x = g x := by rcases g01 x with h | h <;> rw [h] <;> rfl
      rw [hsq, Int.sub_mul, Int.sub_mul, Int.one_mul]
      have x1 : v * (g x * N) = v * N * g x := by ac_rfl
      rw [x1]; omega
    · rw [if_neg hxy, Int.add_zero]
      have hc : v * (cntC rows (x : Int) (y : Int) : Nat) ≤ N := by
        rw [hN]
        rcases Nat.lt_or_gt_of_ne hxy with h | h
        · exact ha x y h (by omega)
        · rw [sym]; exact ha y x h (by omega)
      have := Int.mul_le_mul_of_nonneg_right hc hgg
      have x1 : v * (g x * g y * (cntC rows (x : Int) (y : Int) : Nat)) = v * (cntC rows (x : Int) (y : Int) : Nat) * (g x * g y) := by ac_rfl
      omega
  rw [← sum_mul]
  have big : ((List.range k.toNat).map fun x => v * ((List.range k.toNat).map fun y => likeT rows (indW k l) x y).sum).sum ≤ ((List.range k.toNat).map fun x => N * (g x * (s : Nat)) + (v - 1) * N * g x).sum := sum_le fun x hx => by
    have hx := List.mem_range.mp hx
    rw [← sum_mul]
    have h1 : ((List.range k.toNat).map fun y => v * likeT rows (indW k l) x y).sum ≤ ((List.range k.toNat).map fun y => N * (g x * g y) + (if x = y then (v - 1) * N * g x else 0)).sum := sum_le fun y hy => term x y hx (List.mem_range.mp hy)
    refine Int.le_trans h1 ?_
    rw [sum_add, sum_mul, sum_mul, gs]
    have h2 : ((List.range k.toNat).map fun y => if x = y then (v - 1) * N * g x else 0).sum ≤ (v - 1) * N * g x := by
      have hpos : 0 ≤ (v - 1) * N * g x := Int.mul_nonneg (Int.mul_nonneg (by omega) (by omega)) (by rcases g01 x with h | h <;> rw [h] <;> decide)
      have one : ∀ n, ((List.range n).map fun y => if x = y then (v - 1) * N * g x else 0).sum = if x < n then (v - 1) * N * g x else 0 := fun n => by
        induction n with
        | zero => simp
        | succ n ih =>
          rw [List.range_succ, List.map_append, List.sum_append, ih]
          simp only [List.map_cons, List.map_nil, List.sum_cons, List.sum_nil, Int.add_zero]
          by_cases h : x = n
          · rw [if_neg (by omega), if_pos h, if_pos (by omega)]; omega
          · rw [if_neg h]
            by_cases h2 : x < n
            · rw [if_pos h2, if_pos (by omega)]; omega
            · rw [if_neg h2, if_neg (by omega)]; rfl
      rw [one]
      split <;> omega
    omega
  refine Int.le_trans big ?_
  rw [sum_add, sum_mul, sum_mul]
  have e5 : ((List.range k.toNat).map fun x => g x * (s : Nat)).sum = (s : Nat) * (s : Nat) := by
    have : ((List.range k.toNat).map fun x => g x * (s : Nat)).sum = ((List.range k.toNat).map fun x => (s : Nat) * g x).sum := sum_congr fun x _ => Int.mul_comm ..
    rw [this, sum_mul, gs]
  rw [e5, gs, ← hN]
  have y1 : N * ((s : Nat) * (s : Nat)) = (s : Nat) * (s : Nat) * N := by ac_rfl
  have y2 : (v - 1) * N * (s : Nat) = (s : Nat) * N * (v - 1) := by ac_rfl
  rw [y1, y2]; omega
theorem flat_off_sq {v k : Int} {rows : List (List Int)} (B : Board v k rows) (v0 : 0 < v) {s : Nat} (k0 : 0 ≤ k) (hs : (s : Int) ≤ k) (ha : ∀ x y : Nat, x < y → (y : Int) < k → v * (cntC rows (x : Int) (y : Int) : Nat) ≤ rows.length) :
    wS v k rows s * wS v k rows s ≤ v * v * rows.length * ((s : Nat) * rows.length * (v - 1)) := by
  have hne : lotsL k s ≠ [] := fun z => by
    have := first_lot hs
    rw [z] at this; cases this
  obtain ⟨l, hl, e⟩ := wS_at (v := v) (rows := rows) hne
  obtain ⟨m1, m2, m3⟩ := lots_mem.mp hl
  have hil : (indW k l).length = k.toNat := by unfold indW; rw [List.length_map, rngI_len]
  have h1 := off_sq B (by omega) hil
  rw [off_ind m3 m2, ind_sum m3 m2, m1, e] at h1
  have h2 := flat_like B v0 hl k0 ha
  refine Int.le_trans h1 (Int.mul_le_mul_of_nonneg_left (by omega) ?_)
  exact Int.mul_nonneg (Int.mul_nonneg (by omega) (by omega)) (by omega)
/-- squares of fractions -/
theorem low_sq {A E Bn Bd : Int} (hE : 0 < E) (hB : 0 < Bd) (h : A * A * Bd ≤ Bn * E * E) : (A / gI A E) * (A / gI A E) * (Bd / gI Bn Bd) ≤ (Bn / gI Bn Bd) * (E / gI A E) * (E / gI A E) := by
  have g1 := gI_pos (n := A) hE
  have g2 := gI_pos (n := Bn) hB
  have e1 := low_mul_left A E
  have e2 := low_mul_right A E
  have e3 := low_mul_left Bn Bd
  have e4 := low_mul_right Bn Bd
  generalize gI A E = g at *
  generalize gI Bn Bd = q at *
  generalize A / g = x at *
  generalize E / g = y at *
  generalize Bn / q = z at *
  generalize Bd / q = t at *
  have hp : 0 < g * g * q := Int.mul_pos (Int.mul_pos g1 g1) g2
  refine Int.le_of_mul_le_mul_right ?_ hp
  have l : x * x * t * (g * g * q) = A * A * Bd := by rw [← e1, ← e4]; ac_rfl
  have r : z * y * y * (g * g * q) = Bn * E * E := by rw [← e3, ← e2]; ac_rfl
  rw [l, r]; exact h
end Pv
end
section
set_option Elab.async false
set_option linter.all false
set_option maxRecDepth 100000
/-! Pw.Q: sums of sources. -/
namespace Pv
open PySem L2
theorem off_le {v k : Int} {rows : List (List Int)} {w : List Int} (B : Board v k rows) (S : Src k w) (v1 : 2 ≤ v) (v2 : v ≤ 5) : offW v rows w ≤ 3200 * w.sum := by
  have h1 := S.pos
  unfold offW
  have hr : ∀ r ∈ rows, rowOff v w.sum (fun m => acc r w m w.length) ≤ 25 * w.sum := fun r _ => by
    show ((rngI 0 v.toNat).map fun m => absI (v * acc r w m w.length - w.sum)).sum ≤ 25 * w.sum
    have : ((rngI 0 v.toNat).map fun m => absI (v * acc r w m w.length - w.sum)).sum ≤ ((rngI 0 v.toNat).map fun _ => 5 * w.sum).sum := sum_le fun m _ => by
      have ac := acc_le (r := r) S.nn m w.length
      rw [List.take_length] at ac
      have a1 : 0 ≤ v * acc r w m w.length := Int.mul_nonneg (by omega) ac.1
      have a2 : v * acc r w m w.length ≤ 5 * w.sum := Int.mul_le_mul v2 ac.2 ac.1 (by decide)
      unfold absI
      split <;> omega
    rw [sum_const, rngI_len] at this
    have h3 : 5 * w.sum * (v.toNat : Nat) ≤ 5 * w.sum * 5 := Int.mul_le_mul_of_nonneg_left (by omega) (by omega)
    omega
  have := sum_le hr
  rw [sum_const] at this
  have hf := B.few
  have h3 : 25 * w.sum * (rows.length : Nat) ≤ 25 * w.sum * 128 := Int.mul_le_mul_of_nonneg_left (by omega) (by omega)
  omega
theorem acc_lin {r w x y : List Int} {a b : Int} {n : Nat} (h : ∀ i, i < n → w.getD i 0 = a * x.getD i 0 + b * y.getD i 0) (m : Int) : acc r w m n = a * acc r x m n + b * acc r y m n := by
  induction n with
  | zero => simp [acc]
  | succ n ih =>
    rw [acc_succ, acc_succ, acc_succ, ih fun i hi => h i (by omega), Int.mul_add, Int.mul_add, h n (by omega)]
    split
    · omega
    · rw [Int.mul_zero, Int.mul_zero]; omega
theorem sum_lin {w x y : List Int} {a b : Int} (hx : x.length = w.length) (hy : y.length = w.length) (h : ∀ i, i < w.length → w.getD i 0 = a * x.getD i 0 + b * y.getD i 0) : w.sum = a * x.sum + b * y.sum := by
  rw [sum_getD w, sum_getD x, sum_getD y, hx, hy, ← sum_mul, ← sum_mul, ← sum_add]
  exact sum_congr fun i hi => h i (List.mem_range.mp hi)
theorem off_lin {v : Int} {rows : List (List Int)} {w x y : List Int} {a b : Int} (hx : x.length = w.length) (hy : y.length = w.length) (ha : 0 ≤ a) (hb : 0 ≤ b) (h : ∀ i, i < w.length → w.getD i 0 = a * x.getD i 0 + b * y.getD i 0) :
    offW v rows w ≤ a * offW v rows x + b * offW v rows y := by
  have hs := sum_lin hx hy h
  unfold offW
  rw [← sum_mul, ← sum_mul, ← sum_add]
  refine sum_le fun r _ => ?_
  show ((rngI 0 v.toNat).map fun m => absI (v * acc r w m w.length - w.sum)).sum ≤ a * ((rngI 0 v.toNat).map fun m => absI (v * acc r x m x.length - x.sum)).sum + b * ((rngI 0 v.toNat).map fun m => absI (v * acc r y m y.length - y.sum)).sum
  rw [← sum_mul, ← sum_mul, ← sum_add]
  refine sum_le fun m _ => ?_
  rw [acc_lin h, hs, hx, hy, ← absI_mul ha, ← absI_mul hb]
  have e : v * (a * acc r x m w.length + b * acc r y m w.length) - (a * x.sum + b * y.sum) = a * (v * acc r x m w.length - x.sum) + b * (v * acc r y m w.length - y.sum) := by
    rw [Int.mul_add, Int.mul_sub, Int.mul_sub]
    have e1 : v * (a * acc r x m w.length) = a * (v * acc r x m w.length) := by ac_rfl
    have e2 : v * (b * acc r y m w.length) = b * (v * acc r y m w.length) := by ac_rfl
    rw [e1, e2]; omega
  rw [e]
  exact absI_add _ _
/-- the mean of two fractions -/
theorem low_mean {A E B F M G : Int} (hE : 0 < E) (hF : 0 < F) (hG : 0 < G) (h : 2 * M * E * F ≤ (A * F + B * E) * G) : 2 * (M / gI M G) * (E / gI A E) * (F / gI B F) ≤ ((A / gI A E) * (F / gI B F) + (B / gI B F) * (E / gI A E)) * (G / gI M G) := by
  have g1 := gI_pos (n := A) hE
  have g2 := gI_pos (n := B) hF
  have g3 := gI_pos (n := M) hG
  have e1 := low_mul_left A E
  have e2 := low_mul_right A E
  have e3 := low_mul_left B F
  have e4 := low_mul_right B F
  have e5 := low_mul_left M G
  have e6 := low_mul_right M G
  generalize gI A E = g at *
  generalize gI B F = q at *
  generalize gI M G = p at *
  generalize A / g = a at *
  generalize E / g = e at *
  generalize B / q = b at *
  generalize F / q = f at *
  generalize M / p = m at *
  generalize G / p = n at *
  refine Int.le_of_mul_le_mul_right ?_ (Int.mul_pos (Int.mul_pos g1 g2) g3)
  have l : 2 * m * e * f * (g * q * p) = 2 * M * E * F := by rw [← e2, ← e4, ← e5]; ac_rfl
  have r : (a * f + b * e) * n * (g * q * p) = (A * F + B * E) * G := by
    rw [← e1, ← e2, ← e3, ← e4, ← e6, Int.add_mul, Int.add_mul, Int.add_mul]
    congr 1 <;> ac_rfl
  rw [l, r]; exact h
end Pv
end
section
set_option Elab.async false
set_option linter.all false
set_option maxRecDepth 100000
/-! Pw.R: rows that deal their marks evenly. -/
namespace Pv
open PySem L2
def nM (r : List Int) (m : Int) : Int := ((r.filter fun x => decide (x = m)).length : Nat)
theorem nM_sum {r : List Int} (m : Int) : ((List.range r.length).map fun x => if r.getD x 0 = m then (1 : Int) else 0).sum = nM r m := by
  unfold nM
  induction r with
  | nil => rfl
  | cons a r ih =>
    rw [List.length_cons, List.range_succ_eq_map, List.map_cons, List.sum_cons, List.map_map]
    have e : ((List.range r.length).map ((fun x => if (a :: r).getD x 0 = m then (1 : Int) else 0) ∘ Nat.succ)).sum = ((List.range r.length).map fun x => if r.getD x 0 = m then (1 : Int) else 0).sum := by
      refine sum_congr fun x _ => ?_
      show (if (a :: r).getD (x + 1) 0 = m then (1 : Int) else 0) = _
      rw [List.getD_cons_succ]
    rw [e, ih, List.getD_cons_zero]
    by_cases h : a = m
    · rw [if_pos h, List.filter_cons_of_pos (by simpa using h), List.length_cons]; omega
    · rw [if_neg h, List.filter_cons_of_neg (by simpa using h)]; omega
theorem nM_nn (r : List Int) (m : Int) : 0 ≤ nM r m := by unfold nM; omega
theorem nM_le (r : List Int) (m : Int) : nM r m ≤ (r.length : Nat) := by
  unfold nM
  have := List.length_filter_le (fun x : Int => decide (x = m)) r
  omega
/-- all marks of a row -/
theorem nM_all {v : Int} {r : List Int} (hm : ∀ x ∈ r, 0 ≤ x ∧ x < v) : ((rngI 0 v.toNat).map fun m => nM r m).sum = (r.length : Nat) := by
  have e : ((rngI 0 v.toNat).map fun m => nM r m).sum = ((rngI 0 v.toNat).map fun m => ((List.range r.length).map fun x => if r.getD x 0 = m then (1 : Int) else 0).sum).sum := sum_congr fun m _ => (nM_sum m).symm
  rw [e, sum_swap (fun m x => if r.getD x 0 = m then (1 : Int) else 0)]
  have e2 : ((List.range r.length).map fun x => ((rngI 0 v.toNat).map fun m => if r.getD x 0 = m then (1 : Int) else 0).sum).sum = ((List.range r.length).map fun _ => (1 : Int)).sum := sum_congr fun x hx => by
    have hx := List.mem_range.mp hx
    exact pick_sum (hm (r.getD x 0) (by rw [List.getD_eq_getElem?_getD, List.getElem?_eq_getElem hx]; exact List.getElem_mem hx)) fun _ => 1
  rw [e2, sum_const, List.length_range]; omega
def eqI (r : List Int) (x y : Nat) : Int := if r.getD x 0 = r.getD y 0 then 1 else 0
theorem nM_sq {v : Int} {r : List Int} (hm : ∀ x ∈ r, 0 ≤ x ∧ x < v) : ((rngI 0 v.toNat).map fun m => nM r m * nM r m).sum = ((List.range r.length).map fun x => ((List.range r.length).map fun y => eqI r x y).sum).sum := by
  have e : ((rngI 0 v.toNat).map fun m => nM r m * nM r m).sum = ((rngI 0 v.toNat).map fun m => ((List.range r.length).map fun x => ((List.range r.length).map fun y => (if r.getD x 0 = m then (1 : Int) else 0) * (if r.getD y 0 = m then (1 : Int) else 0)).sum).sum).sum := sum_congr fun m _ => by
    rw [← nM_sum]; exact sum_prod _ _ _ _
  rw [e, sum_swap (fun (m : Int) (x : Nat) => ((List.range r.length).map fun y => (if r.getD x 0 = m then (1 : Int) else 0) * (if r.getD y 0 = m then (1 : Int) else 0)).sum)]
  refine sum_congr fun x hx => ?_
  rw [sum_swap (fun (m : Int) (y : Nat) => (if r.getD x 0 = m then (1 : Int) else 0) * (if r.getD y 0 = m then (1 : Int) else 0))]
  refine sum_congr fun y hy => ?_
  have hx := List.mem_range.mp hx
  have hxm := hm (r.getD x 0) (by rw [List.getD_eq_getElem?_getD, List.getElem?_eq_getElem hx]; exact List.getElem_mem hx)
  have e2 : ((rngI 0 v.toNat).map fun m => (if r.getD x 0 = m then (1 : Int) else 0) * (if r.getD y 0 = m then (1 : Int) else 0)).sum = ((rngI 0 v.toNat).map fun m => if r.getD x 0 = m then (fun m => if r.getD y 0 = m then (1 : Int) else 0) m else 0).sum := sum_congr fun m _ => by
    by_cases h : r.getD x 0 = m
    · rw [if_pos h, if_pos h, Int.one_mul]
    · rw [if_neg h, if_neg h, Int.zero_mul]
  rw [e2, pick_sum hxm]
  show (if r.getD y 0 = r.getD x 0 then (1 : Int) else 0) = eqI r x y
  unfold eqI
  by_cases h : r.getD x 0 = r.getD y 0
  · rw [if_pos h, if_pos h.symm]
  · rw [if_neg h, if_neg (Ne.symm h)]
def triS (r : List Int) (n : Nat) : Int := ((List.range n).map fun y => ((List.range y).map fun x => eqI r x y).sum).sum
theorem tri_sq (r : List Int) : ∀ n : Nat, ((List.range n).map fun x => ((List.range n).map fun y => eqI r x y).sum).sum = 2 * triS r n + (n : Nat)
  | 0 => by simp [triS]
  | n + 1 => by
    have ih := tri_sq r n
    have e1 : ((List.range (n + 1)).map fun x => ((List.range (n + 1)).map fun y => eqI r x y).sum).sum = ((List.range n).map fun x => ((List.range n).map fun y => eqI r x y).sum).sum + ((List.range n).map fun x => eqI r x n).sum + ((List.range n).map fun y => eqI r n y).sum + eqI r n n := by
      rw [List.range_succ, List.map_append, List.sum_append]
      have e2 : ((List.range n).map fun x => ((List.range n ++ [n]).map fun y => eqI r x y).sum).sum = ((List.range n).map fun x => ((List.range n).map fun y => eqI r x y).sum + eqI r x n).sum := sum_congr fun x _ => by
        rw [List.map_append, List.sum_append]; simp
      rw [e2, sum_add]
      simp only [List.map_cons, List.map_nil, List.sum_cons, List.sum_nil, Int.add_zero, List.map_append, List.sum_append]
      omega
    have e3 : ((List.range n).map fun y => eqI r n y).sum = ((List.range n).map fun x => eqI r x n).sum := sum_congr fun y _ => by
      unfold eqI
      by_cases h : r.getD n 0 = r.getD y 0
      · rw [if_pos h, if_pos h.symm]
      · rw [if_neg h, if_neg (Ne.symm h)]
    have e4 : eqI r n n = 1 := if_pos rfl
    have e5 : triS r (n + 1) = triS r n + ((List.range n).map fun x => eqI r x n).sum := by
      unfold triS
      rw [List.range_succ, List.map_append, List.sum_append]; simp
    rw [e1, ih, e3, e4, e5]
    omega
/-- what a row's marks tell together -/
theorem tri_eq {v : Int} {r : List Int} (hm : ∀ x ∈ r, 0 ≤ x ∧ x < v) : 2 * triS r r.length = ((rngI 0 v.toNat).map fun m => nM r m * (nM r m - 1)).sum := by
  have h1 := tri_sq r r.length
  rw [← nM_sq hm] at h1
  have h2 : ((rngI 0 v.toNat).map (nM r)).sum = (r.length : Nat) := nM_all hm
  have e : ((rngI 0 v.toNat).map fun m => nM r m * (nM r m - 1)).sum = ((rngI 0 v.toNat).map fun m => nM r m * nM r m + -1 * nM r m).sum := sum_congr fun m _ => by rw [Int.mul_sub]; omega
  rw [e, sum_add, sum_mul]
  omega
def excess (v : Int) (r : List Int) (q : Int) : Int := ((rngI 0 v.toNat).map fun m => (nM r m - q) * (nM r m - q - 1)).sum
theorem dd_nn (d : Int) : 0 ≤ d * (d - 1) := by
  rcases Int.lt_or_le 0 d with h | h
  · exact Int.mul_nonneg (by omega) (by omega)
  · exact Int.mul_nonneg_of_nonpos_of_nonpos h (by omega)
theorem dd_zero {d : Int} (h : d * (d - 1) = 0) : d = 0 ∨ d = 1 := by
  rcases Int.mul_eq_zero.mp h with h | h <;> omega
theorem sum_zero {α : Type} {f : α → Int} : ∀ {l : List α}, (∀ x ∈ l, 0 ≤ f x) → (l.map f).sum = 0 → ∀ x ∈ l, f x = 0
  | y :: l, h, hs, x, hx => by
    rw [List.map_cons, List.sum_cons] at hs
    have h0 := h y List.mem_cons_self
    have h1 := sum_nn (l := l) fun z hz => h z (List.mem_cons_of_mem _ hz)
    rcases List.mem_cons.mp hx with rfl | hx
    · omega
    · exact sum_zero (fun z hz => h z (List.mem_cons_of_mem _ hz)) (by omega) x hx
theorem excess_nn (v : Int) (r : List Int) (q : Int) : 0 ≤ excess v r q := sum_nn fun m _ => dd_nn _
/-- the least that v marks let k keys collide, twice -/
def twoL (v k : Int) : Int := (k % v) * ((k / v + 1) * (k / v)) + (v - k % v) * ((k / v) * (k / v - 1))
theorem tri_excess {v : Int} {r : List Int} (v0 : 0 < v) (hm : ∀ x ∈ r, 0 ≤ x ∧ x < v) : 2 * triS r r.length = twoL v (r.length : Nat) + excess v r (((r.length : Nat) : Int) / v) := by
  rw [tri_eq hm]
  have h2 := nM_all hm
  obtain ⟨k, hk⟩ : ∃ k : Int, k = (r.length : Nat) := ⟨_, rfl⟩
  rw [← hk] at h2 ⊢
  obtain ⟨q, hq⟩ : ∃ q : Int, q = k / v := ⟨_, rfl⟩
  obtain ⟨t, ht⟩ : ∃ t : Int, t = k % v := ⟨_, rfl⟩
  have hkq : k = v * q + t := by rw [hq, ht]; have := Int.mul_ediv_add_emod k v; omega
  unfold twoL excess
  rw [← hq, ← ht]
  have e : ((rngI 0 v.toNat).map fun m => nM r m * (nM r m - 1)).sum = ((rngI 0 v.toNat).map fun m => (nM r m - q) * (nM r m - q - 1) + (2 * q * nM r m + -(q * (q + 1)))).sum := sum_congr fun m _ => by
    generalize nM r m = n
    rw [Int.mul_sub, Int.sub_mul, Int.mul_sub, Int.mul_sub, Int.mul_sub, Int.mul_sub, Int.mul_add]
    have e1 : 2 * q * n = q * n + q * n := by rw [Int.mul_assoc]; omega
    have e2 : n * q = q * n := Int.mul_comm ..
    rw [e1, e2]; omega
  rw [e, sum_add, sum_add, sum_mul, h2, sum_const, rngI_len]
  have x5 : ((v.toNat : Nat) : Int) = v := by omega
  rw [x5, hkq]
  have y1 : 2 * q * (v * q + t) = 2 * (v * (q * q)) + 2 * (t * q) := by
    rw [Int.mul_add]
    have a1 : 2 * q * (v * q) = 2 * (v * (q * q)) := by ac_rfl
    have a2 : 2 * q * t = 2 * (t * q) := by ac_rfl
    rw [a1, a2]
  have y2 : -(q * (q + 1)) * v = -(v * (q * q)) - v * q := by
    rw [Int.neg_mul, Int.mul_add, Int.add_mul]
    have a1 : q * q * v = v * (q * q) := by ac_rfl
    have a2 : q * 1 * v = v * q := by rw [Int.mul_one]; ac_rfl
    rw [a1, a2]; omega
  have y3 : t * ((q + 1) * q) = t * (q * q) + t * q := by
    rw [Int.add_mul, Int.mul_add, Int.one_mul]
  have y4 : (v - t) * (q * (q - 1)) = v * (q * q) - v * q - t * (q * q) + t * q := by
    rw [Int.sub_mul, Int.mul_sub, Int.mul_sub, Int.mul_sub, Int.mul_one]; omega
  rw [y1, y2, y3, y4]; omega
/-- a row that deals its marks evenly -/
def dealtP (v : Int) (r : List Int) : Prop := ∀ m ∈ rngI 0 v.toNat, ∀ n ∈ rngI 0 v.toNat, nM r m - nM r n ≤ 1
theorem dealt_iff {v : Int} {r : List Int} (v0 : 0 < v) (hm : ∀ x ∈ r, 0 ≤ x ∧ x < v) : dealtP v r ↔ excess v r (((r.length : Nat) : Int) / v) = 0 := by
  have h2 := nM_all hm
  obtain ⟨k, hk⟩ : ∃ k : Int, k = (r.length : Nat) := ⟨_, rfl⟩
  rw [← hk] at h2 ⊢
  obtain ⟨q, hq⟩ : ∃ q : Int, q = k / v := ⟨_, rfl⟩
  have hq1 : v * q ≤ k := by rw [hq]; exact Int.mul_ediv_self_le (by omega)
  have hq2 : k < v * q + v := by rw [hq]; exact Int.lt_mul_ediv_self_add v0
  rw [← hq]
  have hv : ((v.toNat : Nat) : Int) = v := by omega
  constructor
  · intro hd
    have hall : ∀ m ∈ rngI 0 v.toNat, nM r m = q ∨ nM r m = q + 1 := fun m hmm => by
      have up : ∀ n ∈ rngI 0 v.toNat, nM r n ≤ nM r m + 1 := fun n hn => by have := hd n hn m hmm; omega
      have dn : ∀ n ∈ rngI 0 v.toNat, nM r m - 1 ≤ nM r n := fun n hn => by have := hd m hmm n hn; omega
      have s1 := sum_le up
      have s2 := sum_le dn
      rw [h2, sum_const, rngI_len, hv] at s1
      rw [h2, sum_const, rngI_len, hv] at s2
      -- bounds up to one
      rcases Int.lt_trichotomy (nM r m) q with h | h | h
      · -- all at most q, this one less
        exfalso
        have up2 : ∀ n ∈ rngI 0 v.toNat, nM r n ≤ q := fun n hn => by have := up n hn; omega
        have hs := sum_le (f := fun n => nM r n) (g := fun _ => q) up2
        have hz := sum_zero (f := fun n => q - nM r n) (l := rngI 0 v.toNat) (fun n hn => by have := up2 n hn; omega) (by
          have e : ((rngI 0 v.toNat).map fun n => q - nM r n).sum = ((rngI 0 v.toNat).map fun n => q + -1 * nM r n).sum := sum_congr fun n _ => by omega
          rw [e, sum_add, sum_mul, sum_const, rngI_len, hv, h2]
          rw [h2, sum_const, rngI_len, hv] at hs
          have : q * v = v * q := Int.mul_comm ..
          omega)
        have := hz m hmm
        omega
      · exact .inl h
      · rcases Int.lt_or_le (q + 1) (nM r m) with h' | h'
        · exfalso
          have : (nM r m - 1) * v ≤ k := s2
          have h3 : (q + 1) * v ≤ (nM r m - 1) * v := Int.mul_le_mul_of_nonneg_right (by omega) (by omega)
          have h4 : (q + 1) * v = v * q + v := by rw [Int.add_mul, Int.mul_comm]; omega
          omega
        · exact .inr (by omega)
    unfold excess
    rw [sum_congr (g := fun _ => (0 : Int)) (fun m hmm => by
      rcases hall m hmm with h | h
      · rw [h, Int.sub_self, Int.zero_mul]
      · rw [h, show q + 1 - q - 1 = 0 by omega, Int.mul_zero]), sum_const, Int.zero_mul]
  · intro h m hm1 n hn1
    have hz := sum_zero (f := fun m => (nM r m - q) * (nM r m - q - 1)) (fun m _ => dd_nn _) h
    have a := dd_zero (hz m hm1)
    have b := dd_zero (hz n hn1)
    omega
/-! ### all pairs of keys -/
def likeL (rows : List (List Int)) (n : Nat) : List Int := (List.range n).flatMap fun (y : Nat) => (List.range y).map fun (x : Nat) => ((cntC rows (x : Int) (y : Int) : Nat) : Int)
theorem like_sum {rows : List (List Int)} (n : Nat) : (likeL rows n).sum = (rows.map fun r => triS r n).sum := by
  unfold likeL triS
  rw [sum_flat, sum_swap (fun (r : List Int) (y : Nat) => ((List.range y).map fun x => eqI r x y).sum)]
  refine sum_congr fun y _ => ?_
  rw [sum_swap (fun (r : List Int) (x : Nat) => eqI r x y)]
  exact sum_congr fun x _ => (cntC_sum rows x y).symm
theorem like_len (rows : List (List Int)) : ∀ n : Nat, 2 * (((likeL rows n).length : Nat) : Int) = (n : Nat) * ((n : Nat) - 1)
  | 0 => by simp [likeL]
  | n + 1 => by
    have ih := like_len rows n
    have e : (likeL rows (n + 1)).length = (likeL rows n).length + n := by
      unfold likeL
      rw [List.range_succ, List.flatMap_append, List.length_append]; simp
    rw [e, Int.natCast_add, Int.mul_add, ih, Int.natCast_succ]
    generalize ((n : Nat) : Int) = z
    have : (z + 1) * (z + 1 - 1) = z * z + z := by rw [Int.add_sub_cancel, Int.add_mul]; omega
    rw [this, Int.mul_sub]; omega
theorem mem_like {rows : List (List Int)} {n : Nat} {c : Int} : c ∈ likeL rows n ↔ ∃ x y : Nat, x < y ∧ y < n ∧ c = (cntC rows (x : Int) (y : Int) : Nat) := by
  unfold likeL
  rw [List.mem_flatMap]
  constructor
  · rintro ⟨y, hy, hc⟩
    obtain ⟨x, hx, rfl⟩ := List.mem_map.mp hc
    exact ⟨x, y, List.mem_range.mp hx, List.mem_range.mp hy, rfl⟩
  · rintro ⟨x, y, h1, h2, rfl⟩
    exact ⟨y, List.mem_range.mpr h2, List.mem_map.mpr ⟨x, List.mem_range.mpr h1, rfl⟩⟩
theorem like_max {rows : List (List Int)} {k : Int} (k2 : 2 ≤ k) : ((wC rows (lotsL k 2) : Nat) : Int) ∈ likeL rows k.toNat ∧ ∀ c ∈ likeL rows k.toNat, c ≤ (wC rows (lotsL k 2) : Nat) := by
  obtain ⟨_, w2, w3⟩ := foldmax (cntL rows) (lotsL k 2) 0
  rw [show (lotsL k 2).foldl (fun m l => max m (cntL rows l)) 0 = wC rows (lotsL k 2) from rfl] at w2 w3
  have ge : ∀ c ∈ likeL rows k.toNat, c ≤ (wC rows (lotsL k 2) : Nat) := fun c hc => by
    obtain ⟨x, y, h1, h2, rfl⟩ := mem_like.mp hc
    have := w2 [(x : Int), (y : Int)] (mem_lots2.mpr ⟨_, _, rfl, by omega, by omega, by omega⟩)
    have e : cntL rows [(x : Int), (y : Int)] = cntC rows (x : Int) (y : Int) := rfl
    omega
  refine ⟨?_, ge⟩
  rcases w3 with w3 | ⟨l, hl, w3⟩
  · have hm : ((cntC rows ((0 : Nat) : Int) ((1 : Nat) : Int) : Nat) : Int) ∈ likeL rows k.toNat := mem_like.mpr ⟨0, 1, by omega, by omega, rfl⟩
    have := ge _ hm
    have e : ((cntC rows ((0 : Nat) : Int) ((1 : Nat) : Int) : Nat) : Int) = (wC rows (lotsL k 2) : Nat) := by omega
    rw [← e]; exact hm
  · obtain ⟨x, y, rfl, g0, g1, g2⟩ := mem_lots2.mp hl
    refine mem_like.mpr ⟨x.toNat, y.toNat, by omega, by omega, ?_⟩
    have e : cntL rows [x, y] = cntC rows x y := rfl
    rw [show ((x.toNat : Nat) : Int) = x by omega, show ((y.toNat : Nat) : Int) = y by omega, ← e, w3]
/-- the greatest is the least possible just if all rows deal evenly and all pairs are alike -/
theorem reach_iff {v k : Int} {rows : List (List Int)} (B : Board v k rows) (v0 : 0 < v) (k2 : 2 ≤ k) :
    ((wC rows (lotsL k 2) : Nat) : Int) * (k * (k - 1)) = twoL v k * rows.length ↔ (∀ r ∈ rows, dealtP v r) ∧ ∀ c ∈ likeL rows k.toNat, c = (wC rows (lotsL k 2) : Nat) := by
  obtain ⟨W, hW⟩ : ∃ W : Int, W = (wC rows (lotsL k 2) : Nat) := ⟨_, rfl⟩
  have hmx := (like_max (rows := rows) k2).2
  rw [← hW] at hmx ⊢
  have hk : ((k.toNat : Nat) : Int) = k := by omega
  have hlen := like_len rows k.toNat
  rw [hk] at hlen
  have hsum : 2 * (likeL rows k.toNat).sum = twoL v k * rows.length + (rows.map fun r => excess v r (k / v)).sum := by
    rw [like_sum, ← sum_mul]
    have e : (rows.map fun r => 2 * triS r k.toNat).sum = (rows.map fun r => twoL v k + excess v r (k / v)).sum := sum_congr fun r hr => by
      have := tri_excess v0 (B.mks r hr)
      rw [B.len r hr, hk] at this
      exact this
    rw [e, sum_add, sum_const]
  have hex : 0 ≤ (rows.map fun r => excess v r (k / v)).sum := sum_nn fun r _ => excess_nn _ _ _
  have hgap : ((likeL rows k.toNat).map fun c => W - c).sum = W * ((likeL rows k.toNat).length : Nat) - (likeL rows k.toNat).sum := by
    have e : ((likeL rows k.toNat).map fun c => W - c).sum = ((likeL rows k.toNat).map fun c => W + -1 * c).sum := sum_congr fun c _ => by omega
    rw [e, sum_add, sum_const, sum_mul, List.map_id']; omega
  have hgn : 0 ≤ ((likeL rows k.toNat).map fun c => W - c).sum := sum_nn fun c hc => by have := hmx c hc; omega
  have two : 2 * ((likeL rows k.toNat).map fun c => W - c).sum + (rows.map fun r => excess v r (k / v)).sum = W * (k * (k - 1)) - twoL v k * rows.length := by
    rw [hgap, ← hlen]
    have : W * (2 * ((likeL rows k.toNat).length : Nat)) = 2 * (W * ((likeL rows k.toNat).length : Nat)) := by ac_rfl
    rw [this]; omega
  have hde : ∀ r ∈ rows, (dealtP v r ↔ excess v r (k / v) = 0) := fun r hr => by
    have := dealt_iff v0 (B.mks r hr)
    rw [B.len r hr, hk] at this
    exact this
  constructor
  · intro h
    have z1 : (rows.map fun r => excess v r (k / v)).sum = 0 := by omega
    have z2 : ((likeL rows k.toNat).map fun c => W - c).sum = 0 := by omega
    refine ⟨fun r hr => (hde r hr).mpr (sum_zero (fun r _ => excess_nn _ _ _) z1 r hr), fun c hc => ?_⟩
    have := sum_zero (f := fun c => W - c) (fun c hc => by have := hmx c hc; omega) z2 c hc
    omega
  · rintro ⟨h1, h2⟩
    have z1 : (rows.map fun r => excess v r (k / v)).sum = 0 := by
      rw [sum_congr (g := fun _ => (0 : Int)) (fun r hr => (hde r hr).mp (h1 r hr)), sum_const, Int.zero_mul]
    have z2 : ((likeL rows k.toNat).map fun c => W - c).sum = 0 := by
      rw [sum_congr (g := fun _ => (0 : Int)) (fun c hc => by rw [h2 c hc]; omega), sum_const, Int.zero_mul]
    omega
theorem low_eq_iff {a b n m : Int} (hb : 0 < b) (hm : 0 < m) : lowD a b = lowD n m ↔ a * m = n * b := by
  constructor
  · intro h
    unfold lowD rowD at h
    simp only [List.map_cons, List.map_nil, PyData.tuple.injEq, List.cons.injEq, PyData.int.injEq, and_true] at h
    obtain ⟨h1, h2⟩ := h
    have e1 := low_mul_left a b
    have e2 := low_mul_right a b
    have e3 := low_mul_left n m
    have e4 := low_mul_right n m
    rw [← h1] at e3
    rw [← h2] at e4
    have l : a * m = (a / gI a b * gI a b) * (b / gI a b * gI n m) := by rw [e1, e4]
    have r : n * b = (a / gI a b * gI n m) * (b / gI a b * gI a b) := by rw [e3, e2]
    rw [l, r]
    ac_rfl
  · exact low_eq hb hm
end Pv
end
section
set_option Elab.async false
set_option linter.all false
set_option maxRecDepth 100000
/-! Pw.S: arrangements; the least that marks let keys collide. -/
namespace Pv
open PySem L2
def insAll (m : Int) (p : List Int) : List (List Int) := (List.range (p.length + 1)).map fun j => p.take j ++ [m] ++ p.drop j
def addN (L : List (List Int)) (r : List Int) : List (List Int) := if L.contains r then L else L ++ [r]
def arrS (F : List (List Int)) (m : Int) : List (List Int) := (F.flatMap (insAll m)).foldl addN []
def arrL (ms : List Int) : List (List Int) := ms.foldl arrS [[]]
theorem addN_len (L : List (List Int)) (r : List Int) : (addN L r).length ≤ L.length + 1 := by
  unfold addN; split
  · omega
  · simp
theorem addN_fold : ∀ (R L : List (List Int)), (R.foldl addN L).length ≤ L.length + R.length ∧ ∀ r ∈ R.foldl addN L, r ∈ L ∨ r ∈ R
  | [], L => ⟨by simp, fun r h => .inl h⟩
  | x :: R, L => by
    obtain ⟨h1, h2⟩ := addN_fold R (addN L x)
    have h3 := addN_len L x
    refine ⟨by rw [List.foldl_cons, List.length_cons]; omega, fun r h => ?_⟩
    rcases h2 r h with h | h
    · unfold addN at h
      split at h
      · exact .inl h
      · rcases List.mem_append.mp h with h | h
        · exact .inl h
        · rw [List.mem_singleton.mp h]; exact .inr List.mem_cons_self
    · exact .inr (List.mem_cons_of_mem _ h)
theorem insAll_mem {m : Int} {p r : List Int} (h : r ∈ insAll m p) : r.length = p.length + 1 ∧ ∀ x ∈ r, x = m ∨ x ∈ p := by
  unfold insAll at h
  obtain ⟨j, hj, rfl⟩ := List.mem_map.mp h
  have hj := List.mem_range.mp hj
  refine ⟨by simp only [List.length_append, List.length_take, List.length_drop, List.length_cons, List.length_nil]; omega, fun x hx => ?_⟩
  simp only [List.mem_append, List.mem_singleton] at hx
  rcases hx with (hx | hx) | hx
  · exact .inr (List.mem_of_mem_take hx)
  · exact .inl hx
  · exact .inr (List.mem_of_mem_drop hx)
theorem insAll_len (m : Int) (p : List Int) : (insAll m p).length = p.length + 1 := by unfold insAll; simp
def half (v : Int) (k : Nat) : Int := ((List.range k).map fun x => ((x : Nat) : Int) / v).sum
theorem half_two {v : Int} (v0 : 0 < v) : ∀ k : Nat, 2 * half v k = twoL v k
  | 0 => by
    unfold twoL half
    simp
  | k + 1 => by
    have ih := half_two v0 k
    have e : half v (k + 1) = half v k + ((k : Nat) : Int) / v := by
      unfold half
      rw [List.range_succ, List.map_append, List.sum_append]; simp
    rw [e, Int.mul_add, ih]
    obtain ⟨q, hq⟩ : ∃ q : Int, q = ((k : Nat) : Int) / v := ⟨_, rfl⟩
    obtain ⟨t, ht⟩ : ∃ t : Int, t = ((k : Nat) : Int) % v := ⟨_, rfl⟩
    have hk : ((k : Nat) : Int) = v * q + t := by rw [hq, ht]; have := Int.mul_ediv_add_emod ((k : Nat) : Int) v; omega
    have t0 : 0 ≤ t ∧ t < v := by rw [ht]; exact ⟨Int.emod_nonneg _ (by omega), Int.emod_lt_of_pos _ v0⟩
    unfold twoL
    rw [← hq, ← ht, Int.natCast_succ]
    by_cases h : t + 1 < v
    · have q1 : (((k : Nat) : Int) + 1) / v = q := by
        rw [hk, show v * q + t + 1 = v * q + (t + 1) by omega, Int.mul_add_ediv_left _ _ (by omega), Int.ediv_eq_zero_of_lt (by omega) h, Int.add_zero]
      have t1 : (((k : Nat) : Int) + 1) % v = t + 1 := by
        rw [hk, show v * q + t + 1 = v * q + (t + 1) by omega, Int.mul_add_emod_self_left, Int.emod_eq_of_lt (by omega) h]
      rw [q1, t1]
      have a1 : (t + 1) * ((q + 1) * q) = t * ((q + 1) * q) + (q + 1) * q := by rw [Int.add_mul, Int.one_mul]
      have a2 : (v - (t + 1)) * (q * (q - 1)) = (v - t) * (q * (q - 1)) - q * (q - 1) := by
        rw [show v - (t + 1) = (v - t) - 1 by omega, Int.sub_mul, Int.one_mul]
      have a3 : (q + 1) * q = q * q + q := by rw [Int.add_mul, Int.one_mul]
      have a4 : q * (q - 1) = q * q - q := by rw [Int.mul_sub, Int.mul_one]
      rw [a1, a2]
      generalize t * ((q + 1) * q) = A
      generalize (v - t) * (q * (q - 1)) = B
      rw [a3, a4]; omega
    · have tv : t = v - 1 := by omega
      have q1 : (((k : Nat) : Int) + 1) / v = q + 1 := by
        rw [hk, tv, show v * q + (v - 1) + 1 = v * (q + 1) by rw [Int.mul_add]; omega, Int.mul_ediv_cancel_left _ (by omega)]
      have t1 : (((k : Nat) : Int) + 1) % v = 0 := by
        rw [hk, tv, show v * q + (v - 1) + 1 = v * (q + 1) by rw [Int.mul_add]; omega, Int.mul_emod_right]
      rw [q1, t1, tv, Int.zero_mul, Int.zero_add, Int.sub_zero, Int.add_sub_cancel]
      have a0 : v - (v - 1) = 1 := by omega
      rw [a0, Int.one_mul]
      have a1 : (v - 1) * ((q + 1) * q) = v * ((q + 1) * q) - (q + 1) * q := by rw [Int.sub_mul, Int.one_mul]
      have a3 : (q + 1) * q = q * q + q := by rw [Int.add_mul, Int.one_mul]
      have a4 : q * (q - 1) = q * q - q := by rw [Int.mul_sub, Int.mul_one]
      rw [a1]
      generalize v * ((q + 1) * q) = A
      rw [a3, a4]; omega
theorem reach_ge {v k : Int} {rows : List (List Int)} (B : Board v k rows) (v0 : 0 < v) (k2 : 2 ≤ k) : twoL v k * rows.length ≤ ((wC rows (lotsL k 2) : Nat) : Int) * (k * (k - 1)) := by
  obtain ⟨W, hW⟩ : ∃ W : Int, W = (wC rows (lotsL k 2) : Nat) := ⟨_, rfl⟩
  have hmx := (like_max (rows := rows) k2).2
  rw [← hW] at hmx ⊢
  have hk : ((k.toNat : Nat) : Int) = k := by omega
  have hlen := like_len rows k.toNat
  rw [hk] at hlen
  have hsum : 2 * (likeL rows k.toNat).sum = twoL v k * rows.length + (rows.map fun r => excess v r (k / v)).sum := by
    rw [like_sum, ← sum_mul]
    have e : (rows.map fun r => 2 * triS r k.toNat).sum = (rows.map fun r => twoL v k + excess v r (k / v)).sum := sum_congr fun r hr => by
      have := tri_excess v0 (B.mks r hr)
      rw [B.len r hr, hk] at this
      exact this
    rw [e, sum_add, sum_const]
  have hex : 0 ≤ (rows.map fun r => excess v r (k / v)).sum := sum_nn fun r _ => excess_nn _ _ _
  have hgap : ((likeL rows k.toNat).map fun c => W - c).sum = W * ((likeL rows k.toNat).length : Nat) - (likeL rows k.toNat).sum := by
    have e : ((likeL rows k.toNat).map fun c => W - c).sum = ((likeL rows k.toNat).map fun c => W + -1 * c).sum := sum_congr fun c _ => by omega
    rw [e, sum_add, sum_const, sum_mul, List.map_id']; omega
  have hgn : 0 ≤ ((likeL rows k.toNat).map fun c => W - c).sum := sum_nn fun c hc => by have := hmx c hc; omega
  have : W * (2 * ((likeL rows k.toNat).length : Nat)) = 2 * (W * ((likeL rows k.toNat).length : Nat)) := by ac_rfl
  rw [← hlen, this]; omega
def mxI (l : List Int) : Int := l.foldl (fun m c => if c > m then c else m) 0
theorem mx_ok : ∀ (l : List Int) (m : Int), m ≤ l.foldl (fun m c => if c > m then c else m) m ∧ (∀ c ∈ l, c ≤ l.foldl (fun m c => if c > m then c else m) m) ∧ (l.foldl (fun m c => if c > m then c else m) m = m ∨ l.foldl (fun m c => if c > m then c else m) m ∈ l)
  | [], m => ⟨Int.le_refl _, fun c h => (nomatch h), .inl rfl⟩
  | x :: l, m => by
    obtain ⟨h1, h2, h3⟩ := mx_ok l (if x > m then x else m)
    rw [List.foldl_cons]
    generalize l.foldl (fun m c => if c > m then c else m) (if x > m then x else m) = F at *
    obtain ⟨z, hz⟩ : ∃ z : Int, z = if x > m then x else m := ⟨_, rfl⟩
    rw [← hz] at h1 h3
    have hzx : x ≤ z ∧ m ≤ z ∧ (z = m ∨ z = x) := by rw [hz]; split <;> omega
    refine ⟨by omega, fun c hc => ?_, ?_⟩
    · rcases List.mem_cons.mp hc with rfl | hc
      · omega
      · exact h2 c hc
    · rcases h3 with h3 | h3
      · rcases hzx.2.2 with h | h
        · exact .inl (by omega)
        · rw [h3, h]; exact .inr List.mem_cons_self
      · exact .inr (List.mem_cons_of_mem _ h3)
theorem mx_wC {rows : List (List Int)} {k : Int} (k2 : 2 ≤ k) : mxI (likeL rows k.toNat) = (wC rows (lotsL k 2) : Nat) := by
  obtain ⟨h1, h2⟩ := like_max (rows := rows) k2
  obtain ⟨a, b, c⟩ := mx_ok (likeL rows k.toNat) 0
  rw [show (likeL rows k.toNat).foldl (fun m c => if c > m then c else m) 0 = mxI (likeL rows k.toNat) from rfl] at a b c
  have u := b _ h1
  rcases c with c | c
  · omega
  · have := h2 _ c
    omega
end Pv
end
section
set_option Elab.async false
set_option linter.all false
set_option maxRecDepth 100000
/-! Pw.T: tallies of patterns. -/
namespace Pv
open PySem L2
def addT (T : List (List Int × Int)) (p : List Int) : List (List Int × Int) := if (T.any fun q => decide (q.1 = p)) = true then T.map (fun q => if q.1 = p then (q.1, q.2 + 1) else q) else T ++ [(p, 1)]
def tD (T : List (List Int × Int)) : Dt := .dict (T.map fun q => (rowD q.1, .int q.2))
def cntT (T : List (List Int × Int)) (p : List Int) : Int := match T.find? (fun q => decide (q.1 = p)) with
  | some q => q.2
  | none => 0
theorem keys_ints : ∀ l : List Int, keysD (l.map .int) = some (l.map Sum.inl)
  | [] => rfl
  | x :: l => by simp only [List.map_cons, keysD, keyD, keys_ints l]
theorem inl_inj : ∀ {a b : List Int}, a.map (Sum.inl : Int → Key) = b.map Sum.inl ↔ a = b
  | [], [] => by simp
  | [], _ :: _ => by simp
  | _ :: _, [] => by simp
  | x :: a, y :: b => by
    simp only [List.map_cons, List.cons.injEq, inl_inj (a := a) (b := b), Sum.inl.injEq]
theorem get_T (T : List (List Int × Int)) (p : List Int) : getD false (T.map fun q : List Int × Int => (rowD q.1, PyData.int q.2)) (rowD p) = some ((T.find? fun q => decide (q.1 = p)).map fun q => .int q.2) := by
  have e : getD false (T.map fun q : List Int × Int => (rowD q.1, PyData.int q.2)) (rowD p) = getT (T.map fun q : List Int × Int => (rowD q.1, PyData.int q.2)) (p.map Sum.inl) := by
    show (if false = true then none else match keysD (p.map .int) with
      | some j => getT (T.map fun q : List Int × Int => (rowD q.1, PyData.int q.2)) j
      | none => none) = _
    rw [if_neg (by decide), keys_ints]
  rw [e]
  induction T with
  | nil => rfl
  | cons q T ih =>
    rw [List.map_cons, List.find?_cons]
    show (match keysD (q.1.map .int) with
      | some j => if j = p.map Sum.inl then some (some (PyData.int q.2)) else getT (T.map fun q : List Int × Int => (rowD q.1, PyData.int q.2)) (p.map Sum.inl)
      | none => none) = _
    rw [keys_ints]
    by_cases h : q.1 = p
    · simp only [inl_inj, h, if_true, decide_true, Option.map_some]
    · simp only [inl_inj, h, if_false, decide_false]
      exact ih (by
        show (if false = true then none else match keysD (p.map .int) with
          | some j => getT (T.map fun q : List Int × Int => (rowD q.1, PyData.int q.2)) j
          | none => none) = _
        rw [if_neg (by decide), keys_ints])
theorem gett (T : List (List Int × Int)) (p : List Int) : mtD false .get (tD T) [rowD p, .int 0] = some (.int (cntT T p)) := by
  show (getD false (T.map fun q : List Int × Int => (rowD q.1, PyData.int q.2)) (rowD p)).map (fun o => o.getD (.int 0)) = _
  rw [get_T]
  unfold cntT
  cases T.find? fun q => decide (q.1 = p) <;> rfl
theorem cnt_addT {T : List (List Int × Int)} (nd : (T.map (·.1)).Nodup) (p : List Int) : ∀ q ∈ T, q.1 = p → q.2 = cntT T p := by
  intro q hq e
  unfold cntT
  induction T with
  | nil => cases hq
  | cons a T ih =>
    obtain ⟨n1, n2⟩ := List.nodup_cons.mp nd
    rw [List.find?_cons]
    by_cases h : a.1 = p
    · rw [decide_eq_true h]
      rcases List.mem_cons.mp hq with rfl | hq
      · rfl
      · exact absurd (List.mem_map.mpr ⟨q, hq, e.trans h.symm⟩) n1
    · rw [decide_eq_false h]
      rcases List.mem_cons.mp hq with rfl | hq
      · exact absurd e h
      · exact ih n2 hq
theorem put_T {T : List (List Int × Int)} (nd : (T.map (·.1)).Nodup) (p : List Int) (hl : T.length < line) : storeD false (tD T) (rowD p) (.int (cntT T p + 1)) = some (tD (addT T p)) := by
  have hg := get_T T p
  show (match getD false (T.map fun q : List Int × Int => (rowD q.1, PyData.int q.2)) (rowD p) with
    | some _ => if (T.map fun q : List Int × Int => (rowD q.1, PyData.int q.2)).length < line then some (PyData.dict (putD (T.map fun q : List Int × Int => (rowD q.1, PyData.int q.2)) (rowD p) (.int (cntT T p + 1)))) else none
    | none => none) = _
  rw [hg]
  simp only []
  rw [if_pos (by rw [List.length_map]; exact hl)]
  congr 1
  unfold tD
  congr 1
  unfold putD addT
  have ev : ∀ q : List Int × Int, PyData.eqv (rowD q.1) (rowD p) = decide (q.1 = p) := fun q => eqv_row q.1 p
  have ha : ((T.map fun q : List Int × Int => (rowD q.1, PyData.int q.2)).any fun x => PyData.eqv x.1 (rowD p)) = T.any fun q => decide (q.1 = p) := by
    rw [List.any_map]
    congr 1
    funext q
    exact ev q
  rw [ha]
  by_cases h : (T.any fun q => decide (q.1 = p)) = true
  · rw [if_pos h, if_pos h, List.map_map, List.map_map]
    refine List.map_congr_left fun q hq => ?_
    show (if PyData.eqv (rowD q.1) (rowD p) = true then (rowD q.1, PyData.int (cntT T p + 1)) else (rowD q.1, PyData.int q.2)) = (fun z : List Int × Int => (rowD z.1, PyData.int z.2)) (if q.1 = p then (q.1, q.2 + 1) else q)
    rw [ev]
    by_cases e : q.1 = p
    · rw [if_pos (decide_eq_true e), if_pos e, cnt_addT nd p q hq e]
    · rw [if_neg (by rw [decide_eq_false e]; decide), if_neg e]
  · rw [if_neg h, if_neg h, List.map_append]
    have : cntT T p = 0 := by
      unfold cntT
      have : T.find? (fun q => decide (q.1 = p)) = none := by
        rw [List.find?_eq_none]
        intro q hq hh
        exact h (List.any_eq_true.mpr ⟨q, hq, hh⟩)
      rw [this]
    rw [this]; rfl
theorem addT_keys {T : List (List Int × Int)} {p : List Int} (nd : (T.map (·.1)).Nodup) : ((addT T p).map (·.1)).Nodup ∧ (∀ q ∈ (addT T p).map (·.1), q = p ∨ q ∈ T.map (·.1)) ∧ (addT T p).length ≤ T.length + 1 ∧ addT T p ≠ [] := by
  unfold addT
  by_cases h : (T.any fun q => decide (q.1 = p)) = true
  · rw [if_pos h, List.map_map]
    have e : (T.map ((fun x => x.1) ∘ fun q : List Int × Int => if q.1 = p then (q.1, q.2 + 1) else q)) = T.map (·.1) := by
      refine List.map_congr_left fun q _ => ?_
      show (if q.1 = p then (q.1, q.2 + 1) else q).1 = q.1
      split <;> rfl
    rw [e]
    refine ⟨nd, fun q hq => .inr hq, by rw [List.length_map]; omega, fun z => ?_⟩
    have : T = [] := List.map_eq_nil_iff.mp z
    subst this
    simp at h
  · rw [if_neg h, List.map_append]
    refine ⟨?_, fun q hq => ?_, by simp, by simp⟩
    · rw [List.nodup_append]
      refine ⟨nd, by simp, fun a ha b hb e => ?_⟩
      simp at hb
      subst hb
      obtain ⟨q, hq, rfl⟩ := List.mem_map.mp ha
      exact h (List.any_eq_true.mpr ⟨q, hq, by simp [e]⟩)
    · rcases List.mem_append.mp hq with hq | hq
      · exact .inr hq
      · simp at hq; exact .inl hq
theorem addT_sum (g : List Int → Int) {p : List Int} : ∀ {T : List (List Int × Int)}, (T.map (·.1)).Nodup → ((addT T p).map fun q => g q.1 * q.2).sum = (T.map fun q => g q.1 * q.2).sum + g p := by
  intro T nd
  have up : ∀ {T : List (List Int × Int)}, (T.map (·.1)).Nodup → ((T.map fun q => if q.1 = p then (q.1, q.2 + 1) else q).map fun q => g q.1 * q.2).sum = (T.map fun q => g q.1 * q.2).sum + if (T.any fun q => decide (q.1 = p)) = true then g p else 0 := fun {T} nd => by
    induction T with
    | nil => simp
    | cons a T ih =>
      obtain ⟨n1, n2⟩ := List.nodup_cons.mp nd
      rw [List.map_cons, List.map_cons, List.sum_cons, List.map_cons, List.sum_cons, ih n2]
      by_cases h : a.1 = p
      · have hno : ¬ (T.any fun q => decide (q.1 = p)) = true := by
          intro z
          obtain ⟨q, hq, hh⟩ := List.any_eq_true.mp z
          exact n1 (List.mem_map.mpr ⟨q, hq, (of_decide_eq_true hh).trans h.symm⟩)
        have hy : ((a :: T).any fun q => decide (q.1 = p)) = true := by
          rw [List.any_cons, decide_eq_true h, Bool.true_or]
        rw [if_pos h, if_neg hno, if_pos hy]
        show g a.1 * (a.2 + 1) + _ = _
        rw [h, Int.mul_add]; omega
      · have hy : ((a :: T).any fun q => decide (q.1 = p)) = (T.any fun q => decide (q.1 = p)) := by
          rw [List.any_cons, decide_eq_false h, Bool.false_or]
        rw [if_neg h]
        by_cases hz : (T.any fun q => decide (q.1 = p)) = true
        · rw [if_pos hz, if_pos (hy.trans hz)]; omega
        · rw [if_neg hz, if_neg (fun w => hz (hy.symm.trans w))]; omega
  unfold addT
  by_cases h : (T.any fun q => decide (q.1 = p)) = true
  · rw [if_pos h, up nd, if_pos h]
  · rw [if_neg h, List.map_append, List.sum_append]
    simp
def tallyL (rows : List (List Int)) (lot : List Int) : List (List Int × Int) := (rows.map fun r => marksL r lot).foldl addT []
theorem tally_ok (ps : List (List Int)) (g : List Int → Int) : ∀ T : List (List Int × Int), (T.map (·.1)).Nodup → ((ps.foldl addT T).map (·.1)).Nodup ∧ (∀ q ∈ (ps.foldl addT T).map (·.1), q ∈ ps ∨ q ∈ T.map (·.1)) ∧ (ps.foldl addT T).length ≤ T.length + ps.length ∧ ((ps.foldl addT T).map fun q => g q.1 * q.2).sum = (T.map fun q => g q.1 * q.2).sum + (ps.map g).sum ∧ (ps ≠ [] → ps.foldl addT T ≠ []) := by
  induction ps with
  | nil => intro T nd; exact ⟨nd, fun q hq => .inr hq, by simp, by simp, fun z => absurd rfl z⟩
  | cons p ps ih =>
    intro T nd
    obtain ⟨a1, a2, a3, a4⟩ := addT_keys (p := p) nd
    obtain ⟨b1, b2, b3, b4, b5⟩ := ih (addT T p) a1
    rw [List.foldl_cons]
    refine ⟨b1, fun q hq => ?_, by rw [List.length_cons]; omega, ?_, fun _ => ?_⟩
    · rcases b2 q hq with h | h
      · exact .inl (List.mem_cons_of_mem _ h)
      · rcases a2 q h with rfl | h
        · exact .inl List.mem_cons_self
        · exact .inr h
    · rw [b4, addT_sum g nd, List.map_cons, List.sum_cons]; omega
    · cases ps with
      | nil => exact a4
      | cons x xs => exact b5 (by simp)
/-! ### all patterns -/
def allP (v : Int) : Nat → List (List Int)
  | 0 => [[]]
  | s + 1 => (allP v s).flatMap fun p => (rngI 0 v.toNat).map fun x => p ++ [x]
theorem mem_allP {v : Int} : ∀ {s : Nat} {p : List Int}, p.length = s → (∀ x ∈ p, 0 ≤ x ∧ x < v) → p ∈ allP v s
  | 0, p, h, _ => by rw [List.length_eq_zero_iff.mp h]; simp [allP]
  | s + 1, p, h, hb => by
    rcases List.eq_nil_or_concat p with rfl | ⟨q, x, rfl⟩
    · simp at h
    · rw [List.concat_eq_append] at h hb ⊢
      refine List.mem_flatMap.mpr ⟨q, mem_allP (by simpa using h) (fun y hy => hb y (by simp [hy])), List.mem_map.mpr ⟨x, ?_, rfl⟩⟩
      have := hb x (by simp)
      exact mem_rngI.mpr (by omega)
theorem allP_mem {v : Int} : ∀ {s : Nat} {p : List Int}, p ∈ allP v s → p.length = s ∧ ∀ x ∈ p, 0 ≤ x ∧ x < v
  | 0, p, h => by simp [allP] at h; subst h; exact ⟨rfl, fun x hx => (nomatch hx)⟩
  | s + 1, p, h => by
    obtain ⟨q, hq, hp⟩ := List.mem_flatMap.mp h
    obtain ⟨x, hx, rfl⟩ := List.mem_map.mp hp
    obtain ⟨h1, h2⟩ := allP_mem hq
    have hx := mem_rngI.mp hx
    refine ⟨by rw [List.length_append, h1]; rfl, fun y hy => ?_⟩
    rcases List.mem_append.mp hy with hy | hy
    · exact h2 y hy
    · rw [List.mem_singleton.mp hy]; omega
theorem allP_len {v : Int} (v0 : 0 ≤ v) : ∀ s : Nat, (((allP v s).length : Nat) : Int) = v ^ s
  | 0 => by rw [Int.pow_zero]; rfl
  | s + 1 => by
    rw [Int.pow_succ, ← allP_len v0 s]
    show (((allP v s).flatMap fun p => (rngI 0 v.toNat).map fun x => p ++ [x]).length : Int) = _
    have : ∀ L : List (List Int), (((L.flatMap fun p => (rngI 0 v.toNat).map fun x => p ++ [x]).length : Nat) : Int) = (L.length : Nat) * v := fun L => by
      induction L with
      | nil => simp
      | cons p L ih =>
        rw [List.flatMap_cons, List.length_append, List.length_map, rngI_len, List.length_cons, Int.natCast_add, ih, Int.natCast_succ, Int.add_mul]; omega
    exact this _
def fallI (v : Int) : Nat → Int
  | 0 => 1
  | s + 1 => fallI v s * (if (0 : Int) > v - (s : Nat) then 0 else v - (s : Nat))
theorem cnt_free {v : Int} (v0 : 0 ≤ v) {p : List Int} (nd : p.Nodup) (hb : ∀ x ∈ p, 0 ≤ x ∧ x < v) : ((rngI 0 v.toNat).map fun x => if p.contains x then (0 : Int) else 1).sum = v - (p.length : Nat) := by
  have h1 : ((rngI 0 v.toNat).map fun x => if p.contains x then (0 : Int) else 1).sum = ((rngI 0 v.toNat).map fun x => 1 + -1 * (if p.contains x then (1 : Int) else 0)).sum := sum_congr fun x _ => by split <;> rfl
  rw [h1, sum_add, sum_mul, sum_const, rngI_len]
  have h2 : ((rngI 0 v.toNat).map fun x => if p.contains x then (1 : Int) else 0).sum = (p.length : Nat) := by
    have : ∀ {p : List Int}, p.Nodup → (∀ x ∈ p, 0 ≤ x ∧ x < v) → ((rngI 0 v.toNat).map fun x => if p.contains x then (1 : Int) else 0).sum = (p.length : Nat) := fun {p} => by
      induction p with
      | nil =>
        intro _ _
        rw [sum_congr (f := fun x => if ([] : List Int).contains x = true then (1 : Int) else 0) (g := fun _ => (0 : Int)) (fun x _ => rfl), sum_const]; simp
      | cons a p ih =>
        intro nd hb
        obtain ⟨n1, n2⟩ := List.nodup_cons.mp nd
        have e : ((rngI 0 v.toNat).map fun x => if (a :: p).contains x then (1 : Int) else 0).sum = ((rngI 0 v.toNat).map fun x => (if a = x then (1 : Int) else 0) + if p.contains x then (1 : Int) else 0).sum := sum_congr fun x _ => by
          by_cases h : a = x
          · subst h
            have : p.contains a = false := by simpa using n1
            rw [if_pos (by simp), if_pos rfl, this]; rfl
          · have : (a :: p).contains x = p.contains x := by
              rw [List.contains_cons]
              have : (x == a) = false := by rw [beq_eq_false_iff_ne]; exact Ne.symm h
              rw [this, Bool.false_or]
            rw [this, if_neg h]; omega
        rw [e, sum_add, ih n2 fun x hx => hb x (List.mem_cons_of_mem _ hx), pick_sum (hb a List.mem_cons_self) fun _ => 1, List.length_cons]; omega
    exact this nd hb
  rw [h2]; omega
def gN (p : List Int) : Int := if p.Nodup then 1 else 0
theorem sum_nodup {v : Int} (v0 : 0 ≤ v) : ∀ s : Nat, ((allP v s).map gN).sum = fallI v s
  | 0 => by simp [allP, gN, fallI]
  | s + 1 => by
    show (((allP v s).flatMap fun p => (rngI 0 v.toNat).map fun x => p ++ [x]).map gN).sum = _
    rw [List.map_flatMap, sum_flat]
    have e : ∀ p ∈ allP v s, (((rngI 0 v.toNat).map fun x => p ++ [x]).map gN).sum = (if (0 : Int) > v - (s : Nat) then 0 else v - (s : Nat)) * gN p := fun p hp => by
      obtain ⟨h1, h2⟩ := allP_mem hp
      rw [List.map_map]
      have e1 : ((rngI 0 v.toNat).map (gN ∘ fun x => p ++ [x])).sum = ((rngI 0 v.toNat).map fun x => gN p * (if p.contains x then (0 : Int) else 1)).sum := sum_congr fun x _ => by
        show gN (p ++ [x]) = _
        unfold gN
        by_cases hn : p.Nodup
        · by_cases hx : p.contains x = true
          · rw [if_pos hn, if_pos hx, if_neg]; rfl
            intro hh
            rw [List.nodup_append] at hh
            exact hh.2.2 x (by simpa using hx) x (by simp) rfl
          · rw [if_pos hn, if_neg hx, if_pos]; rfl
            rw [List.nodup_append]
            refine ⟨hn, by simp, fun a ha b hb e => ?_⟩
            simp at hb
            subst hb e
            exact hx (by simpa using ha)
        · rw [if_neg hn, if_neg, Int.zero_mul]
          intro hh
          exact hn (List.nodup_append.mp hh).1
      rw [e1, sum_mul]
      by_cases hn : p.Nodup
      · rw [cnt_free v0 hn h2, h1]
        have hle : (s : Int) ≤ v := by
          have := nodup_sub_len hn (b := rngI 0 v.toNat) fun x hx => mem_rngI.mpr (by have := h2 x hx; omega)
          rw [rngI_len, h1] at this
          omega
        rw [if_neg (by omega), Int.mul_comm]
      · have : gN p = 0 := if_neg hn
        rw [this, Int.zero_mul, Int.mul_zero]
    rw [sum_congr e, sum_mul, sum_nodup v0 s, fallI, Int.mul_comm]
theorem nodup_sub {α : Type} [DecidableEq α] : ∀ {a b : List α}, a.Nodup → (∀ x ∈ a, x ∈ b) → a.length ≤ b.length
  | [], _, _, _ => Nat.zero_le _
  | x :: a, b, nd, h => by
    obtain ⟨n1, n2⟩ := List.nodup_cons.mp nd
    have hx := h x List.mem_cons_self
    have ih := nodup_sub (a := a) (b := b.erase x) n2 fun y hy => by
      have : y ≠ x := fun z => n1 (z ▸ hy)
      exact (List.mem_erase_of_ne this).mpr (h y (List.mem_cons_of_mem _ hy))
    rw [List.length_erase_of_mem hx] at ih
    have := List.length_pos_of_mem hx
    rw [List.length_cons]; omega
theorem sub_perm {α : Type} [DecidableEq α] : ∀ {a b : List α}, a.Nodup → (∀ x ∈ a, x ∈ b) → a.length = b.length → a.Perm b
  | [], b, _, _, hl => by rw [List.length_eq_zero_iff.mp hl.symm]
  | x :: a, b, nd, h, hl => by
    obtain ⟨n1, n2⟩ := List.nodup_cons.mp nd
    have hx := h x List.mem_cons_self
    have ih := sub_perm (a := a) (b := b.erase x) n2 (fun y hy => by
      have : y ≠ x := fun z => n1 (z ▸ hy)
      exact (List.mem_erase_of_ne this).mpr (h y (List.mem_cons_of_mem _ hy))) (by
      rw [List.length_erase_of_mem hx]
      rw [List.length_cons] at hl
      omega)
    exact (ih.cons x).trans (List.perm_cons_erase hx).symm
/-- where all patterns come alike often, so many rows tell a lot's keys apart -/
theorem even_tells {v : Int} (v0 : 0 ≤ v) {s : Nat} {ps : List (List Int)} {n : Int} (hp : ∀ p ∈ ps, p.length = s ∧ ∀ x ∈ p, 0 ≤ x ∧ x < v) (hl : (((ps.foldl addT []).length : Nat) : Int) = v ^ s) (hn : ∀ q ∈ ps.foldl addT [], q.2 = n) :
    (ps.map gN).sum = n * fallI v s ∧ ((ps.length : Nat) : Int) = n * v ^ s := by
  obtain ⟨a1, a2, a3, a4, a5⟩ := tally_ok ps gN [] List.nodup_nil
  obtain ⟨_, _, _, b4, _⟩ := tally_ok ps (fun _ => 1) [] List.nodup_nil
  obtain ⟨T, hT⟩ : ∃ T, T = ps.foldl addT [] := ⟨_, rfl⟩
  rw [← hT] at a1 a2 a3 a4 b4 hl hn
  have hperm : (T.map (·.1)).Perm (allP v s) := sub_perm a1 (fun q hq => by
    rcases a2 q hq with h | h
    · obtain ⟨h1, h2⟩ := hp q h
      exact mem_allP h1 h2
    · simp at h) (by
    have := allP_len v0 s
    rw [List.length_map]; omega)
  have e1 : (T.map fun q => gN q.1 * q.2).sum = n * ((T.map (·.1)).map gN).sum := by
    rw [List.map_map, ← sum_mul]
    exact sum_congr fun q hq => by rw [hn q hq, Int.mul_comm]; rfl
  have e2 : (T.map fun q => 1 * q.2).sum = n * (T.length : Nat) := by
    rw [sum_congr (g := fun _ => n) (fun q hq => by rw [hn q hq, Int.one_mul]), sum_const]
  have e3 := perm_sum (hperm.map gN)
  refine ⟨?_, ?_⟩
  · simp only [List.map_nil, List.sum_nil, Int.zero_add] at a4
    rw [← a4, e1, e3, sum_nodup v0 s]
  · simp only [List.map_nil, List.sum_nil, Int.zero_add] at b4
    rw [sum_const, Int.one_mul] at b4
    rw [← b4, e2, hl]
end Pv
end
section
set_option Elab.async false
set_option linter.all false
set_option maxRecDepth 100000
/-! Pw.U: the spring from which a law draws. -/
namespace Pv
open PySem L2
def SpD (l s m : Int) : Dt := .list [.int l, .int s, .int m]
def Spr (c : Dt) (M : Nat) : Prop := ∃ l s m : Int, c = SpD l s m ∧ 0 ≤ l ∧ 0 ≤ s ∧ s < 2 ^ 40 ∧ 0 ≤ m ∧ m ≤ (M : Int)
theorem Spr.mono {c : Dt} {M N : Nat} (h : Spr c M) (e : M ≤ N) : Spr c N := by
  obtain ⟨l, s, m, rfl, h1, h2, h3, h4, h5⟩ := h
  exact ⟨l, s, m, rfl, h1, h2, h3, h4, by omega⟩
theorem sp_0 (kt : Bool) (l s m : Int) : ixD kt (SpD l s m) (.int 0) = some (.int l) := rfl
theorem sp_1 (kt : Bool) (l s m : Int) : ixD kt (SpD l s m) (.int 1) = some (.int s) := rfl
theorem sp_2 (kt : Bool) (l s m : Int) : ixD kt (SpD l s m) (.int 2) = some (.int m) := rfl
theorem sps_0 (kt : Bool) (l s m x : Int) : storeD kt (SpD l s m) (.int 0) (.int x) = some (SpD x s m) := rfl
theorem sps_1 (kt : Bool) (l s m x : Int) : storeD kt (SpD l s m) (.int 1) (.int x) = some (SpD l x m) := rfl
theorem sps_2 (kt : Bool) (l s m x : Int) : storeD kt (SpD l s m) (.int 2) (.int x) = some (SpD l s x) := rfl
theorem bt_divmod {i j : Int} (h : 0 < j) (h' : j < 1073741824) : btD .divmod [.int i, .int j] = some (.tuple [.int (i / j), .int (i % j)]) := by
  show (if _ then _ else _) = _
  rw [if_pos ⟨h, h'⟩]
/-- [x for x in range(k) if ..draw..] -/
theorem part_core {g : Dt → Dt → Option (List Dt × Dt)} {I : Nat → Dt → Prop} (a : Int) : ∀ (n : Nat) (i : Nat) {c : Dt}, (∀ j c, i ≤ j → j < i + n → I j c → ∃ (b : Bool) (c' : Dt), g (.int (a + (j : Nat))) c = some (if b = true then [.int (a + (j : Nat))] else [], c') ∧ I (j + 1) c') → I i c →
    ∃ (l : List Int) (c' : Dt), compGo g (rngD (a + (i : Nat), n)) c = some (l.map .int, c') ∧ (∀ x ∈ l, a + (i : Nat) ≤ x ∧ x < a + (i : Nat) + (n : Nat)) ∧ Asc l ∧ l.length ≤ n ∧ I (i + n) c'
  | 0, i, c, _, h0 => ⟨[], c, rfl, fun x hx => (nomatch hx), .nil, Nat.le_refl _, h0⟩
  | n + 1, i, c, h, h0 => by
    obtain ⟨b, c1, e1, i1⟩ := h i c (Nat.le_refl _) (by omega) h0
    obtain ⟨l, c2, e2, l1, l2, l3, i2⟩ := part_core a n (i + 1) (c := c1) (fun j c hj hj2 hI => h j c (by omega) (by omega) hI) i1
    have er : rngD (a + (i : Nat), n + 1) = .int (a + (i : Nat)) :: rngD (a + ((i + 1 : Nat) : Nat), n) := by
      unfold rngD
      rw [List.range_succ_eq_map, List.map_cons, List.map_map]
      have e0 : a + (i : Int) + ((0 : Nat) : Int) = a + (i : Int) := by omega
      rw [e0]
      refine congrArg (List.cons _) (List.map_congr_left fun x _ => ?_)
      show PyData.int (a + (i : Int) + ((x + 1 : Nat) : Int)) = PyData.int (a + ((i + 1 : Nat) : Int) + (x : Int))
      congr 1
      omega
    have e3 : i + 1 + n = i + (n + 1) := by omega
    rw [e3] at i2
    rw [er]
    cases b with
    | true =>
      refine ⟨(a + (i : Nat)) :: l, c2, ?_, fun x hx => ?_, ?_, by rw [List.length_cons]; omega, i2⟩
      · simp only [compGo, e1, e2, if_true, List.map_cons]; rfl
      · rcases List.mem_cons.mp hx with rfl | hx
        · omega
        · have := l1 x hx; omega
      · exact List.pairwise_cons.mpr ⟨fun y hy => by have := l1 y hy; omega, l2⟩
    | false =>
      refine ⟨l, c2, ?_, fun x hx => by have := l1 x hx; omega, l2, by omega, i2⟩
      simp only [compGo, e1, e2, Bool.false_eq_true, if_false]; rfl
theorem part_run {g : Dt → Dt → Option (List Dt × Dt)} {c : Dt} {r : Option (List Dt × Dt)} {n : Nat} (I : Nat → Dt → Prop) (hr : compGo g (rngD (0, n)) c = r) (h0 : I 0 c) (h : ∀ j c, j < n → I j c → ∃ (b : Bool) (c' : Dt), g (.int (0 + (j : Nat))) c = some (if b = true then [.int (0 + (j : Nat))] else [], c') ∧ I (j + 1) c') :
    ∃ (l : List Int) (c' : Dt), r = some (l.map .int, c') ∧ LotOk (n : Nat) l ∧ Asc l ∧ l.length ≤ n ∧ I n c' := by
  obtain ⟨l, c', e, l1, l2, l3, i⟩ := part_core (g := g) (I := I) 0 n 0 (c := c) (fun j c _ hj hI => h j c (by omega) hI) h0
  rw [Nat.zero_add] at i
  refine ⟨l, c', ?_, fun x hx => by have := l1 x hx; omega, l2, l3, i⟩
  rw [← hr]
  exact e
theorem zipD_ints : ∀ a b : List Int, zipD (a.map .int) (b.map .int) = (a.zip b).map fun p => .tuple [.int p.1, .int p.2]
  | [], b => by cases b <;> rfl
  | x :: a, [] => rfl
  | x :: a, y :: b => by
    rw [List.map_cons, List.map_cons, zipD, zipD_ints a b]; rfl
theorem allP_step (v : Int) (s : Nat) : allP v (s + 1) = (allP v s).flatMap fun p => (rngI 0 v.toNat).map fun x => p ++ [x] := rfl
theorem allP_ne {v : Int} (v1 : 1 ≤ v) : ∀ s : Nat, allP v s ≠ []
  | 0 => by simp [allP]
  | s + 1 => by
    intro h
    have := allP_len (v := v) (by omega) (s + 1)
    rw [h] at this
    have hp : 0 < v ^ (s + 1) := Int.pow_pos (by omega)
    simp at this
    omega
theorem ext_lots {L m : List (List Int)} (h : L.length + m.length ≤ line) : extD (.list (m.map rowD)) (lotsD L) = some (lotsD (L ++ m)) := by
  show (if (L.map rowD).length + (m.map rowD).length ≤ line then _ else _) = _
  rw [List.length_map, List.length_map, if_pos h, ← List.map_append]; rfl
end Pv
end
section
set_option Elab.async false
set_option linter.all false
set_option maxRecDepth 100000
/-! Pw.V: tallies read; leans by own pairs. -/
namespace Pv
open PySem L2
theorem addT_pos {T : List (List Int × Int)} {p : List Int} (h : ∀ q ∈ T, 1 ≤ q.2) : ∀ q ∈ addT T p, 1 ≤ q.2 := by
  intro q hq
  unfold addT at hq
  split at hq
  · obtain ⟨r, hr, rfl⟩ := List.mem_map.mp hq
    have := h r hr
    split
    · show 1 ≤ r.2 + 1; omega
    · exact this
  · rcases List.mem_append.mp hq with hq | hq
    · exact h q hq
    · rw [List.mem_singleton.mp hq]; exact Int.le_refl 1
theorem tally_pos (ps : List (List Int)) : ∀ T : List (List Int × Int), (∀ q ∈ T, 1 ≤ q.2) → ∀ q ∈ ps.foldl addT T, 1 ≤ q.2 := by
  induction ps with
  | nil => intro T h; exact h
  | cons p ps ih => intro T h; rw [List.foldl_cons]; exact ih _ (addT_pos h)
theorem tally_le {T : List (List Int × Int)} (h : ∀ q ∈ T, 1 ≤ q.2) : ∀ q ∈ T, q.2 ≤ (T.map fun q => 1 * q.2).sum := by
  induction T with
  | nil => intro q hq; cases hq
  | cons a T ih =>
    intro q hq
    rw [List.map_cons, List.sum_cons]
    have hn : 0 ≤ (T.map fun q => 1 * q.2).sum := sum_nn fun x hx => by have := h x (List.mem_cons_of_mem _ hx); omega
    rcases List.mem_cons.mp hq with rfl | hq
    · omega
    · have := ih (fun x hx => h x (List.mem_cons_of_mem _ hx)) q hq
      have := h a List.mem_cons_self
      omega
/-- what a tally of patterns is -/
structure TallyOk (ps : List (List Int)) (T : List (List Int × Int)) : Prop where
  nd : (T.map (·.1)).Nodup
  sub : ∀ q ∈ T, q.1 ∈ ps
  few : T.length ≤ ps.length
  pos : ∀ q ∈ T, 1 ≤ q.2
  le : ∀ q ∈ T, q.2 ≤ (ps.length : Nat)
  sum : ∀ g : List Int → Int, (T.map fun q => g q.1 * q.2).sum = (ps.map g).sum
theorem tally_is (ps : List (List Int)) : TallyOk ps (ps.foldl addT []) := by
  obtain ⟨a1, a2, a3, a4, a5⟩ := tally_ok ps (fun _ => 1) [] List.nodup_nil
  have hp := tally_pos ps [] (fun q hq => (nomatch hq))
  refine ⟨a1, fun q hq => ?_, by simpa using a3, hp, fun q hq => ?_, fun g => ?_⟩
  · rcases a2 q.1 (List.mem_map.mpr ⟨q, hq, rfl⟩) with h | h
    · exact h
    · simp at h
  · have := tally_le hp q hq
    rw [a4, sum_const] at this
    simpa using this
  · obtain ⟨_, _, _, b, _⟩ := tally_ok ps g [] List.nodup_nil
    simpa using b
theorem find_T {T : List (List Int × Int)} (nd : (T.map (·.1)).Nodup) {q : List Int × Int} (hq : q ∈ T) : T.find? (fun r => decide (r.1 = q.1)) = some q := by
  induction T with
  | nil => cases hq
  | cons a T ih =>
    obtain ⟨n1, n2⟩ := List.nodup_cons.mp nd
    rw [List.find?_cons]
    rcases List.mem_cons.mp hq with rfl | hq
    · rw [decide_eq_true rfl]
    · have : a.1 ≠ q.1 := fun z => n1 (List.mem_map.mpr ⟨q, hq, z.symm⟩)
      rw [decide_eq_false this]
      exact ih n2 hq
theorem ix_T {T : List (List Int × Int)} (nd : (T.map (·.1)).Nodup) {q : List Int × Int} (hq : q ∈ T) : ixD false (tD T) (rowD q.1) = some (.int q.2) := by
  show (match getD false (T.map fun q => (rowD q.1, PyData.int q.2)) (rowD q.1) with
    | some (some v) => some v
    | _ => none) = _
  rw [get_T, find_T nd hq]; rfl
theorem items_T (T : List (List Int × Int)) : itemsD (tD T) = some (T.map fun q => rowD q.1) := by
  show some ((T.map fun q => (rowD q.1, PyData.int q.2)).map (·.1)) = _
  rw [List.map_map]; rfl
theorem vals_T (T : List (List Int × Int)) : valsD (tD T) = some ((T.map (·.2)).map .int) := by
  show some ((T.map fun q => (rowD q.1, PyData.int q.2)).map (·.2)) = _
  rw [List.map_map, List.map_map]; rfl
theorem t_at {T : List (List Int × Int)} {i : Nat} {d : Dt} (h : (T.map fun q => rowD q.1)[i]? = some d) : ∃ q, T[i]? = some q ∧ d = rowD q.1 := by
  rw [List.getElem?_map] at h
  obtain ⟨q, h1, h2⟩ := Option.map_eq_some_iff.mp h
  exact ⟨q, h1, h2.symm⟩
/-- the product over two rows of marks -/
def likeP (v : Int) : List (Int × Int) → Int
  | [] => 1
  | p :: r => (if p.1 = p.2 then v - 1 else -1) * likeP v r
theorem like_snoc (v : Int) (p : Int × Int) : ∀ l, likeP v (l ++ [p]) = likeP v l * (if p.1 = p.2 then v - 1 else -1)
  | [] => by simp [likeP]
  | q :: l => by rw [List.cons_append, likeP, like_snoc v p l, likeP, Int.mul_assoc]
theorem like_abs {v : Int} (v1 : 2 ≤ v) (v2 : v ≤ 5) : ∀ l, (likeP v l).natAbs ≤ 4 ^ l.length
  | [] => by simp [likeP]
  | p :: l => by
    rw [likeP, Int.natAbs_mul, List.length_cons, Nat.pow_succ, Nat.mul_comm (4 ^ l.length)]
    exact Nat.mul_le_mul (by split <;> omega) (like_abs v1 v2 l)
def pairL (v : Int) (rows : List (List Int)) (lot : List Int) : Int := (rows.map fun a => (rows.map fun b => likeP v ((marksL a lot).zip (marksL b lot))).sum).sum
theorem pair_tally {v : Int} {rows : List (List Int)} {lot : List Int} {T : List (List Int × Int)} (h : TallyOk (rows.map fun r => marksL r lot) T) :
    (T.map fun q => (T.map fun r => q.2 * r.2 * likeP v (q.1.zip r.1)).sum).sum = pairL v rows lot := by
  have e1 : ∀ p : List Int, (T.map fun r => likeP v (p.zip r.1) * r.2).sum = (rows.map fun b => likeP v (p.zip (marksL b lot))).sum := fun p => by
    have := h.sum (fun x => likeP v (p.zip x))
    rw [List.map_map] at this
    exact this
  have e2 : (T.map fun q => (T.map fun r => q.2 * r.2 * likeP v (q.1.zip r.1)).sum).sum = (T.map fun q => (rows.map fun b => likeP v (q.1.zip (marksL b lot))).sum * q.2).sum := by
    refine sum_congr fun q _ => ?_
    rw [← e1, Int.mul_comm, ← sum_mul]
    exact sum_congr fun r _ => by ac_rfl
  rw [e2]
  have := h.sum (fun p => (rows.map fun b => likeP v (p.zip (marksL b lot))).sum)
  rw [this, List.map_map]
  rfl
theorem sum_natAbs {α : Type} {f : α → Int} {B : Nat} : ∀ {l : List α}, (∀ x ∈ l, (f x).natAbs ≤ B) → ((l.map f).sum).natAbs ≤ B * l.length
  | [], _ => by simp
  | x :: l, h => by
    rw [List.map_cons, List.sum_cons, List.length_cons, Nat.mul_add, Nat.mul_one]
    have h1 := h x List.mem_cons_self
    have h2 := sum_natAbs (l := l) fun y hy => h y (List.mem_cons_of_mem _ hy)
    have h3 := Int.natAbs_add_le (f x) (l.map f).sum
    omega
theorem pair_abs {v : Int} (v1 : 2 ≤ v) (v2 : v ≤ 5) {rows : List (List Int)} {lot : List Int} (hr : rows.length ≤ 128) (hl : lot.length ≤ 8) : (pairL v rows lot).natAbs ≤ 2 ^ 40 := by
  have h1 : ∀ a b, (likeP v ((marksL a lot).zip (marksL b lot))).natAbs ≤ 4 ^ 8 := fun a b => by
    refine Nat.le_trans (like_abs v1 v2 _) (Nat.pow_le_pow_right (by decide) ?_)
    rw [List.length_zip]
    unfold marksL
    rw [List.length_map, List.length_map]; omega
  have h2 := sum_natAbs (l := rows) (f := fun a => (rows.map fun b => likeP v ((marksL a lot).zip (marksL b lot))).sum) (B := 4 ^ 8 * 128) fun a _ => Nat.le_trans (sum_natAbs fun b _ => h1 a b) (Nat.mul_le_mul_left _ hr)
  refine Nat.le_trans h2 (Nat.le_trans (Nat.mul_le_mul_left _ hr) (by decide))
theorem low_smallZ {n m : Int} (hm : 0 < m) (h1 : n.natAbs < 2 ^ 200) (h2 : m < 2 ^ 200) : ∀ x ∈ [n / gI n m, m / gI n m], x.natAbs < 2 ^ 200 := by
  have g1 := gI_pos (n := n) hm
  intro x hx
  have : ∀ z : Int, (z / gI n m).natAbs ≤ z.natAbs := fun z => Int.natAbs_ediv_le_natAbs z _
  simp only [List.mem_cons, List.not_mem_nil, or_false] at hx
  rcases hx with rfl | rfl
  · exact Nat.lt_of_le_of_lt (this n) h1
  · exact Nat.lt_of_le_of_lt (this m) (by omega)
theorem low_calmZ {n m : Int} (hm : 0 < m) (h1 : n.natAbs < 2 ^ 200) (h2 : m < 2 ^ 200) : calm (lowD n m) = true ∧ btD .repr [lowD n m] = some (.str (lowD n m).shown) ∧ (lowD n m).depth ≤ 10 ∧ (lowD n m).weight ≤ 60000 := by
  obtain ⟨a, b⟩ := repr_row (low_smallZ hm h1 h2) (by simp)
  obtain ⟨p, q⟩ := row_dw (low_smallZ hm h1 h2) (by simp)
  exact ⟨a, b, p, q⟩
end Pv
end
section
set_option Elab.async false
set_option linter.all false
set_option maxRecDepth 100000
/-! Pw.W: evenness on a lot, strength. -/
namespace Pv
open PySem L2
theorem sum_one_at {T : List (List Int × Int)} (nd : (T.map (·.1)).Nodup) {p : List Int} : (∀ q ∈ T, q.1 = p → (T.map fun r => (if r.1 = p then 1 else 0) * r.2).sum = q.2) ∧ (p ∉ T.map (·.1) → (T.map fun r => (if r.1 = p then 1 else 0) * r.2).sum = 0) := by
  induction T with
  | nil => exact ⟨fun q hq => (nomatch hq), fun _ => rfl⟩
  | cons a T ih =>
    obtain ⟨n1, n2⟩ := List.nodup_cons.mp nd
    obtain ⟨i1, i2⟩ := ih n2
    rw [List.map_cons, List.sum_cons]
    refine ⟨fun q hq e => ?_, fun h => ?_⟩
    · rcases List.mem_cons.mp hq with rfl | hq
      · rw [if_pos e, i2 (by rw [← e]; exact n1)]; omega
      · have : a.1 ≠ p := fun z => n1 (List.mem_map.mpr ⟨q, hq, e.trans z.symm⟩)
        rw [if_neg this, i1 q hq e]; omega
    · have h1 : a.1 ≠ p := fun z => h (by rw [List.map_cons, z]; exact List.mem_cons_self)
      have h2 : p ∉ T.map (·.1) := fun z => h (by rw [List.map_cons]; exact List.mem_cons_of_mem _ z)
      rw [if_neg h1, i2 h2]; omega
theorem count_sum (p : List Int) : ∀ ps : List (List Int), (ps.map fun x => if x = p then (1 : Int) else 0).sum = ((ps.count p : Nat) : Int)
  | [] => rfl
  | x :: ps => by
    rw [List.map_cons, List.sum_cons, count_sum p ps, List.count_cons]
    by_cases h : x = p
    · rw [if_pos h, if_pos (by simp [h])]; omega
    · rw [if_neg h, if_neg (by simp [h])]; omega
/-- a tally counts -/
theorem TallyOk.cnt {ps : List (List Int)} {T : List (List Int × Int)} (h : TallyOk ps T) {q : List Int × Int} (hq : q ∈ T) : q.2 = ((ps.count q.1 : Nat) : Int) := by
  rw [← count_sum, ← h.sum]
  exact ((sum_one_at h.nd).1 q hq rfl).symm
theorem TallyOk.mem {ps : List (List Int)} {T : List (List Int × Int)} (h : TallyOk ps T) {p : List Int} (hp : p ∈ ps) : ∃ q ∈ T, q.1 = p := by
  by_cases hm : p ∈ T.map (·.1)
  · obtain ⟨q, hq, e⟩ := List.mem_map.mp hm
    exact ⟨q, hq, e⟩
  · exfalso
    have e := (sum_one_at h.nd).2 hm
    have := h.sum (fun x => if x = p then 1 else 0)
    rw [e, count_sum] at this
    have := List.count_pos_iff.mpr hp
    omega
/-- how often the lot shows the pattern -/
def cntP (rows : List (List Int)) (lot p : List Int) : Nat := (rows.map fun r => marksL r lot).count p
def evenB (v : Int) (rows : List (List Int)) (lot : List Int) : Bool := decide (∀ p ∈ allP v lot.length, ((cntP rows lot p : Nat) : Int) * v ^ lot.length = (rows.length : Nat))
/-- rows of marks below v at the lot -/
def MarksOk (v : Int) (rows : List (List Int)) (lot : List Int) : Prop := ∀ r ∈ rows, ∀ x ∈ lot, 0 ≤ r.getD x.toNat 0 ∧ r.getD x.toNat 0 < v
theorem pat_ok {v : Int} {rows : List (List Int)} {lot : List Int} (h : MarksOk v rows lot) : ∀ p ∈ rows.map (fun r => marksL r lot), p ∈ allP v lot.length := by
  intro p hp
  obtain ⟨r, hr, rfl⟩ := List.mem_map.mp hp
  refine mem_allP (by unfold marksL; rw [List.length_map]) fun x hx => ?_
  unfold marksL at hx
  obtain ⟨y, hy, rfl⟩ := List.mem_map.mp hx
  exact h r hr y hy
theorem allP_nodup (v : Int) : ∀ s : Nat, (allP v s).Nodup
  | 0 => by simp [allP]
  | s + 1 => by
    rw [allP_step]
    have ih := allP_nodup v s
    have nd : (rngI 0 v.toNat).Nodup := by
      unfold rngI List.Nodup
      rw [List.pairwise_map]
      exact List.Pairwise.imp (fun h e => by omega) (List.pairwise_lt_range (n := v.toNat))
    unfold List.Nodup
    rw [List.pairwise_flatMap]
    refine ⟨fun p _ => ?_, List.Pairwise.imp (fun {p q} hpq => ?_) ih⟩
    · rw [List.pairwise_map]
      exact List.Pairwise.imp (fun {x y} h e => h (by simpa using e)) nd
    · intro a ha b hb e
      obtain ⟨x, _, rfl⟩ := List.mem_map.mp ha
      obtain ⟨y, _, rfl⟩ := List.mem_map.mp hb
      have := List.append_inj' e rfl
      exact hpq this.1
/-- the tally tells it -/
theorem even_tally {v : Int} (v1 : 1 ≤ v) {rows : List (List Int)} (ne : rows ≠ []) {lot : List Int} {T : List (List Int × Int)} (h : TallyOk (rows.map fun r => marksL r lot) T) (hm : MarksOk v rows lot) :
    evenB v rows lot = true ↔ ((T.length : Nat) : Int) = v ^ lot.length ∧ ∀ q ∈ T, q.2 * v ^ lot.length = ((rows.length : Nat) : Int) := by
  have hp : 0 < rows.length := List.length_pos_iff.mpr ne
  have hV : 0 < v ^ lot.length := Int.pow_pos (by omega)
  have hlen := allP_len (v := v) (by omega) lot.length
  have hsub : ∀ p ∈ T.map (·.1), p ∈ allP v lot.length := fun p hp => by
    obtain ⟨q, hq, rfl⟩ := List.mem_map.mp hp
    exact pat_ok hm _ (h.sub q hq)
  unfold evenB
  rw [decide_eq_true_eq]
  constructor
  · intro H
    have hsup : ∀ p ∈ allP v lot.length, p ∈ T.map (·.1) := fun p hpp => by
      have h1 := H p hpp
      have h2 : 0 < cntP rows lot p := by
        rcases Nat.eq_zero_or_pos (cntP rows lot p) with z | z
        · rw [z] at h1; simp at h1; omega
        · exact z
      obtain ⟨q, hq, e⟩ := h.mem (List.count_pos_iff.mp h2)
      exact List.mem_map.mpr ⟨q, hq, e⟩
    have l1 := nodup_sub h.nd hsub
    have l2 := nodup_sub (allP_nodup v lot.length) hsup
    rw [List.length_map] at l1 l2
    refine ⟨by omega, fun q hq => ?_⟩
    rw [h.cnt hq]
    exact H q.1 (hsub _ (List.mem_map.mpr ⟨q, hq, rfl⟩))
  · rintro ⟨h1, h2⟩ p hpp
    have hperm : (T.map (·.1)).Perm (allP v lot.length) := sub_perm h.nd hsub (by rw [List.length_map]; omega)
    obtain ⟨q, hq, e⟩ := List.mem_map.mp (hperm.mem_iff.mpr hpp)
    have := h2 q hq
    rw [h.cnt hq] at this
    rw [← e]
    exact this
/-- all tallies alike, as many as patterns -/
theorem even_alike {v : Int} (v1 : 1 ≤ v) {rows : List (List Int)} {lot : List Int} {T : List (List Int × Int)} (h : TallyOk (rows.map fun r => marksL r lot) T) (hl : ((T.length : Nat) : Int) = v ^ lot.length) :
    (∃ n : Int, ∀ q ∈ T, q.2 = n) ↔ ∀ q ∈ T, q.2 * v ^ lot.length = ((rows.length : Nat) : Int) := by
  have hV : 0 < v ^ lot.length := Int.pow_pos (by omega)
  have hs : (T.map fun q => 1 * q.2).sum = ((rows.length : Nat) : Int) := by
    have := h.sum (fun _ => 1)
    rw [this, sum_const]; simp
  constructor
  · rintro ⟨n, hn⟩ q hq
    have : (T.map fun q => 1 * q.2).sum = n * (T.length : Nat) := by
      rw [sum_congr (g := fun _ => n) (fun q hq => by rw [hn q hq, Int.one_mul]), sum_const]
    rw [hn q hq, ← hl, ← this, hs]
  · intro H
    cases T with
    | nil => exact ⟨0, fun q hq => (nomatch hq)⟩
    | cons a T =>
      refine ⟨a.2, fun q hq => ?_⟩
      have h1 := H q hq
      have h2 := H a List.mem_cons_self
      exact Int.eq_of_mul_eq_mul_right (by omega) (h1.trans h2.symm)
/-- a strength: as far as ok goes -/
def IsStr (ok : Nat → Bool) (k s : Nat) : Prop := s ≤ k ∧ (∀ j, 1 ≤ j → j ≤ s → ok j = true) ∧ (s < k → ok (s + 1) = false)
theorem str_one {ok : Nat → Bool} {k s t : Nat} (h : IsStr ok k s) (h' : IsStr ok k t) : s = t := by
  obtain ⟨a1, a2, a3⟩ := h
  obtain ⟨b1, b2, b3⟩ := h'
  rcases Nat.lt_trichotomy s t with x | x | x
  · have := a3 (by omega)
    rw [b2 (s + 1) (by omega) (by omega)] at this
    cases this
  · exact x
  · have := b3 (by omega)
    rw [a2 (t + 1) (by omega) (by omega)] at this
    cases this
def strZ (ok : Nat → Bool) : Nat → Nat → Nat
  | 0, s => s
  | k + 1, s => if ok (s + 1) = true then strZ ok k (s + 1) else s
theorem str_is {ok : Nat → Bool} : ∀ (k s : Nat), (∀ j, 1 ≤ j → j ≤ s → ok j = true) → IsStr ok (s + k) (strZ ok k s)
  | 0, s, h => ⟨Nat.le_refl _, h, fun z => absurd z (by show ¬ s < s + 0; omega)⟩
  | k + 1, s, h => by
    unfold strZ
    by_cases e : ok (s + 1) = true
    · rw [if_pos e]
      have := str_is k (s + 1) fun j h1 h2 => by
        by_cases hj : j = s + 1
        · rw [hj]; exact e
        · exact h j h1 (by omega)
      rw [show s + (k + 1) = s + 1 + k by omega]
      exact this
    · rw [if_neg e]
      exact ⟨by omega, h, fun _ => by simpa using e⟩
def okU (v : Int) (k : Int) (rows : List (List Int)) (t : Nat) : Bool := (lotsL k t).all fun lot => evenB v rows lot
def strB (v k : Int) (rows : List (List Int)) : Nat := strZ (okU v k rows) k.toNat 0
theorem strB_is (v k : Int) (rows : List (List Int)) : IsStr (okU v k rows) k.toNat (strB v k rows) := by
  have := str_is (ok := okU v k rows) k.toNat 0 (fun j h1 h2 => absurd h2 (by omega))
  rw [Nat.zero_add] at this
  exact this
theorem cnt_perm {a b : List (List Int)} (h : a.Perm b) (lot p : List Int) : cntP a lot p = cntP b lot p := (h.map _).count_eq p
theorem even_perm {v : Int} {a b : List (List Int)} (h : a.Perm b) (lot : List Int) : evenB v a lot = evenB v b lot := by
  unfold evenB
  simp only [cnt_perm h, h.length_eq]
theorem str_perm {v k : Int} {a b : List (List Int)} (h : a.Perm b) : strB v k a = strB v k b := by
  unfold strB okU
  have : (fun t => (lotsL k t).all fun lot => evenB v a lot) = fun t => (lotsL k t).all fun lot => evenB v b lot := by
    funext t
    congr 1
    funext lot
    exact even_perm h lot
  show strZ (fun t => (lotsL k t).all fun lot => evenB v a lot) _ _ = strZ (fun t => (lotsL k t).all fun lot => evenB v b lot) _ _
  rw [this]
/-- rows as a list or as a tuple -/
structure RowsAs (D : Dt) (rows : List (List Int)) : Prop where
  it : itemsD D = some (rows.map rowD)
  len : btD .len [D] = some (.int ((rows.length : Nat) : Int))
  at0 : ∃ r0 ∈ rows, ∀ kt, ixD kt D (.int 0) = some (rowD r0)
theorem rows_board {rows : List (List Int)} (ne : rows ≠ []) : RowsAs (boardD rows) rows := by
  refine ⟨rfl, ?_, ?_⟩
  · show some (PyData.int (rows.map rowD).length) = _
    rw [List.length_map]
  · obtain ⟨r0, rest, rfl⟩ := List.exists_cons_of_ne_nil ne
    exact ⟨r0, List.mem_cons_self, fun kt => at_nat (i := 0) rfl⟩
theorem rows_lots {rows : List (List Int)} (ne : rows ≠ []) : RowsAs (lotsD rows) rows := by
  refine ⟨rfl, ?_, ?_⟩
  · show some (PyData.int (rows.map rowD).length) = _
    rw [List.length_map]
  · obtain ⟨r0, rest, rfl⟩ := List.exists_cons_of_ne_nil ne
    exact ⟨r0, List.mem_cons_self, fun kt => at_nat (i := 0) rfl⟩
theorem board_marks {v k : Int} {rows : List (List Int)} (B : Board v k rows) {lot : List Int} (hl : LotOk k lot) : MarksOk v rows lot := by
  intro r hr x hx
  have hlen := B.len r hr
  have hk := hl x hx
  refine B.mks r hr _ ?_
  rw [List.getD_eq_getElem?_getD, List.getElem?_eq_getElem (show x.toNat < r.length by omega)]
  exact List.getElem_mem _
theorem len_T {T : List (List Int × Int)} (h : T ≠ []) : btD .len [tD T] = some (.int ((T.length : Nat) : Int)) := by
  cases T with
  | nil => exact absurd rfl h
  | cons q T =>
    have ht : (((q :: T).map fun q => (rowD q.1, PyData.int q.2)).all fun p => isTupD p.1) = true := by
      rw [List.all_eq_true]
      intro p hp
      obtain ⟨q, _, rfl⟩ := List.mem_map.mp hp
      rfl
    show (if _ then _ else _) = _
    rw [if_pos ⟨ht, rfl⟩, List.length_map]
theorem tally_ne {rows : List (List Int)} (ne : rows ≠ []) (lot : List Int) : tallyL rows lot ≠ [] := by
  obtain ⟨-, -, -, -, h⟩ := tally_ok (rows.map fun r => marksL r lot) (fun _ => 0) [] List.nodup_nil
  exact h (by intro z; exact ne (List.map_eq_nil_iff.mp z))
theorem even_tallyL {v k : Int} (v1 : 1 ≤ v) {rows : List (List Int)} (B : Board v k rows) {lot : List Int} (hl : LotOk k lot) :
    evenB v rows lot = (decide ((((tallyL rows lot).length : Nat) : Int) = v ^ lot.length) && decide ((((tallyL rows lot).map (·.2)).filter fun n => !decide (n * v ^ lot.length = ((rows.length : Nat) : Int))) = [])) := by
  rw [Bool.eq_iff_iff, even_tally v1 B.ne (tally_is _) (board_marks B hl), Bool.and_eq_true, decide_eq_true_eq, decide_eq_true_eq]
  refine and_congr Iff.rfl ?_
  rw [List.filter_eq_nil_iff]
  constructor
  · intro h n hn
    obtain ⟨q, hq, rfl⟩ := List.mem_map.mp hn
    simpa using h q hq
  · intro h q hq
    have := h q.2 (List.mem_map.mpr ⟨q, hq, rfl⟩)
    simpa using this
end Pv
end
section
set_option Elab.async false
set_option linter.all false
set_option maxRecDepth 100000
/-! Pw.X: evenness by least and greatest. -/
namespace Pv
open PySem L2
theorem minL_ok : ∀ {l : List Int}, l ≠ [] → minL l ∈ l ∧ ∀ x ∈ l, minL l ≤ x
  | [x], _ => by simp [minL]
  | x :: y :: r, _ => by
    obtain ⟨h1, h2⟩ := minL_ok (l := y :: r) (by simp)
    have e : minL (x :: y :: r) = if minL (y :: r) < x then minL (y :: r) else x := rfl
    rw [e]
    split
    · refine ⟨List.mem_cons_of_mem _ h1, fun z hz => ?_⟩
      rcases List.mem_cons.mp hz with rfl | hz
      · omega
      · exact h2 z hz
    · refine ⟨List.mem_cons_self, fun z hz => ?_⟩
      rcases List.mem_cons.mp hz with rfl | hz
      · omega
      · have := h2 z hz; omega
theorem t_keys (T : List (List Int × Int)) : ((T.map fun q => (rowD q.1, PyData.int q.2)).all fun p => isTupD p.1) = true := by
  rw [List.all_eq_true]
  intro p hp
  obtain ⟨q, _, rfl⟩ := List.mem_map.mp hp
  rfl
theorem t_vals (T : List (List Int × Int)) : intsD ((T.map fun q => (rowD q.1, PyData.int q.2)).map (·.2)) = some (T.map (·.2)) := by
  have : (T.map fun q => (rowD q.1, PyData.int q.2)).map (·.2) = (T.map (·.2)).map .int := by rw [List.map_map, List.map_map]; rfl
  rw [this, intsD_map]
theorem even_mm {v k : Int} (v1 : 1 ≤ v) {rows : List (List Int)} (B : Board v k rows) {lot : List Int} (hl : LotOk k lot) :
    evenB v rows lot = (decide ((((tallyL rows lot).length : Nat) : Int) = v ^ lot.length) && decide (minL ((tallyL rows lot).map (·.2)) = maxL ((tallyL rows lot).map (·.2)))) := by
  have ne := tally_ne B.ne lot
  have ok : TallyOk (rows.map fun r => marksL r lot) (tallyL rows lot) := tally_is _
  rw [Bool.eq_iff_iff, even_tally v1 B.ne ok (board_marks B hl), Bool.and_eq_true, decide_eq_true_eq, decide_eq_true_eq]
  constructor
  · rintro ⟨h1, h2⟩
    refine ⟨h1, ?_⟩
    obtain ⟨n, hn⟩ := (even_alike v1 ok h1).mpr h2
    have hne : (tallyL rows lot).map (·.2) ≠ [] := fun z => ne (List.map_eq_nil_iff.mp z)
    obtain ⟨q, hq, e⟩ := List.mem_map.mp (minL_ok hne).1
    obtain ⟨q', hq', e'⟩ := List.mem_map.mp (maxL_ok hne).1
    rw [← e, ← e', hn q hq, hn q' hq']
  · rintro ⟨h1, h2⟩
    refine ⟨h1, (even_alike v1 ok h1).mp ⟨minL ((tallyL rows lot).map (·.2)), fun q hq => ?_⟩⟩
    have hm : q.2 ∈ (tallyL rows lot).map (·.2) := List.mem_map.mpr ⟨q, hq, rfl⟩
    have hne : (tallyL rows lot).map (·.2) ≠ [] := List.ne_nil_of_mem hm
    have := (minL_ok hne).2 _ hm
    have := (maxL_ok hne).2 _ hm
    omega
theorem repr_intL {l : List Int} (h : ∀ x ∈ l, x.natAbs < 2 ^ 200) (hl : l.length ≤ 500) : calm (intL l) = true ∧ btD .repr [intL l] = some (.str (intL l).shown) := by
  obtain ⟨h1, h2⟩ := w_ints h
  have hd := ints_depth l
  have hc : calm (intL l) = true := by simpa only [intL, calm] using h2
  refine ⟨hc, bt_repr hc ?_ ?_⟩
  · simp only [intL, PyData.depth]; omega
  · simp only [intL, PyData.weight]
    have : (2 : Nat) ^ 17 = 131072 := by decide
    omega
/-- one row has no strength -/
theorem str_row {v k : Int} (v1 : 2 ≤ v) (k1 : 1 ≤ k) {r : List Int} (B : Board v k [r]) : strB v k [r] = 0 := by
  refine str_one (strB_is v k [r]) ⟨Nat.zero_le _, fun j h1 h2 => absurd h2 (by omega), fun _ => ?_⟩
  have hm := first_lot (k := k) (s := 1) (by omega)
  obtain ⟨m1, m2, m3⟩ := lots_mem.mp hm
  cases he : okU v k [r] (0 + 1) with
  | false => rfl
  | true =>
    exfalso
    have h2 := List.all_eq_true.mp he _ hm
    have ok : TallyOk ([r].map fun r => marksL r (rngI 0 1)) (tallyL [r] (rngI 0 1)) := tally_is _
    have h3 := ((even_tally (v := v) (by omega) B.ne ok (board_marks B m2)).mp h2).1
    have h4 := ok.few
    rw [List.length_map, List.length_singleton] at h4
    rw [m1, Int.pow_succ, Int.pow_zero, Int.one_mul] at h3
    omega
theorem str_full : ∀ vf ∈ ([(2, 1), (2, 2), (2, 3), (2, 4), (3, 1), (3, 2), (3, 3), (4, 1), (4, 2), (5, 1), (5, 2)] : List (Int × Nat)), strB vf.1 (vf.2 : Nat) (allP vf.1 vf.2) = vf.2 ∧ (allP vf.1 vf.2).length ≤ 27 := by decide +kernel
theorem lots_take {L : List (List Int)} {a : Int} (h0 : 0 ≤ a) (h : a.toNat ≤ L.length) : slD (lotsD L) none (some a) = some (lotsD (L.take a.toNat)) := by
  have : a = ((a.toNat : Nat) : Int) := by omega
  show some (PyData.list (cutD (L.map rowD) none (some a))) = _
  rw [this, cut_take (α := Int) _ _ (by rw [List.length_map]; omega), Int.toNat_natCast, ← List.map_take]; rfl
theorem lots_drop {L : List (List Int)} {a : Int} (h0 : 0 ≤ a) (h : a.toNat ≤ L.length) : slD (lotsD L) (some a) none = some (lotsD (L.drop a.toNat)) := by
  have : a = ((a.toNat : Nat) : Int) := by omega
  show some (PyData.list (cutD (L.map rowD) (some a) none)) = _
  rw [this, cut_drop _ _ (by rw [List.length_map]; omega), Int.toNat_natCast, ← List.map_drop]; rfl
theorem board_take {L : List (List Int)} {a : Int} (h0 : 0 ≤ a) (h : a.toNat ≤ L.length) : slD (boardD L) none (some a) = some (boardD (L.take a.toNat)) := by
  have : a = ((a.toNat : Nat) : Int) := by omega
  show some (PyData.tuple (cutD (L.map rowD) none (some a))) = _
  rw [this, cut_take (α := Int) _ _ (by rw [List.length_map]; omega), Int.toNat_natCast, ← List.map_take]; rfl
theorem lots_add {L M : List (List Int)} (h : L.length + M.length ≤ line) : binD .Add (lotsD L) (lotsD M) = some (lotsD (L ++ M)) := by
  unfold lotsD
  rw [b_addl (by rw [List.length_map, List.length_map]; exact h), ← List.map_append]
end Pv
end
section
set_option Elab.async false
set_option linter.all false
set_option maxRecDepth 100000
/-! Pw.Y: leans as sums of squares. -/
namespace Pv
open PySem L2
def phi (v c : Int) : Int := if v = 4 then (if c % 4 = 0 then 3 else if c % 4 = 2 then -3 else 0) else if c % v = 0 then v - 1 else -1
theorem phi_tab : ∀ v ∈ ([2, 3, 4, 5] : List Int), ∀ c ∈ ([0, 1, 2, 3, 4] : List Int), ∀ z ∈ ([0, 1, 2, 3, 4] : List Int), ((rngI 0 (v - 1).toNat).map fun a => phi v (c + (a + 1) * z)).sum = phi v c * (if z % v = 0 then v - 1 else -1) := by decide +kernel
theorem phi_congr {v c d : Int} (h : c % v = d % v) : phi v c = phi v d := by
  unfold phi
  by_cases hv : v = 4
  · subst hv
    rw [if_pos rfl, if_pos rfl, h]
  · rw [if_neg hv, if_neg hv, h]
theorem in_five {x v : Int} (v1 : 2 ≤ v) (v2 : v ≤ 5) : x % v ∈ ([0, 1, 2, 3, 4] : List Int) := by
  have h1 := Int.emod_nonneg x (b := v) (by omega)
  have h2 := Int.emod_lt_of_pos x (b := v) (by omega)
  simp only [List.mem_cons, List.not_mem_nil, or_false]
  omega
theorem phi_sum {v : Int} (v1 : 2 ≤ v) (v2 : v ≤ 5) (c z : Int) : ((rngI 0 (v - 1).toNat).map fun a => phi v (c + (a + 1) * z)).sum = phi v c * (if z % v = 0 then v - 1 else -1) := by
  have hv : v ∈ ([2, 3, 4, 5] : List Int) := by
    simp only [List.mem_cons, List.not_mem_nil, or_false]
    omega
  have h := phi_tab v hv (c % v) (in_five v1 v2) (z % v) (in_five v1 v2)
  rw [phi_congr (v := v) (c := c % v) (d := c) (Int.emod_emod_of_dvd c (Int.dvd_refl v)), Int.emod_emod_of_dvd z (Int.dvd_refl v)] at h
  rw [← h]
  refine sum_congr fun a _ => phi_congr ?_
  have hc := Int.emod_add_mul_ediv c v
  have hz := Int.emod_add_mul_ediv z v
  have e : c + (a + 1) * z = (c % v + (a + 1) * (z % v)) + v * (c / v + (a + 1) * (z / v)) := by
    generalize c / v = cq at *
    generalize z / v = zq at *
    generalize c % v = cr at *
    generalize z % v = zr at *
    subst hc hz
    grind
  rw [e, Int.add_mul_emod_self_left]
def dotW (p zs : List Int) : Int := ((p.zip zs).map fun q => (q.1 + 1) * q.2).sum
theorem dot_snoc {p zs : List Int} (h : p.length = zs.length) (x z : Int) : dotW (p ++ [x]) (zs ++ [z]) = dotW p zs + (x + 1) * z := by
  unfold dotW
  rw [List.zip_append h, List.map_append, List.sum_append]
  simp
def mulZ (v : Int) : List Int → Int
  | [] => 1
  | z :: r => (if z % v = 0 then v - 1 else -1) * mulZ v r
theorem mulZ_snoc (v z : Int) : ∀ l, mulZ v (l ++ [z]) = mulZ v l * (if z % v = 0 then v - 1 else -1)
  | [] => by simp [mulZ]
  | q :: l => by rw [List.cons_append, mulZ, mulZ_snoc v z l, mulZ, Int.mul_assoc]
theorem phi_all {v : Int} (v1 : 2 ≤ v) (v2 : v ≤ 5) (c : Int) : ∀ (t : Nat) (zs : List Int), zs.length = t → ((allP (v - 1) t).map fun p => phi v (c + dotW p zs)).sum = phi v c * mulZ v zs
  | 0, zs, h => by
    rw [List.length_eq_zero_iff.mp h]
    simp [allP, dotW, mulZ]
  | t + 1, zs, h => by
    rcases List.eq_nil_or_concat zs with rfl | ⟨ys, z, rfl⟩
    · cases h
    · rw [List.concat_eq_append] at h ⊢
      have hl : ys.length = t := by simpa using h
      rw [allP_step, List.map_flatMap, sum_flat]
      have e : ∀ p ∈ allP (v - 1) t, (((rngI 0 (v - 1).toNat).map fun x => p ++ [x]).map fun p => phi v (c + dotW p (ys ++ [z]))).sum = (if z % v = 0 then v - 1 else -1) * phi v (c + dotW p ys) := fun p hp => by
        have hpl := (allP_mem hp).1
        rw [List.map_map, Int.mul_comm, ← phi_sum v1 v2]
        refine sum_congr fun x _ => ?_
        show phi v (c + dotW (p ++ [x]) (ys ++ [z])) = _
        rw [dot_snoc (by omega), Int.add_assoc]
      rw [sum_congr e, sum_mul, phi_all v1 v2 c t ys hl, mulZ_snoc, Int.mul_comm, Int.mul_assoc]
/-- the height at which a row stands -/
def cR (r few W : List Int) : Int := ((few.zip W).map fun q => r.getD q.1.toNat 0 * q.2).sum
def hM (v : Int) (cs : List Int) (m : Int) : Int := (cs.map fun c => if c % v = m then (1 : Int) else 0).sum
def hts (v : Int) (cs : List Int) : List Int := (rngI 0 v.toNat).map (hM v cs)
def sqZ (v : Int) (h : List Int) : Int := if v = 4 then 3 * ((h.getD 0 0 - h.getD 2 0) * (h.getD 0 0 - h.getD 2 0) + (h.getD 1 0 - h.getD 3 0) * (h.getD 1 0 - h.getD 3 0)) else v * (h.map fun n => n * n).sum - h.sum * h.sum
theorem group_sum {v : Int} (v1 : 2 ≤ v) (f : Int → Int) : ∀ cs : List Int, (cs.map fun c => f (c % v)).sum = ((rngI 0 v.toNat).map fun m => hM v cs m * f m).sum
  | [] => by
    unfold hM
    rw [List.map_nil, List.sum_nil, sum_congr (g := fun _ => (0 : Int)) (fun m _ => by simp), sum_const]; simp
  | c :: cs => by
    have hm : c % v ∈ rngI 0 v.toNat := mem_rngI.mpr (by
      have h1 := Int.emod_nonneg c (b := v) (by omega)
      have h2 := Int.emod_lt_of_pos c (b := v) (by omega)
      omega)
    have h0 : 0 ≤ c % v ∧ c % v < v := by
      have := mem_rngI.mp hm
      omega
    rw [List.map_cons, List.sum_cons, group_sum v1 f cs]
    have e : ((rngI 0 v.toNat).map fun m => hM v (c :: cs) m * f m).sum = ((rngI 0 v.toNat).map fun m => (if c % v = m then f m else 0) + hM v cs m * f m).sum := sum_congr fun m _ => by
      unfold hM
      rw [List.map_cons, List.sum_cons, Int.add_mul]
      split
      · rw [Int.one_mul]
      · rw [Int.zero_mul]
    rw [e, sum_add, pick_sum h0 f]
theorem phi_four : ∀ v ∈ ([2, 3, 5] : List Int), ∀ m ∈ ([0, 1, 2, 3, 4] : List Int), ∀ n ∈ ([0, 1, 2, 3, 4] : List Int), m < v → n < v → phi v (m - n) = if m = n then v - 1 else -1 := by decide +kernel
theorem sq_pairs {v : Int} (v1 : 2 ≤ v) (v2 : v ≤ 5) (cs : List Int) : sqZ v (hts v cs) = (cs.map fun c => (cs.map fun d => phi v (c - d)).sum).sum := by
  have e1 : (cs.map fun c => (cs.map fun d => phi v (c - d)).sum).sum = ((rngI 0 v.toNat).map fun m => hM v cs m * ((rngI 0 v.toNat).map fun n => hM v cs n * phi v (m - n)).sum).sum := by
    rw [← group_sum v1 (fun m => ((rngI 0 v.toNat).map fun n => hM v cs n * phi v (m - n)).sum)]
    refine sum_congr fun c _ => ?_
    rw [← group_sum v1 (fun n => phi v (c % v - n))]
    refine sum_congr fun d _ => phi_congr ?_
    rw [Int.emod_sub_emod, Int.sub_emod_emod]
  rw [e1]
  unfold sqZ hts
  have hv : v = 2 ∨ v = 3 ∨ v = 4 ∨ v = 5 := by omega
  generalize hM v cs = h
  rcases hv with rfl | rfl | rfl | rfl
  · have r : rngI 0 (2 : Int).toNat = [0, 1] := by decide
    have p : phi 2 (0 - 0) = 1 ∧ phi 2 (0 - 1) = -1 ∧ phi 2 (1 - 0) = -1 ∧ phi 2 (1 - 1) = 1 := by decide
    obtain ⟨p1, p2, p3, p4⟩ := p
    rw [r, if_neg (by decide)]
    simp only [List.map_cons, List.map_nil, List.sum_cons, List.sum_nil, p1, p2, p3, p4]
    grind
  · have r : rngI 0 (3 : Int).toNat = [0, 1, 2] := by decide
    have p : phi 3 (0 - 0) = 2 ∧ phi 3 (0 - 1) = -1 ∧ phi 3 (0 - 2) = -1 ∧ phi 3 (1 - 0) = -1 ∧ phi 3 (1 - 1) = 2 ∧ phi 3 (1 - 2) = -1 ∧ phi 3 (2 - 0) = -1 ∧ phi 3 (2 - 1) = -1 ∧ phi 3 (2 - 2) = 2 := by decide
    obtain ⟨p1, p2, p3, p4, p5, p6, p7, p8, p9⟩ := p
    rw [r, if_neg (by decide)]
    simp only [List.map_cons, List.map_nil, List.sum_cons, List.sum_nil, p1, p2, p3, p4, p5, p6, p7, p8, p9]
    grind
  · have r : rngI 0 (4 : Int).toNat = [0, 1, 2, 3] := by decide
    have p : phi 4 (0 - 0) = 3 ∧ phi 4 (0 - 1) = 0 ∧ phi 4 (0 - 2) = -3 ∧ phi 4 (0 - 3) = 0 ∧ phi 4 (1 - 0) = 0 ∧ phi 4 (1 - 1) = 3 ∧ phi 4 (1 - 2) = 0 ∧ phi 4 (1 - 3) = -3 ∧ phi 4 (2 - 0) = -3 ∧ phi 4 (2 - 1) = 0 ∧ phi 4 (2 - 2) = 3 ∧ phi 4 (2 - 3) = 0 ∧ phi 4 (3 - 0) = 0 ∧ phi 4 (3 - 1) = -3 ∧ phi 4 (3 - 2) = 0 ∧ phi 4 (3 - 3) = 3 := by decide
    obtain ⟨p1, p2, p3, p4, p5, p6, p7, p8, p9, p10, p11, p12, p13, p14, p15, p16⟩ := p
    rw [r, if_pos rfl]
    simp only [List.map_cons, List.map_nil, List.sum_cons, List.sum_nil, p1, p2, p3, p4, p5, p6, p7, p8, p9, p10, p11, p12, p13, p14, p15, p16, List.getD_cons_zero, List.getD_cons_succ]
    grind
  · have r : rngI 0 (5 : Int).toNat = [0, 1, 2, 3, 4] := by decide
    have p : phi 5 (0 - 0) = 4 ∧ phi 5 (0 - 1) = -1 ∧ phi 5 (0 - 2) = -1 ∧ phi 5 (0 - 3) = -1 ∧ phi 5 (0 - 4) = -1 ∧ phi 5 (1 - 0) = -1 ∧ phi 5 (1 - 1) = 4 ∧ phi 5 (1 - 2) = -1 ∧ phi 5 (1 - 3) = -1 ∧ phi 5 (1 - 4) = -1 ∧ phi 5 (2 - 0) = -1 ∧ phi 5 (2 - 1) = -1 ∧ phi 5 (2 - 2) = 4 ∧ phi 5 (2 - 3) = -1 ∧ phi 5 (2 - 4) = -1 ∧ phi 5 (3 - 0) = -1 ∧ phi 5 (3 - 1) = -1 ∧ phi 5 (3 - 2) = -1 ∧ phi 5 (3 - 3) = 4 ∧ phi 5 (3 - 4) = -1 ∧ phi 5 (4 - 0) = -1 ∧ phi 5 (4 - 1) = -1 ∧ phi 5 (4 - 2) = -1 ∧ phi 5 (4 - 3) = -1 ∧ phi 5 (4 - 4) = 4 := by decide
    obtain ⟨p0, p1, p2, p3, p4, p5, p6, p7, p8, p9, p10, p11, p12, p13, p14, p15, p16, p17, p18, p19, p20, p21, p22, p23, p24⟩ := p
    rw [r, if_neg (by decide)]
    simp only [List.map_cons, List.map_nil, List.sum_cons, List.sum_nil, p0, p1, p2, p3, p4, p5, p6, p7, p8, p9, p10, p11, p12, p13, p14, p15, p16, p17, p18, p19, p20, p21, p22, p23, p24]
    grind
theorem cR_dot (r s : List Int) : ∀ (few p : List Int), p.length = few.length → cR r few (p.map (· + 1)) - cR s few (p.map (· + 1)) = dotW p (few.map fun x => r.getD x.toNat 0 - s.getD x.toNat 0)
  | [], p, h => by simp [cR, dotW, List.length_eq_zero_iff.mp h]
  | x :: few, [], h => by cases h
  | x :: few, y :: p, h => by
    have ih := cR_dot r s few p (by simpa using h)
    unfold cR dotW at ih ⊢
    simp only [List.map_cons, List.zip_cons_cons, List.sum_cons]
    rw [← ih]
    grind
theorem mul_like {v : Int} (v1 : 2 ≤ v) (r s : List Int) : ∀ few : List Int, (∀ x ∈ few, (0 ≤ r.getD x.toNat 0 ∧ r.getD x.toNat 0 < v) ∧ 0 ≤ s.getD x.toNat 0 ∧ s.getD x.toNat 0 < v) → mulZ v (few.map fun x => r.getD x.toNat 0 - s.getD x.toNat 0) = likeP v ((marksL r few).zip (marksL s few))
  | [], _ => rfl
  | x :: few, h => by
    have ih := mul_like v1 r s few fun y hy => h y (List.mem_cons_of_mem _ hy)
    obtain ⟨⟨a1, a2⟩, a3, a4⟩ := h x List.mem_cons_self
    unfold marksL at ih ⊢
    rw [List.map_cons, List.map_cons, List.map_cons, List.zip_cons_cons, mulZ, likeP, ih]
    have : ((r.getD x.toNat 0 - s.getD x.toNat 0) % v = 0) = (r.getD x.toNat 0 = s.getD x.toNat 0) := by
      apply propext
      constructor
      · intro hz
        by_cases hlt : r.getD x.toNat 0 < s.getD x.toNat 0
        · have e : (r.getD x.toNat 0 - s.getD x.toNat 0) % v = (r.getD x.toNat 0 - s.getD x.toNat 0 + v) % v := by rw [Int.add_emod_right]
          rw [e, Int.emod_eq_of_lt (by omega) (by omega)] at hz
          omega
        · rw [Int.emod_eq_of_lt (by omega) (by omega)] at hz
          omega
      · intro hz
        rw [hz, Int.sub_self, Int.zero_emod]
    simp only [this]
/-- all squares together are the leans' pairs -/
theorem squares {v k : Int} (v1 : 2 ≤ v) (v2 : v ≤ 5) {rows : List (List Int)} (B : Board v k rows) {few : List Int} (hl : LotOk k few) :
    ((allP (v - 1) few.length).map fun p => sqZ v (hts v (rows.map fun r => cR r few (p.map (· + 1))))).sum = (v - 1) * pairL v rows few := by
  have e1 : ((allP (v - 1) few.length).map fun p => sqZ v (hts v (rows.map fun r => cR r few (p.map (· + 1))))).sum = ((allP (v - 1) few.length).map fun p => (rows.map fun r => (rows.map fun s => phi v (0 + dotW p (few.map fun x => r.getD x.toNat 0 - s.getD x.toNat 0))).sum).sum).sum := by
    refine sum_congr fun p hp => ?_
    rw [sq_pairs v1 v2, List.map_map]
    refine sum_congr fun r _ => ?_
    show ((rows.map fun r => cR r few (p.map (· + 1))).map fun d => phi v (cR r few (p.map (· + 1)) - d)).sum = _
    rw [List.map_map]
    refine sum_congr fun s _ => ?_
    show phi v (cR r few (p.map (· + 1)) - cR s few (p.map (· + 1))) = _
    rw [cR_dot r s few p (allP_mem hp).1, Int.zero_add]
  have phi0 : phi v 0 = v - 1 := by
    have hv : v = 2 ∨ v = 3 ∨ v = 4 ∨ v = 5 := by omega
    rcases hv with rfl | rfl | rfl | rfl <;> decide
  rw [e1, sum_swap]
  unfold pairL
  rw [← sum_mul]
  refine sum_congr fun r hr => ?_
  rw [sum_swap, ← sum_mul]
  refine sum_congr fun s hs => ?_
  rw [phi_all v1 v2 0 few.length _ (by rw [List.length_map]), phi0, mul_like v1 r s few fun x hx => ⟨board_marks B hl r hr x hx, board_marks B hl s hs x hx⟩]
def levelB (v : Int) (h : List Int) : Bool := if v = 4 then decide (h.take 2 = h.drop 2) else decide (h.drop 1 = h.take (v - 1).toNat)
theorem msn (a : Int) : 0 ≤ a * a := by
  rcases Int.le_total 0 a with h | h
  · exact Int.mul_nonneg h h
  · have := Int.mul_nonneg (show 0 ≤ -a by omega) (show 0 ≤ -a by omega)
    rwa [Int.neg_mul_neg] at this
theorem msz {a : Int} (h : a * a = 0) : a = 0 := by
  rcases Int.mul_eq_zero.mp h with h | h <;> exact h
theorem sq_ok {v : Int} (v1 : 2 ≤ v) (v2 : v ≤ 5) {h : List Int} (hl : ((h.length : Nat) : Int) = v) : 0 ≤ sqZ v h ∧ (levelB v h = true ↔ sqZ v h = 0) := by
  have hv : v = 2 ∨ v = 3 ∨ v = 4 ∨ v = 5 := by omega
  unfold sqZ levelB
  rcases hv with rfl | rfl | rfl | rfl
  · match h, hl with
    | [a, b], _ =>
      rw [if_neg (by decide), if_neg (by decide)]
      have e : 2 * (([a, b] : List Int).map fun n => n * n).sum - ([a, b] : List Int).sum * ([a, b] : List Int).sum = (a - b) * (a - b) := by
        simp only [List.map_cons, List.map_nil, List.sum_cons, List.sum_nil]; grind
      rw [e, decide_eq_true_eq]
      refine ⟨msn _, fun z => ?_, fun z => ?_⟩
      · simp at z; rw [z]; simp
      · have := msz z
        simp; omega
  · match h, hl with
    | [a, b, c], _ =>
      rw [if_neg (by decide), if_neg (by decide)]
      have e : 3 * (([a, b, c] : List Int).map fun n => n * n).sum - ([a, b, c] : List Int).sum * ([a, b, c] : List Int).sum = (a - b) * (a - b) + (b - c) * (b - c) + (a - c) * (a - c) := by
        simp only [List.map_cons, List.map_nil, List.sum_cons, List.sum_nil]; grind
      have n1 := msn (a - b)
      have n2 := msn (b - c)
      have n3 := msn (a - c)
      rw [e, decide_eq_true_eq]
      refine ⟨by omega, fun z => ?_, fun z => ?_⟩
      · simp at z
        obtain ⟨z1, z2⟩ := z
        subst z1 z2
        simp
      · have z1 := msz (a := a - b) (by omega)
        have z2 := msz (a := b - c) (by omega)
        simp; omega
  · match h, hl with
    | [a, b, c, d], _ =>
      rw [if_pos rfl, if_pos rfl]
      simp only [List.getD_cons_zero, List.getD_cons_succ]
      have n1 := msn (a - c)
      have n2 := msn (b - d)
      rw [decide_eq_true_eq]
      refine ⟨by omega, fun z => ?_, fun z => ?_⟩
      · simp at z
        obtain ⟨z1, z2⟩ := z
        subst z1 z2
        simp
      · have z1 := msz (a := a - c) (by omega)
        have z2 := msz (a := b - d) (by omega)
        simp; omega
  · match h, hl with
    | [a, b, c, d, f], _ =>
      rw [if_neg (by decide), if_neg (by decide)]
      have e : 5 * (([a, b, c, d, f] : List Int).map fun n => n * n).sum - ([a, b, c, d, f] : List Int).sum * ([a, b, c, d, f] : List Int).sum = (a - b) * (a - b) + (b - c) * (b - c) + (c - d) * (c - d) + (d - f) * (d - f) + (a - c) * (a - c) + (a - d) * (a - d) + (a - f) * (a - f) + (b - d) * (b - d) + (b - f) * (b - f) + (c - f) * (c - f) := by
        simp only [List.map_cons, List.map_nil, List.sum_cons, List.sum_nil]; grind
      have n1 := msn (a - b)
      have n2 := msn (b - c)
      have n3 := msn (c - d)
      have n4 := msn (d - f)
      have n5 := msn (a - c)
      have n6 := msn (a - d)
      have n7 := msn (a - f)
      have n8 := msn (b - d)
      have n9 := msn (b - f)
      have n10 := msn (c - f)
      rw [e, decide_eq_true_eq]
      refine ⟨by omega, fun z => ?_, fun z => ?_⟩
      · simp at z
        obtain ⟨z1, z2, z3, z4⟩ := z
        subst z1 z2 z3 z4
        simp
      · have z1 := msz (a := a - b) (by omega)
        have z2 := msz (a := b - c) (by omega)
        have z3 := msz (a := c - d) (by omega)
        have z4 := msz (a := d - f) (by omega)
        simp; omega
theorem sum_zeroF {α : Type} {f : α → Int} : ∀ {l : List α}, (∀ x ∈ l, 0 ≤ f x) → ((l.map f).sum = 0 ↔ ∀ x ∈ l, f x = 0)
  | [], _ => by simp
  | x :: l, h => by
    have h0 := h x List.mem_cons_self
    have h1 := sum_nn (f := f) (l := l) fun y hy => h y (List.mem_cons_of_mem _ hy)
    have ih := sum_zeroF (l := l) fun y hy => h y (List.mem_cons_of_mem _ hy)
    rw [List.map_cons, List.sum_cons]
    constructor
    · intro z y hy
      rcases List.mem_cons.mp hy with rfl | hy
      · omega
      · exact ih.mp (by omega) y hy
    · intro z
      rw [z x List.mem_cons_self, ih.mpr fun y hy => z y (List.mem_cons_of_mem _ hy)]; rfl
theorem hts_len {v : Int} (v1 : 2 ≤ v) (cs : List Int) : (((hts v cs).length : Nat) : Int) = v := by
  unfold hts
  rw [List.length_map, rngI_len]; omega
theorem hts_at {v : Int} (cs : List Int) {j : Nat} (hj : j < v.toNat) : (hts v cs)[j]? = some (hM v cs (j : Nat)) := by
  unfold hts rngI
  rw [List.getElem?_map, List.getElem?_map, List.getElem?_range hj]
  simp
theorem hts_nil (v : Int) : hts v [] = List.replicate v.toNat 0 := by
  refine List.ext_getElem? fun j => ?_
  by_cases hj : j < v.toNat
  · rw [hts_at [] hj, List.getElem?_replicate, if_pos hj]; rfl
  · rw [List.getElem?_eq_none (by unfold hts; rw [List.length_map, rngI_len]; omega), List.getElem?_eq_none (by rw [List.length_replicate]; omega)]
theorem hM_snoc (v c m : Int) (cs : List Int) : hM v (cs ++ [c]) m = hM v cs m + if c % v = m then 1 else 0 := by
  unfold hM
  rw [List.map_append, List.sum_append]
  simp
theorem hts_snoc {v : Int} (v1 : 2 ≤ v) (c : Int) (cs : List Int) : hts v (cs ++ [c]) = (hts v cs).set (c % v).toNat ((hts v cs).getD (c % v).toNat 0 + 1) := by
  have h1 := Int.emod_nonneg c (b := v) (by omega)
  have h2 := Int.emod_lt_of_pos c (b := v) (by omega)
  have hl : (hts v cs).length = v.toNat := by
    have := hts_len v1 cs
    omega
  refine List.ext_getElem? fun j => ?_
  by_cases hj : j < v.toNat
  · rw [hts_at _ hj, hM_snoc]
    by_cases e : (c % v).toNat = j
    · rw [e, List.getElem?_set_self (by omega), List.getD_eq_getElem?_getD, hts_at _ hj, if_pos (by omega)]
      rfl
    · rw [List.getElem?_set_ne e, hts_at _ hj, if_neg (by omega), Int.add_zero]
  · rw [List.getElem?_eq_none (by have := hts_len v1 (cs ++ [c]); omega), List.getElem?_eq_none (by rw [List.length_set]; omega)]
theorem hM_bnd (v m : Int) (cs : List Int) : 0 ≤ hM v cs m ∧ hM v cs m ≤ (cs.length : Nat) := by
  unfold hM
  refine ⟨sum_nn fun c _ => by split <;> omega, ?_⟩
  have := sum_le (l := cs) (f := fun c => if c % v = m then (1 : Int) else 0) (g := fun _ => 1) fun c _ => by split <;> omega
  rw [sum_const, Int.one_mul] at this
  exact this
theorem hts_bnd (v : Int) (cs : List Int) : ∀ x ∈ hts v cs, 0 ≤ x ∧ x ≤ (cs.length : Nat) := by
  intro x hx
  unfold hts at hx
  obtain ⟨m, _, rfl⟩ := List.mem_map.mp hx
  exact hM_bnd v m cs
end Pv
end
section
set_option Elab.async false
set_option linter.all false
set_option maxRecDepth 100000
/-! Pw.Z: sums over all lots within a lot. -/
namespace Pv
open PySem L2
def prodF (g : Int → Int) : List Int → Int
  | [] => 1
  | x :: r => g x * prodF g r
theorem prod_snoc (g : Int → Int) (x : Int) : ∀ l, prodF g (l ++ [x]) = prodF g l * g x
  | [] => by simp [prodF]
  | y :: l => by rw [List.cons_append, prodF, prod_snoc g x l, prodF, Int.mul_assoc]
theorem prod_tail (g : Int → Int) : ∀ (d : Nat) (m : Int), prodF (fun x => 1 + g x) (rngI m d) = 1 + ((rngI m d).map fun x => g x * prodF (fun y => 1 + g y) (rngI (x + 1) (m + (d : Nat) - (x + 1)).toNat)).sum
  | 0, m => by simp [rngI, prodF]
  | d + 1, m => by
    have ih := prod_tail g d (m + 1)
    rw [rngI_succ, prodF, List.map_cons, List.sum_cons]
    have e1 : (m + 1 + (d : Nat) - (m + 1)).toNat = d := by omega
    have e2 : ∀ x : Int, m + ((d + 1 : Nat) : Int) - (x + 1) = m + 1 + (d : Nat) - (x + 1) := fun x => by omega
    simp only [e2, e1]
    generalize hs : ((rngI (m + 1) d).map fun x => g x * prodF (fun y => 1 + g y) (rngI (x + 1) (m + 1 + (d : Nat) - (x + 1)).toNat)).sum = s at ih ⊢
    generalize prodF (fun x => 1 + g x) (rngI (m + 1) d) = w at ih ⊢
    rw [Int.add_mul, Int.one_mul]
    omega
def tailG (g : Int → Int) (k m : Int) : Int := prodF (fun x => 1 + g x) (rngI m (k - m).toNat)
theorem tailG_eq (g : Int → Int) {k m : Int} (h : m ≤ k) : tailG g k m = 1 + ((rngI m (k - m).toNat).map fun x => g x * tailG g k (x + 1)).sum := by
  have := prod_tail g (k - m).toNat m
  unfold tailG
  rw [this]
  have e : m + ((k - m).toNat : Nat) = k := by omega
  rw [e]
theorem lots_none {k : Int} (hk : 0 ≤ k) : lotsL k (k.toNat + 1) = [] := by
  cases h : lotsL k (k.toNat + 1) with
  | nil => rfl
  | cons p r =>
    have hp : p ∈ lotsL k (k.toNat + 1) := by rw [h]; exact List.mem_cons_self
    obtain ⟨h1, h2, h3⟩ := lots_mem.mp hp
    have := nodup_sub (b := rngI 0 k.toNat) h3.nodup fun x hx => mem_rngI.mpr (by have := h2 x hx; omega)
    rw [rngI_len] at this
    omega
theorem sub_step (g : Int → Int) {k : Int} (hk : 0 ≤ k) (n : Nat) : ((lotsL k n).map fun p => prodF g p * tailG g k (lo p)).sum = ((lotsL k n).map (prodF g)).sum + ((lotsL k (n + 1)).map fun p => prodF g p * tailG g k (lo p)).sum := by
  rw [show lotsL k (n + 1) = (lotsL k n).flatMap (extL k) from rfl, List.map_flatMap, sum_flat, ← sum_add]
  refine sum_congr fun p hp => ?_
  have hl := (lo_ok (lots_ok hk n p hp).1 hk).2
  rw [tailG_eq g hl, Int.mul_add, Int.mul_one]
  unfold extL
  rw [List.map_map, ← sum_mul]
  congr 1
  refine sum_congr fun x _ => ?_
  show _ = prodF g (p ++ [x]) * tailG g k (lo (p ++ [x]))
  rw [prod_snoc, lo_snoc, Int.mul_assoc]
theorem sub_tel (g : Int → Int) {k : Int} (hk : 0 ≤ k) : ∀ n : Nat, tailG g k 0 = 1 + ((rngI 1 n).map fun t => ((lotsL k t.toNat).map (prodF g)).sum).sum + ((lotsL k (n + 1)).map fun p => prodF g p * tailG g k (lo p)).sum
  | 0 => by
    have := sub_step g hk 0
    simp only [lotsL, List.map_cons, List.map_nil, List.sum_cons, List.sum_nil, lo_nil, prodF, Int.one_mul, Int.add_zero, rngI, List.range_zero] at this ⊢
    exact this
  | n + 1 => by
    have ih := sub_tel g hk n
    have st := sub_step g hk (n + 1)
    rw [rngI_snoc, List.map_append, List.sum_append, List.map_cons, List.map_nil, List.sum_cons, List.sum_nil]
    have e : (1 + ((n : Nat) : Int)).toNat = n + 1 := by omega
    rw [e]
    omega
/-- all products over all lots, the empty one aside -/
theorem sub_all (g : Int → Int) {k : Int} (hk : 0 ≤ k) : prodF (fun x => 1 + g x) (rngI 0 k.toNat) = 1 + ((rngI 1 k.toNat).map fun t => ((lotsL k t.toNat).map (prodF g)).sum).sum := by
  have h := sub_tel g hk k.toNat
  rw [lots_none hk] at h
  simp only [List.map_nil, List.sum_nil, Int.add_zero] at h
  rw [← h]
  unfold tailG
  rw [Int.sub_zero]
theorem like_sub (v : Int) (a b : List Int) (s : Int → Int) : ∀ P : List Int, likeP v ((marksL a (P.map s)).zip (marksL b (P.map s))) = prodF (fun x => if a.getD (s x).toNat 0 = b.getD (s x).toNat 0 then v - 1 else -1) P
  | [] => rfl
  | x :: P => by
    have ih := like_sub v a b s P
    unfold marksL at ih ⊢
    rw [List.map_cons, List.map_cons, List.map_cons, List.zip_cons_cons, likeP, ih, prodF]
theorem like_whole (v : Int) (a b : List Int) (s : Int → Int) : ∀ P : List Int, prodF (fun x => 1 + if a.getD (s x).toNat 0 = b.getD (s x).toNat 0 then v - 1 else -1) P = if marksL a (P.map s) = marksL b (P.map s) then v ^ P.length else 0
  | [] => by simp [prodF, marksL]
  | x :: P => by
    have ih := like_whole v a b s P
    unfold marksL at ih ⊢
    rw [prodF, ih, List.map_cons, List.map_cons, List.map_cons, List.length_cons, Int.pow_succ]
    simp only [List.cons.injEq]
    by_cases h1 : a.getD (s x).toNat 0 = b.getD (s x).toNat 0
    · by_cases h2 : List.map (fun i => a.getD i.toNat 0) (P.map s) = List.map (fun i => b.getD i.toNat 0) (P.map s)
      · rw [if_pos h1, if_pos h2, if_pos ⟨h1, h2⟩, Int.mul_comm]
        congr 1; omega
      · rw [if_neg h2, Int.mul_zero, if_neg fun z => h2 z.2]
    · rw [if_neg h1, if_neg (show ¬ (_ ∧ _) from fun z => h1 z.1)]
      simp
theorem at_all (l : List Int) : (rngI 0 l.length).map (fun x => l.getD x.toNat 0) = l := by
  refine List.ext_getElem? fun i => ?_
  rw [List.getElem?_map]
  unfold rngI
  rw [List.getElem?_map]
  by_cases h : i < l.length
  · rw [List.getElem?_range h, List.getElem?_eq_getElem h]
    show some (l.getD (0 + (i : Nat) : Int).toNat 0) = _
    rw [show (0 + (i : Nat) : Int).toNat = i by omega, List.getD_eq_getElem?_getD, List.getElem?_eq_getElem h]
    rfl
  · rw [List.getElem?_eq_none (by simp; omega), List.getElem?_eq_none (by omega)]; rfl
/-- the pairs of rows that are alike on a lot -/
def eqPairs (rows : List (List Int)) (lot : List Int) : Int := (rows.map fun a => (rows.map fun b => if marksL a lot = marksL b lot then (1 : Int) else 0).sum).sum
/-- all leans' pairs within a lot -/
theorem leans_all (v : Int) (rows : List (List Int)) (lot : List Int) :
    ((rngI 1 lot.length).map fun t => ((lotsL (lot.length : Nat) t.toNat).map fun P => pairL v rows (P.map fun x => lot.getD x.toNat 0)).sum).sum = v ^ lot.length * eqPairs rows lot - ((rows.length : Nat) : Int) * (rows.length : Nat) := by
  have h : ∀ a b : List Int, ((rngI 1 lot.length).map fun t => ((lotsL (lot.length : Nat) t.toNat).map fun P => likeP v ((marksL a (P.map fun x => lot.getD x.toNat 0)).zip (marksL b (P.map fun x => lot.getD x.toNat 0)))).sum).sum = v ^ lot.length * (if marksL a lot = marksL b lot then (1 : Int) else 0) - 1 := fun a b => by
    have h1 := sub_all (fun x => if a.getD (lot.getD x.toNat 0).toNat 0 = b.getD (lot.getD x.toNat 0).toNat 0 then v - 1 else -1) (k := (lot.length : Nat)) (by omega)
    rw [like_whole v a b (fun x => lot.getD x.toNat 0), rngI_len, Int.toNat_natCast, at_all] at h1
    have e : ((rngI 1 lot.length).map fun t => ((lotsL (lot.length : Nat) t.toNat).map fun P => likeP v ((marksL a (P.map fun x => lot.getD x.toNat 0)).zip (marksL b (P.map fun x => lot.getD x.toNat 0)))).sum).sum = ((rngI 1 lot.length).map fun t => ((lotsL (lot.length : Nat) t.toNat).map (prodF fun x => if a.getD (lot.getD x.toNat 0).toNat 0 = b.getD (lot.getD x.toNat 0).toNat 0 then v - 1 else -1)).sum).sum :=
      sum_congr fun t _ => sum_congr fun P _ => like_sub v a b _ P
    rw [e]
    by_cases z : marksL a lot = marksL b lot
    · rw [if_pos z] at h1 ⊢
      omega
    · rw [if_neg z] at h1 ⊢
      omega
  have e2 : ((rngI 1 lot.length).map fun t => ((lotsL (lot.length : Nat) t.toNat).map fun P => pairL v rows (P.map fun x => lot.getD x.toNat 0)).sum).sum = (rows.map fun a => (rows.map fun b => v ^ lot.length * (if marksL a lot = marksL b lot then (1 : Int) else 0) + -1).sum).sum := by
    have e3 : ∀ t : Int, ((lotsL (lot.length : Nat) t.toNat).map fun P => pairL v rows (P.map fun x => lot.getD x.toNat 0)).sum = (rows.map fun a => (rows.map fun b => ((lotsL (lot.length : Nat) t.toNat).map fun P => likeP v ((marksL a (P.map fun x => lot.getD x.toNat 0)).zip (marksL b (P.map fun x => lot.getD x.toNat 0)))).sum).sum).sum := fun t => by
      unfold pairL
      rw [sum_swap]
      refine sum_congr fun a _ => ?_
      rw [sum_swap]
    rw [sum_congr fun t _ => e3 t, sum_swap]
    refine sum_congr fun a _ => ?_
    rw [sum_swap]
    refine sum_congr fun b _ => ?_
    rw [h a b]; rfl
  rw [e2]
  have e4 : ∀ a : List Int, (rows.map fun b => v ^ lot.length * (if marksL a lot = marksL b lot then (1 : Int) else 0) + -1).sum = v ^ lot.length * (rows.map fun b => if marksL a lot = marksL b lot then (1 : Int) else 0).sum + -1 * ((rows.length : Nat) : Int) := fun a => by
    rw [sum_add, sum_mul, sum_const]
  rw [sum_congr fun a _ => e4 a, sum_add, sum_mul, sum_const]
  unfold eqPairs
  rw [show -1 * ((rows.length : Nat) : Int) * ((rows.length : Nat) : Int) = -(((rows.length : Nat) : Int) * ((rows.length : Nat) : Int)) by rw [Int.mul_assoc, Int.neg_mul, Int.one_mul]]
  rfl
theorem eq_tally {rows : List (List Int)} {lot : List Int} {T : List (List Int × Int)} (h : TallyOk (rows.map fun r => marksL r lot) T) : eqPairs rows lot = (T.map fun q => q.2 * q.2).sum := by
  unfold eqPairs
  have h1 := h.sum fun p => (rows.map fun b => if p = marksL b lot then (1 : Int) else 0).sum
  rw [List.map_map] at h1
  have e : (rows.map ((fun p => (rows.map fun b => if p = marksL b lot then (1 : Int) else 0).sum) ∘ fun r => marksL r lot)).sum = (rows.map fun a => (rows.map fun b => if marksL a lot = marksL b lot then (1 : Int) else 0).sum).sum := rfl
  rw [← e, ← h1]
  refine sum_congr fun q hq => ?_
  have h2 := h.sum fun p => if p = q.1 then (1 : Int) else 0
  rw [List.map_map, (sum_one_at h.nd).1 q hq rfl] at h2
  congr 1
  rw [h2]
  refine sum_congr fun b _ => ?_
  show (if q.1 = marksL b lot then (1 : Int) else 0) = if marksL b lot = q.1 then 1 else 0
  by_cases z : q.1 = marksL b lot
  · rw [if_pos z, if_pos z.symm]
  · rw [if_neg z, if_neg fun y => z y.symm]
/-- the unevenness, from a tally -/
theorem uneven_tally {rows : List (List Int)} {lot : List Int} {T : List (List Int × Int)} (h : TallyOk (rows.map fun r => marksL r lot) T) (V : Int) :
    (T.map fun q => (q.2 * V - ((rows.length : Nat) : Int)) * (q.2 * V - ((rows.length : Nat) : Int))).sum + (V - ((T.length : Nat) : Int)) * ((rows.length : Nat) : Int) * ((rows.length : Nat) : Int) = V * (V * eqPairs rows lot - ((rows.length : Nat) : Int) * (rows.length : Nat)) := by
  have hs : (T.map fun q => q.2).sum = ((rows.length : Nat) : Int) := by
    have := h.sum (fun _ => 1)
    rw [sum_const, List.length_map, Int.one_mul] at this
    rw [← this]
    exact sum_congr fun q _ => by omega
  obtain ⟨N, hN⟩ : ∃ N : Int, N = ((rows.length : Nat) : Int) := ⟨_, rfl⟩
  rw [eq_tally h]
  rw [← hN] at hs ⊢
  have e : (T.map fun q => (q.2 * V - N) * (q.2 * V - N)).sum = (T.map fun q => V * V * (q.2 * q.2) + ((-2 * V * N) * q.2 + N * N)).sum := sum_congr fun q _ => by grind
  rw [e, sum_add, sum_add, sum_mul, sum_mul, sum_const, hs]
  grind
end Pv
end
section
set_option Elab.async false
set_option linter.all false
set_option maxRecDepth 100000
/-! Pw.Za: all lots; dicts by rows; texts of fractions; even exactly without leans. -/
namespace Pv
open PySem L2
/-- all lots of fewer than n keys -/
def allU (k : Int) (n : Nat) : List (List Int) := (rngI 0 n).flatMap fun t => lotsL k t.toNat
theorem allU_snoc (k : Int) (n : Nat) : allU k (n + 1) = allU k n ++ lotsL k n := by
  unfold allU
  rw [rngI_snoc, List.flatMap_append, List.flatMap_cons, List.flatMap_nil, List.append_nil]
  congr 2
  omega
theorem mem_allU {k : Int} {n : Nat} {l : List Int} : l ∈ allU k n ↔ l.length < n ∧ LotOk k l ∧ Asc l := by
  unfold allU
  rw [List.mem_flatMap]
  constructor
  · rintro ⟨t, ht, h⟩
    have := mem_rngI.mp ht
    obtain ⟨h1, h2, h3⟩ := lots_mem.mp h
    exact ⟨by omega, h2, h3⟩
  · rintro ⟨h1, h2, h3⟩
    exact ⟨(l.length : Nat), mem_rngI.mpr (by omega), lots_mem.mpr ⟨by simp, h2, h3⟩⟩
theorem asc_len {k : Int} {l : List Int} (hk : 0 ≤ k) (h2 : LotOk k l) (h3 : Asc l) : l.length ≤ k.toNat := by
  have := nodup_sub (b := rngI 0 k.toNat) h3.nodup fun x hx => mem_rngI.mpr (by have := h2 x hx; omega)
  rwa [rngI_len] at this
/-- all lots of k keys -/
def allL (k : Int) : List (List Int) := allU k (k.toNat + 1)
theorem mem_allL {k : Int} {l : List Int} (hk : 0 ≤ k) : l ∈ allL k ↔ LotOk k l ∧ Asc l := by
  unfold allL
  rw [mem_allU]
  exact ⟨fun h => h.2, fun h => ⟨by have := asc_len hk h.1 h.2; omega, h⟩⟩
theorem asc_nodup : ∀ {L : List (List Int)}, L.Pairwise (fun a b => a ≠ b) → L.Nodup := fun h => h
theorem lots_nodup {k : Int} : ∀ n : Nat, (lotsL k n).Nodup
  | 0 => by simp [lotsL]
  | n + 1 => by
    have ih := lots_nodup (k := k) n
    unfold lotsL List.Nodup
    rw [List.pairwise_flatMap]
    refine ⟨fun p _ => ?_, List.Pairwise.imp (fun {p q} hpq => ?_) ih⟩
    · unfold extL
      rw [List.pairwise_map]
      exact List.Pairwise.imp (fun {a b} h z => h (by simpa using z)) (rngI_nodup (lo p) (k - lo p).toNat)
    · intro a ha b hb z
      subst z
      obtain ⟨x, _, rfl⟩ := List.mem_map.mp ha
      obtain ⟨y, _, e⟩ := List.mem_map.mp hb
      exact hpq (List.append_inj_left' e rfl).symm
theorem allU_nodup {k : Int} : ∀ n : Nat, (allU k n).Nodup
  | 0 => by simp [allU, rngI]
  | n + 1 => by
    rw [allU_snoc, List.nodup_append]
    refine ⟨allU_nodup n, lots_nodup n, fun a ha b hb z => ?_⟩
    subst z
    have h1 := (mem_allU.mp ha).1
    have h2 := (lots_mem.mp hb).1
    omega
/-! ### dicts by rows -/
def rwD (L : List (List Int)) (g : List Int → Dt) : Dt := .dict (L.map fun l => (rowD l, g l))
theorem get_R (L : List (List Int)) (g : List Int → Dt) (p : List Int) : getD false (L.map fun l => (rowD l, g l)) (rowD p) = some (if p ∈ L then some (g p) else none) := by
  have e : ∀ M : List (List Int), getD false (M.map fun l => (rowD l, g l)) (rowD p) = getT (M.map fun l => (rowD l, g l)) (p.map Sum.inl) := fun M => by
    show (if false = true then none else match keysD (p.map .int) with
      | some j => getT (M.map fun l => (rowD l, g l)) j
      | none => none) = _
    rw [if_neg (by decide), keys_ints]
  rw [e]
  induction L with
  | nil => rfl
  | cons q L ih =>
    show (match keysD (q.map .int) with
      | some j => if j = p.map Sum.inl then some (some (g q)) else getT (L.map fun l => (rowD l, g l)) (p.map Sum.inl)
      | none => none) = _
    rw [keys_ints]
    by_cases h : q = p
    · subst h
      simp
    · have h2 : ¬ q.map (Sum.inl : Int → Key) = p.map Sum.inl := fun z => h (inl_inj.mp z)
      simp only [if_neg h2, ih, List.mem_cons]
      have h3 : ¬ p = q := fun z => h z.symm
      simp only [h3, false_or]
theorem ix_R {L : List (List Int)} {g : List Int → Dt} {p : List Int} (h : p ∈ L) : ixD false (rwD L g) (rowD p) = some (g p) := by
  show (match getD false (L.map fun l => (rowD l, g l)) (rowD p) with
    | some (some v) => some v
    | _ => none) = _
  rw [get_R, if_pos h]
theorem put_R {L : List (List Int)} {g : List Int → Dt} {p : List Int} (h : p ∉ L) (hl : L.length < line) : storeD false (rwD L g) (rowD p) (g p) = some (rwD (L ++ [p]) g) := by
  show (match getD false (L.map fun l => (rowD l, g l)) (rowD p) with
    | some _ => if (L.map fun l => (rowD l, g l)).length < line then some (PyData.dict (putD (L.map fun l => (rowD l, g l)) (rowD p) (g p))) else none
    | none => none) = _
  rw [get_R]
  simp only []
  rw [if_pos (by rw [List.length_map]; exact hl)]
  unfold rwD putD
  have ha : ((L.map fun l => (rowD l, g l)).any fun x => PyData.eqv x.1 (rowD p)) = false := by
    rw [List.any_map, List.any_eq_false]
    intro q hq z
    have e : PyData.eqv (rowD q) (rowD p) = decide (q = p) := eqv_row q p
    have z' : PyData.eqv (rowD q) (rowD p) = true := z
    rw [e] at z'
    exact h (of_decide_eq_true z' ▸ hq)
  rw [ha, if_neg (by decide), List.map_append]; rfl
/-! ### lists of texts -/
def strL (l : List Str) : Dt := .list (l.map .str)
theorem sh_strs (l : List Str) (h : ∀ x ∈ l, PyData.strOk x = true) : SeqAt.shaped (strL l) = true := by
  have h1 : PyData.canLayAll0 (l.map .str) = true := by
    induction l with
    | nil => simp [PyData.canLayAll0]
    | cons x l ih => simp [PyData.canLayAll0, PyData.canLay0, h x List.mem_cons_self, ih fun y hy => h y (List.mem_cons_of_mem _ hy)]
  have h2 : ∀ l : List Str, PyData.depthAll (l.map .str) ≤ 1 := by
    intro l
    induction l with
    | nil => simp [PyData.depthAll]
    | cons x l ih =>
      simp only [List.map_cons, PyData.depthAll, PyData.depth]
      omega
  have := h2 l
  simp only [strL, SeqAt.shaped, PyData.canLay0, h1, PyData.depth, Bool.true_and]
  exact decide_eq_true (by omega)
theorem eqv_strs : ∀ a b : List Str, PyData.eqvAll (a.map .str) (b.map .str) = decide (a = b)
  | [], [] => by simp [PyData.eqvAll]
  | [], _ :: _ => by simp [PyData.eqvAll]
  | _ :: _, [] => by simp [PyData.eqvAll]
  | x :: a, y :: b => by
    simp only [List.map_cons, PyData.eqvAll, PyData.eqv, eqv_strs a b]
    by_cases h : x = y <;> by_cases h2 : a = b <;> simp [h, h2]
theorem c_eqStrs (kt : Bool) {a b : List Str} (ha : ∀ x ∈ a, PyData.strOk x = true) (hb : ∀ x ∈ b, PyData.strOk x = true) : cmpD kt .Eq (strL a) (strL b) = some (decide (a = b)) := by
  have e : PyData.eqv (strL a) (strL b) = decide (a = b) := eqv_strs a b
  simp only [cmpD, sh_strs a ha, sh_strs b hb, and_self, if_true, e]
theorem c_neBB (kt : Bool) (a b : Bool) : cmpD kt .NotEq (.bool a) (.bool b) = some (!decide (a = b)) := by
  cases a <;> cases b <;> simp [cmpD, SeqAt.shaped, PyData.canLay0, PyData.depth, PyData.eqv]
/-! ### texts of fractions -/
theorem txt_nat (m : Nat) : (Str.ofString (toString ((m : Nat) : Int))).cps.toList = (Nat.toDigits 10 m).map Char.toNat := by
  have e : toString ((m : Nat) : Int) = Nat.repr m := rfl
  rw [e, Str.ofString_eq_toList, Nat.toList_repr]
theorem txt_zero {m : Nat} (h : (Str.ofString (toString ((m : Nat) : Int))).cps.toList = [48]) : m = 0 := by
  rw [txt_nat] at h
  obtain ⟨c, hc, e⟩ : ∃ c, Nat.toDigits 10 m = [c] ∧ c.toNat = 48 := by
    cases hd : Nat.toDigits 10 m with
    | nil => rw [hd] at h; cases h
    | cons c r =>
      rw [hd] at h
      simp only [List.map_cons, List.cons.injEq, List.map_eq_nil_iff] at h
      exact ⟨c, by rw [h.2], h.1⟩
  have hz : c = '0' := Char.toNat_inj.mp e
  have := Nat.ofDigitChars_toDigits (b := 10) (n := m) (by decide) (by decide)
  rw [hc, hz] at this
  rw [← this]
  decide
theorem no_comma (m : Nat) : 44 ∉ (Str.ofString (toString ((m : Nat) : Int))).cps.toList := by
  rw [txt_nat]
  intro h
  obtain ⟨c, hc, e⟩ := List.mem_map.mp h
  have := Nat.isDigit_of_mem_toDigits (by decide) (by decide) hc
  rw [Char.isDigit] at this
  simp only [ge_iff_le, Bool.and_eq_true, decide_eq_true_eq] at this
  have h1 : (48 : Nat) ≤ c.toNat := this.1
  omega
theorem cut_comma {a b r s : List Nat} (ha : 44 ∉ a) (hb : 44 ∉ b) (h : a ++ 44 :: r = b ++ 44 :: s) : a = b := by
  induction a generalizing b with
  | nil =>
    cases b with
    | nil => rfl
    | cons y b =>
      rw [List.nil_append, List.cons_append] at h
      cases h
      exact absurd List.mem_cons_self hb
  | cons x a ih =>
    cases b with
    | nil =>
      rw [List.nil_append, List.cons_append] at h
      cases h
      exact absurd List.mem_cons_self ha
    | cons y b =>
      rw [List.cons_append, List.cons_append] at h
      obtain ⟨h1, h2⟩ := List.cons.inj h
      rw [h1, ih (fun z => ha (List.mem_cons_of_mem _ z)) (fun z => hb (List.mem_cons_of_mem _ z)) h2]
theorem two_text (a b : Int) : ((rowD [a, b]).shown).cps.toList = 40 :: ((Str.ofString (toString a)).cps.toList ++ 44 :: (32 :: (Str.ofString (toString b)).cps.toList ++ [41])) := by
  have e : (rowD [a, b]).shown = (("(" : Str) ++ (Str.ofString (toString a) ++ ", " ++ Str.ofString (toString b)) ++ (")" : Str)) := rfl
  rw [e]
  simp only [Str.cps_append, Array.toList_append]
  have e1 : ("(" : Str).cps.toList = [40] := by decide +kernel
  have e2 : (", " : Str).cps.toList = [44, 32] := by decide +kernel
  have e3 : (")" : Str).cps.toList = [41] := by decide +kernel
  rw [e1, e2, e3]
  simp
/-- the text of a fraction not below 0 tells whether it is 0 -/
theorem text_zero {P N : Int} (hN : 0 < N) (h0 : 0 ≤ P) : (lowD P N).shown = ("(0, 1)" : Str) ↔ P = 0 := by
  have g0 := gI_pos (n := P) hN
  constructor
  · intro h
    have h1 := two_text (P / gI P N) (N / gI P N)
    have e : ("(0, 1)" : Str).cps.toList = 40 :: ([48] ++ 44 :: (32 :: [49] ++ [41])) := by decide +kernel
    have h2 : (lowD P N).shown = (rowD [P / gI P N, N / gI P N]).shown := rfl
    rw [← h2, h, e] at h1
    obtain ⟨m, hm⟩ : ∃ m : Nat, P / gI P N = (m : Nat) := ⟨(P / gI P N).toNat, by have := Int.ediv_nonneg h0 (show 0 ≤ gI P N by omega); omega⟩
    rw [hm] at h1
    have h3 := cut_comma (by decide) (no_comma m) (List.cons.inj h1).2
    have h4 := txt_zero h3.symm
    have h5 := low_mul_left P N
    rw [hm, h4] at h5
    simpa using h5.symm
  · intro h
    rw [h, low_zero hN]
    decide +kernel
/-! ### even exactly without leans -/
theorem pair_nn {v k : Int} (v1 : 2 ≤ v) (v2 : v ≤ 5) {rows : List (List Int)} (B : Board v k rows) {lot : List Int} (hl : LotOk k lot) : 0 ≤ pairL v rows lot := by
  have h := squares v1 v2 B hl
  have h2 : 0 ≤ ((allP (v - 1) lot.length).map fun p => sqZ v (hts v (rows.map fun r => cR r lot (p.map (· + 1))))).sum := sum_nn fun p _ => (sq_ok v1 v2 (hts_len v1 _)).1
  rw [h] at h2
  by_cases z : 0 ≤ pairL v rows lot
  · exact z
  · have : (v - 1) * pairL v rows lot < 0 := Int.mul_neg_of_pos_of_neg (by omega) (by omega)
    omega
theorem even_pairs {v k : Int} (v1 : 2 ≤ v) {rows : List (List Int)} (B : Board v k rows) {lot : List Int} (hl : LotOk k lot) :
    evenB v rows lot = true ↔ v ^ lot.length * eqPairs rows lot = ((rows.length : Nat) : Int) * (rows.length : Nat) := by
  have hp : 0 < rows.length := List.length_pos_iff.mpr B.ne
  have ok := tally_is (rows.map fun r => marksL r lot)
  obtain ⟨T, hT⟩ : ∃ T, T = (rows.map fun r => marksL r lot).foldl addT [] := ⟨_, rfl⟩
  rw [← hT] at ok
  have hm := board_marks B hl
  have hV : 0 < v ^ lot.length := Int.pow_pos (by omega)
  have hlen := allP_len (v := v) (by omega) lot.length
  have hTle : ((T.length : Nat) : Int) ≤ v ^ lot.length := by
    have := nodup_sub ok.nd (b := allP v lot.length) fun p hp => by
      obtain ⟨q, hq, rfl⟩ := List.mem_map.mp hp
      exact pat_ok hm _ (ok.sub q hq)
    rw [List.length_map] at this
    omega
  have hun := uneven_tally ok (v ^ lot.length)
  rw [even_tally (by omega) B.ne ok hm]
  obtain ⟨V, eV⟩ : ∃ V : Int, V = v ^ lot.length := ⟨_, rfl⟩
  obtain ⟨N, eN⟩ : ∃ N : Int, N = ((rows.length : Nat) : Int) := ⟨_, rfl⟩
  rw [← eV] at hV hTle hun ⊢
  rw [← eN] at hun ⊢
  have hN : 0 < N := by omega
  have hs0 : 0 ≤ (T.map fun q => (q.2 * V - N) * (q.2 * V - N)).sum := sum_nn fun q _ => msn _
  have hm0 : 0 ≤ (V - ((T.length : Nat) : Int)) * N * N := Int.mul_nonneg (Int.mul_nonneg (by omega) (by omega)) (by omega)
  constructor
  · rintro ⟨h1, h2⟩
    have z : (T.map fun q => (q.2 * V - N) * (q.2 * V - N)).sum = 0 := (sum_zeroF fun q _ => msn _).mpr fun q hq => by rw [h2 q hq, Int.sub_self, Int.zero_mul]
    rw [z, h1, Int.sub_self, Int.zero_mul, Int.zero_mul, Int.zero_add] at hun
    rcases Int.mul_eq_zero.mp hun.symm with h | h <;> omega
  · intro h
    rw [h, Int.sub_self, Int.mul_zero] at hun
    have z1 := (sum_zeroF fun q _ => msn (q.2 * V - N)).mp (show (T.map fun q => (q.2 * V - N) * (q.2 * V - N)).sum = 0 by omega)
    have z2 : (V - ((T.length : Nat) : Int)) * N * N = 0 := by omega
    refine ⟨?_, fun q hq => ?_⟩
    · rcases Int.mul_eq_zero.mp z2 with h | h
      · rcases Int.mul_eq_zero.mp h with h | h <;> omega
      · omega
    · have := msz (z1 q hq)
      omega
theorem at_mem {lot : List Int} {x : Int} (h : 0 ≤ x ∧ x < (lot.length : Nat)) : lot.getD x.toNat 0 ∈ lot := by
  rw [List.getD_eq_getElem?_getD, List.getElem?_eq_getElem (show x.toNat < lot.length by omega)]
  exact List.getElem_mem _
theorem asc_at {lot P : List Int} (h : Asc lot) (hP : LotOk (lot.length : Nat) P) (hA : Asc P) : Asc (P.map fun x => lot.getD x.toNat 0) := by
  unfold Asc
  rw [List.pairwise_map]
  refine List.Pairwise.imp_of_mem (fun {a b} ha hb hab => ?_) hA
  have ya := hP a ha
  have yb := hP b hb
  rw [List.getD_eq_getElem?_getD, List.getD_eq_getElem?_getD, List.getElem?_eq_getElem (show a.toNat < lot.length by omega), List.getElem?_eq_getElem (show b.toNat < lot.length by omega)]
  exact List.pairwise_iff_getElem.mp h _ _ _ _ (by omega)
theorem asc_ix {lot : List Int} (h : Asc lot) {x y : Int} (hx : x ∈ lot) (hy : y ∈ lot) (hxy : x < y) : lot.idxOf x < lot.idxOf y := by
  have lx := List.idxOf_lt_length_iff.mpr hx
  have ly := List.idxOf_lt_length_iff.mpr hy
  have ex : lot[lot.idxOf x] = x := List.getElem_idxOf lx
  have ey : lot[lot.idxOf y] = y := List.getElem_idxOf ly
  rcases Nat.lt_trichotomy (lot.idxOf x) (lot.idxOf y) with c | c | c
  · exact c
  · have : x = y := by
      rw [← ex, ← ey]
      simp only [c]
    omega
  · have := List.pairwise_iff_getElem.mp h _ _ ly lx c
    rw [ex, ey] at this
    omega
/-- a lot is even exactly if no lot within it leans -/
theorem even_leans {v k : Int} (v1 : 2 ≤ v) (v2 : v ≤ 5) (hk : 0 ≤ k) {rows : List (List Int)} (B : Board v k rows) {lot : List Int} (hl : LotOk k lot) (ha : Asc lot) :
    evenB v rows lot = true ↔ ∀ e ∈ allL k, e ≠ [] → (∀ x ∈ e, x ∈ lot) → pairL v rows e = 0 := by
  have hall := leans_all v rows lot
  have hin : ∀ P : List Int, LotOk (lot.length : Nat) P → LotOk k (P.map fun x => lot.getD x.toNat 0) := fun P hP y hy => by
    obtain ⟨x, hx, rfl⟩ := List.mem_map.mp hy
    exact hl _ (at_mem (hP x hx))
  have hnn : ∀ P : List Int, LotOk (lot.length : Nat) P → 0 ≤ pairL v rows (P.map fun x => lot.getD x.toNat 0) := fun P hP => pair_nn v1 v2 B (hin P hP)
  have hz : ∀ t : Int, 0 ≤ ((lotsL (lot.length : Nat) t.toNat).map fun P => pairL v rows (P.map fun x => lot.getD x.toNat 0)).sum := fun t => sum_nn fun P hP => hnn P (lots_mem.mp hP).2.1
  rw [even_pairs v1 B hl]
  constructor
  · intro h e he hne hsub
    rw [h, Int.sub_self] at hall
    obtain ⟨e1, e2⟩ := (mem_allL hk).mp he
    obtain ⟨P, hP⟩ : ∃ P : List Int, P = e.map fun x => ((lot.idxOf x : Nat) : Int) := ⟨_, rfl⟩
    have hPm : P.map (fun x => lot.getD x.toNat 0) = e := by
      rw [hP, List.map_map]
      have : ∀ x ∈ e, ((fun x : Int => lot.getD x.toNat 0) ∘ fun x => ((lot.idxOf x : Nat) : Int)) x = x := fun x hx => by
        have lx := List.idxOf_lt_length_iff.mpr (hsub x hx)
        show lot.getD ((lot.idxOf x : Nat) : Int).toNat 0 = x
        rw [Int.toNat_natCast, List.getD_eq_getElem?_getD, List.getElem?_eq_getElem lx]
        exact List.getElem_idxOf lx
      rw [List.map_congr_left this, List.map_id']
    have hPl : P.length = e.length := by rw [hP, List.length_map]
    have hPo : LotOk (lot.length : Nat) P := fun y hy => by
      rw [hP] at hy
      obtain ⟨x, hx, rfl⟩ := List.mem_map.mp hy
      have lx := List.idxOf_lt_length_iff.mpr (hsub x hx)
      omega
    have hPa : Asc P := by
      rw [hP]
      unfold Asc
      rw [List.pairwise_map]
      refine List.Pairwise.imp_of_mem (fun {a b} ha' hb' hab => ?_) e2
      have := asc_ix ha (hsub a ha') (hsub b hb') hab
      omega
    have hle := asc_len (k := (lot.length : Nat)) (by omega) hPo hPa
    have hpos : 0 < e.length := List.length_pos_iff.mpr hne
    have h1 := (sum_zeroF fun t _ => hz t).mp hall ((P.length : Nat) : Int) (mem_rngI.mpr (by omega))
    have h2 := (sum_zeroF fun Q hQ => hnn Q (lots_mem.mp hQ).2.1).mp h1 P (lots_mem.mpr ⟨by simp, hPo, hPa⟩)
    rwa [hPm] at h2
  · intro h
    have : ((rngI 1 lot.length).map fun t => ((lotsL (lot.length : Nat) t.toNat).map fun P => pairL v rows (P.map fun x => lot.getD x.toNat 0)).sum).sum = 0 :=
      (sum_zeroF fun t _ => hz t).mpr fun t ht => (sum_zeroF fun Q hQ => hnn Q (lots_mem.mp hQ).2.1).mpr fun P hP => by
        have ht' := mem_rngI.mp ht
        obtain ⟨h1, h2, h3⟩ := lots_mem.mp hP
        refine h _ ((mem_allL hk).mpr ⟨hin P h2, asc_at ha h2 h3⟩) (fun z => ?_) fun x hx => ?_
        · rw [List.map_eq_nil_iff] at z
          rw [z] at h1
          simp at h1
          omega
        · obtain ⟨y, hy, rfl⟩ := List.mem_map.mp hx
          exact at_mem (h2 y hy)
    rw [this] at hall
    omega
end Pv
end
section
set_option Elab.async false
set_option linter.all false
set_option maxRecDepth 100000
/-! Pw.Zb: counts; tables beside one another. -/
namespace Pv
open PySem L2
theorem cnt_count {ps : List (List Int)} {T : List (List Int × Int)} (h : TallyOk ps T) (p : List Int) : cntT T p = ((ps.count p : Nat) : Int) := by
  unfold cntT
  cases hf : T.find? fun q => decide (q.1 = p) with
  | some q =>
    have hq := List.mem_of_find?_eq_some hf
    have e : q.1 = p := by simpa using List.find?_some hf
    rw [← e]
    exact h.cnt hq
  | none =>
    have : p ∉ ps := fun hp => by
      obtain ⟨q, hq, e⟩ := h.mem hp
      have := List.find?_eq_none.mp hf q hq
      exact this (decide_eq_true e)
    rw [List.count_eq_zero.mpr this]; rfl
theorem cnt_bnd {ps : List (List Int)} {T : List (List Int × Int)} (h : TallyOk ps T) (p : List Int) : 0 ≤ cntT T p ∧ cntT T p ≤ (ps.length : Nat) := by
  rw [cnt_count h]
  have := List.count_le_length (a := p) (l := ps)
  omega
theorem allU_len {k : Int} (hk : 0 ≤ k) (h4 : k ≤ 4) {n : Nat} (hn : n ≤ 5) : (allU k n).length ≤ 5120 := by
  unfold allU
  have h := flat_len (f := fun t : Int => lotsL k t.toNat) (b := 1024) (l := rngI 0 n) fun t ht => by
    have := mem_rngI.mp ht
    have h1 := lots_len hk t.toNat
    have h2 : k.toNat ^ t.toNat ≤ 4 ^ 5 := Nat.le_trans (Nat.pow_le_pow_left (show k.toNat ≤ 4 by omega) _) (Nat.pow_le_pow_right (by decide) (by omega))
    have h3 : (4 : Nat) ^ 5 = 1024 := by decide
    omega
  rw [rngI_len] at h
  have := Nat.mul_le_mul_right 1024 hn
  omega
theorem ext_lotsD {L m : List (List Int)} (h : L.length + m.length ≤ line) : extD (lotsD m) (lotsD L) = some (lotsD (L ++ m)) := ext_lots h
theorem cntP_app (a b : List (List Int)) (lot p : List Int) : cntP (a ++ b) lot p = cntP a lot p + cntP b lot p := by
  unfold cntP
  rw [List.map_append, List.count_append]
theorem even_app {v : Int} {a b : List (List Int)} {lot : List Int} (h1 : evenB v a lot = true) (h2 : evenB v b lot = true) : evenB v (a ++ b) lot = true := by
  unfold evenB at *
  rw [decide_eq_true_eq] at *
  intro p hp
  have e1 := h1 p hp
  have e2 := h2 p hp
  rw [cntP_app, List.length_append, Int.natCast_add, Int.add_mul, e1, e2]
  omega
theorem str_ge {ok : Nat → Bool} {k s m : Nat} (h : IsStr ok k s) (hm : m ≤ k) (hok : ∀ j, 1 ≤ j → j ≤ m → ok j = true) : m ≤ s := by
  obtain ⟨h1, h2, h3⟩ := h
  by_cases c : m ≤ s
  · exact c
  · have := h3 (by omega)
    rw [hok (s + 1) (by omega) (by omega)] at this
    cases this
theorem okU_app {v k : Int} {a b : List (List Int)} {j : Nat} (h1 : okU v k a j = true) (h2 : okU v k b j = true) : okU v k (a ++ b) j = true := by
  unfold okU at *
  rw [List.all_eq_true] at *
  exact fun l hl => even_app (h1 l hl) (h2 l hl)
/-- beside one another: as strong as the lesser one -/
theorem str_app (v k : Int) (a b : List (List Int)) : min (strB v k a) (strB v k b) ≤ strB v k (a ++ b) := by
  obtain ⟨a1, a2, a3⟩ := strB_is v k a
  obtain ⟨b1, b2, b3⟩ := strB_is v k b
  refine str_ge (strB_is v k (a ++ b)) (by omega) fun j h1 h2 => okU_app (a2 j h1 (by omega)) (b2 j h1 (by omega))
theorem cnt_app (a b : List (List Int)) (lot p : List Int) : cntT (tallyL (a ++ b) lot) p = cntT (tallyL a lot) p + cntT (tallyL b lot) p := by
  unfold tallyL
  rw [cnt_count (tally_is _), cnt_count (tally_is _), cnt_count (tally_is _), List.map_append, List.count_append]
  omega
theorem cnt_nil {rows : List (List Int)} : cntT (tallyL rows []) [] = ((rows.length : Nat) : Int) := by
  unfold tallyL
  rw [cnt_count (tally_is _)]
  congr 1
  have : (rows.map fun r => marksL r []) = List.replicate rows.length [] := by
    rw [List.eq_replicate_iff]
    refine ⟨by rw [List.length_map], fun x hx => ?_⟩
    obtain ⟨r, _, rfl⟩ := List.mem_map.mp hx
    rfl
  rw [this, List.count_replicate_self]
theorem rep_strs (z : Str) {n : Nat} (h : n ≤ line) : repD (.list [.str z]) (.int (n : Nat)) = some (strL (List.replicate n z)) := by
  have hline := line_val
  obtain ⟨m, hm⟩ : ∃ m : Int, m = (n : Nat) := ⟨_, rfl⟩
  rw [← hm]
  have hc : -(2 ^ 63) ≤ m ∧ m < 2 ^ 63 ∧ [PyData.str z].length * m.toNat ≤ line := ⟨by omega, by omega, by simp; omega⟩
  show (if -(2 ^ 63) ≤ m ∧ m < 2 ^ 63 ∧ [PyData.str z].length * m.toNat ≤ line then some (PyData.list (List.replicate m.toNat [PyData.str z]).flatten) else none) = _
  rw [if_pos hc, show m.toNat = n by omega]
  unfold strL
  rw [List.map_replicate]
  have : (List.replicate n [PyData.str z]).flatten = List.replicate n (.str z) := by simp
  rw [this]
end Pv
end
section
set_option Elab.async false
set_option linter.all false
set_option maxRecDepth 100000
/-! Pw.Zc: repr of long rows and boards of small ints. -/
namespace Pv
open PySem L2
theorem small_log {i : Int} (h : i.natAbs < 2 ^ 20) : (if (i == 0) = true then 0 else i.natAbs.log2 + 1) ≤ 20 := by
  split
  · omega
  · rename_i z
    have z0 : i.natAbs ≠ 0 := fun q => z (by simp; omega)
    have := (Nat.log2_lt z0).mpr h
    omega
theorem w_small : ∀ {l : List Int}, (∀ x ∈ l, x.natAbs < 2 ^ 20) → PyData.weightAll (l.map .int) ≤ l.length * 21 ∧ calmAll (l.map .int) = true
  | [], _ => by simp [PyData.weightAll, calmAll]
  | x :: l, h => by
    have h1 := w_small (l := l) fun y hy => h y (List.mem_cons_of_mem _ hy)
    have h0 := h x List.mem_cons_self
    have h2 := small_log h0
    simp only [List.map_cons, PyData.weightAll, PyData.weight, calmAll, calm, List.length_cons, Bool.and_eq_true, decide_eq_true_eq]
    exact ⟨by omega, Nat.lt_trans h0 (by decide), h1.2⟩
theorem repr_small {l : List Int} (h : ∀ x ∈ l, x.natAbs < 2 ^ 20) (hl : l.length ≤ 5000) : calm (rowD l) = true ∧ btD .repr [rowD l] = some (.str (rowD l).shown) := by
  obtain ⟨h1, h2⟩ := w_small h
  have hc : calm (rowD l) = true := by simpa only [rowD, calm] using h2
  refine ⟨hc, bt_repr hc ?_ ?_⟩
  · have := ints_depth l
    simp only [rowD, PyData.depth]; omega
  · simp only [rowD, PyData.weight]
    have : (2 : Nat) ^ 17 = 131072 := by decide
    omega
theorem w_rowsS {n : Nat} : ∀ {L : List (List Int)}, (∀ r ∈ L, r.length ≤ n ∧ ∀ x ∈ r, x.natAbs < 2 ^ 20) → PyData.weightAll (L.map rowD) ≤ L.length * (n * 21 + 1) ∧ calmAll (L.map rowD) = true ∧ PyData.depthAll (L.map rowD) ≤ 2
  | [], _ => by simp [PyData.weightAll, calmAll, PyData.depthAll]
  | r :: L, h => by
    obtain ⟨h1, h2, h3⟩ := w_rowsS (L := L) fun y hy => h y (List.mem_cons_of_mem _ hy)
    obtain ⟨a1, a2⟩ := h r List.mem_cons_self
    obtain ⟨b1, b2⟩ := w_small a2
    have b3 : r.length * 21 ≤ n * 21 := Nat.mul_le_mul_right _ a1
    have b4 := ints_depth r
    have b5 : calm (rowD r) = true := by simpa only [rowD, calm] using b2
    simp only [List.map_cons, PyData.weightAll, calmAll, PyData.depthAll, List.length_cons, Bool.and_eq_true, b5, h2, and_self, true_and]
    have e1 : (rowD r).weight = PyData.weightAll (r.map .int) := by simp only [rowD, PyData.weight]
    have e2 : (rowD r).depth = PyData.depthAll (r.map .int) + 1 := by simp only [rowD, PyData.depth]
    rw [e1, e2, Nat.add_mul]
    omega
/-- a board twice, told -/
theorem board_calm {v k : Int} (v2 : v ≤ 5) (k2 : k ≤ 8) {rows : List (List Int)} (B : Board v k rows) : calm (boardD rows) = true ∧ (boardD rows).depth ≤ 10 ∧ (boardD rows).weight ≤ 60000 := by
  have hf := B.few
  obtain ⟨h1, h2, h3⟩ := w_rowsS (n := 8) (L := rows) fun r hr => ⟨by rw [B.len r hr]; omega, fun x hx => by
    have := B.mks r hr x hx
    exact Nat.lt_of_le_of_lt (show x.natAbs ≤ 5 by omega) (by decide)⟩
  have e1 : (boardD rows).weight = PyData.weightAll (rows.map rowD) := by simp only [boardD, PyData.weight]
  have e2 : (boardD rows).depth = PyData.depthAll (rows.map rowD) + 1 := by simp only [boardD, PyData.depth]
  have e3 : calm (boardD rows) = true := by simpa only [boardD, calm] using h2
  refine ⟨e3, by omega, ?_⟩
  rw [e1]
  have : rows.length * (8 * 21 + 1) ≤ 128 * (8 * 21 + 1) := Nat.mul_le_mul_right _ hf
  omega
theorem board_add {a b : List (List Int)} (h : a.length + b.length ≤ line) : binD .Add (boardD a) (boardD b) = some (boardD (a ++ b)) := by
  unfold boardD
  rw [b_addr (by simpa using h), ← List.map_append]
theorem bt_min2 (i j : Int) : btD .min [.int i, .int j] = some (.int (if j < i then j else i)) := rfl
theorem app_board {v k : Int} {a b : List (List Int)} (A : Board v k a) (B : Board v k b) (h : a.length + b.length ≤ 128) : Board v k (a ++ b) :=
  ⟨by simp [A.ne], by rw [List.length_append]; omega, fun r hr => by
    rcases List.mem_append.mp hr with hr | hr
    · exact A.len r hr
    · exact B.len r hr, fun r hr => by
    rcases List.mem_append.mp hr with hr | hr
    · exact A.mks r hr
    · exact B.mks r hr⟩
end Pv
end
section
set_option Elab.async false
set_option linter.all false
set_option maxRecDepth 100000
/-! Pw.Zd: likenesses. -/
namespace Pv
open PySem L2
/-! ### lists of ints as own objects -/
theorem intl_ix {kt : Bool} {h : List Int} {a : Nat} (ha : a < h.length) : ixD kt (intL h) (.int (a : Nat)) = some (.int (h.getD a 0)) := by
  refine at_nat ?_
  rw [List.getElem?_map, List.getD_eq_getElem?_getD, List.getElem?_eq_getElem ha]; rfl
theorem intl_set {kt : Bool} {h : List Int} {a : Nat} (ha : a < h.length) (w : Int) : storeD kt (intL h) (.int (a : Nat)) (.int w) = some (intL (h.set a w)) := by
  show (ixN _ _).map _ = _
  have : ixN (h.map PyData.int).length (a : Nat) = some a := by
    unfold ixN
    rw [if_pos (by omega), if_pos (by rw [List.length_map]; omega)]
    simp
  rw [this]
  show some (PyData.list _) = _
  unfold intL
  rw [List.map_set]
theorem rep_zero {n : Nat} (h : n ≤ line) : repD (.list [.int 0]) (.int (n : Nat)) = some (intL (List.replicate n 0)) := by
  have hline := line_val
  obtain ⟨m, hm⟩ : ∃ m : Int, m = (n : Nat) := ⟨_, rfl⟩
  rw [← hm]
  have hc : -(2 ^ 63) ≤ m ∧ m < 2 ^ 63 ∧ [PyData.int 0].length * m.toNat ≤ line := ⟨by omega, by omega, by simp; omega⟩
  show (if -(2 ^ 63) ≤ m ∧ m < 2 ^ 63 ∧ [PyData.int 0].length * m.toNat ≤ line then some (PyData.list (List.replicate m.toNat [PyData.int 0]).flatten) else none) = _
  rw [if_pos hc, show m.toNat = n by omega]
  unfold intL
  rw [List.map_replicate]
  have : (List.replicate n [PyData.int 0]).flatten = List.replicate n (.int 0) := by simp
  rw [this]
theorem bt_lenI (l : List Int) : btD .len [intL l] = some (.int ((l.length : Nat) : Int)) := by
  show some (PyData.int (l.map PyData.int).length) = _
  rw [List.length_map]
theorem bt_lenRow (l : List Int) : btD .len [rowD l] = some (.int ((l.length : Nat) : Int)) := by
  show some (PyData.int (l.map PyData.int).length) = _
  rw [List.length_map]
theorem bt_lenB (rows : List (List Int)) : btD .len [boardD rows] = some (.int ((rows.length : Nat) : Int)) := by
  show some (PyData.int (rows.map rowD).length) = _
  rw [List.length_map]
/-! ### tallies by number -/
def accJ (ps : List (Nat × Int)) (j : Nat) : Int := (ps.map fun p => if p.1 = j then p.2 else 0).sum
def accL (k : Nat) (ps : List (Nat × Int)) : List Int := (List.range (k + 1)).map (accJ ps)
theorem accL_len (k : Nat) (ps : List (Nat × Int)) : (accL k ps).length = k + 1 := by unfold accL; rw [List.length_map, List.length_range]
theorem accL_at {k : Nat} {ps : List (Nat × Int)} {j : Nat} (h : j ≤ k) : (accL k ps)[j]? = some (accJ ps j) := by
  unfold accL
  rw [List.getElem?_map, List.getElem?_range (by omega)]; rfl
theorem accL_nil (k : Nat) : accL k [] = List.replicate (k + 1) 0 := by
  refine List.ext_getElem? fun j => ?_
  by_cases hj : j ≤ k
  · rw [accL_at hj, List.getElem?_replicate, if_pos (by omega)]; rfl
  · rw [List.getElem?_eq_none (by rw [accL_len]; omega), List.getElem?_eq_none (by rw [List.length_replicate]; omega)]
theorem accJ_snoc (ps : List (Nat × Int)) (i : Nat) (w : Int) (j : Nat) : accJ (ps ++ [(i, w)]) j = accJ ps j + if i = j then w else 0 := by
  unfold accJ
  rw [List.map_append, List.sum_append]
  simp
theorem accL_snoc {k : Nat} (ps : List (Nat × Int)) {i : Nat} (w : Int) (hi : i ≤ k) : accL k (ps ++ [(i, w)]) = (accL k ps).set i ((accL k ps).getD i 0 + w) := by
  refine List.ext_getElem? fun j => ?_
  by_cases hj : j ≤ k
  · rw [accL_at hj, accJ_snoc]
    by_cases e : i = j
    · subst e
      rw [List.getElem?_set_self (by rw [accL_len]; omega), List.getD_eq_getElem?_getD, accL_at hi, if_pos rfl]; rfl
    · rw [List.getElem?_set_ne e, accL_at hj, if_neg e, Int.add_zero]
  · rw [List.getElem?_eq_none (by rw [accL_len]; omega), List.getElem?_eq_none (by rw [List.length_set, accL_len]; omega)]
theorem accJ_app (a b : List (Nat × Int)) (j : Nat) : accJ (a ++ b) j = accJ a j + accJ b j := by
  unfold accJ
  rw [List.map_append, List.sum_append]
theorem accJ_flat {α : Type} (f : α → List (Nat × Int)) (l : List α) (j : Nat) : accJ (l.flatMap f) j = (l.map fun x => accJ (f x) j).sum := by
  induction l with
  | nil => rfl
  | cons x l ih => rw [List.flatMap_cons, accJ_app, ih, List.map_cons, List.sum_cons]
/-! ### likenesses -/
def unN (a b : List Int) : Nat := ((a.zip b).filter fun q => !decide (q.1 = q.2)).length
theorem unN_le {a b : List Int} {k : Nat} (h : a.length = k) : unN a b ≤ k := by
  unfold unN
  have h1 := List.length_filter_le (fun q : Int × Int => !decide (q.1 = q.2)) (a.zip b)
  rw [List.length_zip] at h1
  omega
theorem zip_at {a b : List Int} {k : Nat} (ha : a.length = k) (hb : b.length = k) : a.zip b = (rngI 0 k).map fun x => (a.getD x.toNat 0, b.getD x.toNat 0) := by
  refine List.ext_getElem? fun i => ?_
  rw [List.getElem?_map]
  unfold rngI
  rw [List.getElem?_map]
  by_cases h : i < k
  · rw [List.getElem?_range h, List.getElem?_eq_getElem (by rw [List.length_zip]; omega), List.getElem_zip]
    show _ = some (a.getD (0 + (i : Nat) : Int).toNat 0, b.getD (0 + (i : Nat) : Int).toNat 0)
    rw [show (0 + (i : Nat) : Int).toNat = i by omega, List.getD_eq_getElem?_getD, List.getD_eq_getElem?_getD, List.getElem?_eq_getElem (show i < a.length by omega), List.getElem?_eq_getElem (show i < b.length by omega)]
    rfl
  · rw [List.getElem?_eq_none (by rw [List.length_zip]; omega), List.getElem?_eq_none (by simp; omega)]; rfl
theorem unN_at {a b : List Int} {k : Nat} (ha : a.length = k) (hb : b.length = k) : unN a b = ((rngI 0 k).filter fun x => !decide (a.getD x.toNat 0 = b.getD x.toNat 0)).length := by
  unfold unN
  rw [zip_at ha hb, List.filter_map, List.length_map]; rfl
def likeP2 (rows : List (List Int)) : List (Nat × Int) := rows.flatMap fun a => rows.map fun b => (unN a b, 1)
/-- how many pairs of rows are unlike at each number of keys -/
def likeV (k : Nat) (rows : List (List Int)) : List Int := accL k (likeP2 rows)
theorem accJ_map {α : Type} (f : α → Nat) (g : α → Int) (l : List α) (j : Nat) : accJ (l.map fun x => (f x, g x)) j = (l.map fun x => if f x = j then g x else 0).sum := by
  unfold accJ
  rw [List.map_map]; rfl
theorem like_J (rows : List (List Int)) (j : Nat) : accJ (likeP2 rows) j = (rows.map fun a => (rows.map fun b => if unN a b = j then (1 : Int) else 0).sum).sum := by
  unfold likeP2
  rw [accJ_flat]
  exact sum_congr fun a _ => accJ_map (fun b => unN a b) (fun _ => 1) rows j
theorem like_bnd (k : Nat) (rows : List (List Int)) : ∀ x ∈ likeV k rows, 0 ≤ x ∧ x ≤ ((rows.length : Nat) : Int) * (rows.length : Nat) := by
  intro x hx
  unfold likeV accL at hx
  obtain ⟨j, _, rfl⟩ := List.mem_map.mp hx
  rw [like_J]
  refine ⟨sum_nn fun a _ => sum_nn fun b _ => by split <;> omega, ?_⟩
  have h1 := sum_le (l := rows) (f := fun a => (rows.map fun b => if unN a b = j then (1 : Int) else 0).sum) (g := fun _ => ((rows.length : Nat) : Int)) fun a _ => by
    have := sum_le (l := rows) (f := fun b => if unN a b = j then (1 : Int) else 0) (g := fun _ => 1) fun b _ => by split <;> omega
    rw [sum_const, Int.one_mul] at this
    exact this
  rw [sum_const] at h1
  exact h1
theorem marks_all {k : Nat} {r : List Int} (h : r.length = k) : marksL r (rngI 0 k) = r := by
  subst h
  exact at_all r
/-- the same from a tally -/
theorem like_tally {k : Nat} {rows : List (List Int)} (hr : ∀ r ∈ rows, r.length = k) {T : List (List Int × Int)} (h : TallyOk (rows.map fun r => marksL r (rngI 0 k)) T) :
    accL k (T.flatMap fun q => T.map fun r => (unN q.1 r.1, q.2 * r.2)) = likeV k rows := by
  have hm : rows.map (fun r => marksL r (rngI 0 k)) = rows := by
    have := List.map_congr_left (f := fun r => marksL r (rngI 0 k)) (g := fun r => r) (l := rows) fun r hr' => marks_all (hr r hr')
    rw [this, List.map_id']
  rw [hm] at h
  unfold likeV accL
  refine List.map_congr_left fun j _ => ?_
  rw [like_J, accJ_flat]
  have e1 : ∀ p : List Int, (T.map fun r => (if unN p r.1 = j then (1 : Int) else 0) * r.2).sum = (rows.map fun b => if unN p b = j then (1 : Int) else 0).sum := fun p => h.sum fun b => if unN p b = j then (1 : Int) else 0
  have e2 := h.sum fun a => (rows.map fun b => if unN a b = j then (1 : Int) else 0).sum
  rw [← e2]
  refine sum_congr fun q _ => ?_
  rw [accJ_map (fun r : List Int × Int => unN q.1 r.1) (fun r => q.2 * r.2), ← e1, Int.mul_comm, ← sum_mul]
  refine sum_congr fun r _ => ?_
  split <;> simp
theorem sum_rev {α : Type} (f : α → Int) (l : List α) : (l.reverse.map f).sum = (l.map f).sum := perm_sum ((List.reverse_perm l).map f)
/-- all rows again: four times as many -/
theorem like_twice (k : Nat) (rows : List (List Int)) : likeV k (rows ++ rows.reverse) = (likeV k rows).map fun n => 4 * n := by
  unfold likeV accL
  rw [List.map_map]
  refine List.map_congr_left fun j _ => ?_
  show _ = 4 * accJ (likeP2 rows) j
  rw [like_J, like_J]
  have e : ∀ a, ((rows ++ rows.reverse).map fun b => if unN a b = j then (1 : Int) else 0).sum = 2 * (rows.map fun b => if unN a b = j then (1 : Int) else 0).sum := fun a => by
    rw [List.map_append, List.sum_append, sum_rev]; omega
  rw [sum_congr fun a _ => e a, List.map_append, List.sum_append, sum_rev, sum_mul]
  omega
end Pv
end
section
set_option Elab.async false
set_option linter.all false
set_option maxRecDepth 100000
/-! ### the defs of the law, as words (printed by gen.py) -/
namespace Lw
open PySem Pv
def top (i : Nat) : Stmt := PySem.Challenge.pw_seedtables_k07_likenesses_by_own_pairs.main.body.getD i (.Pass ⟨0, 0, 0, 0⟩)
def ct : Ct := ⟨[.int 2, .int 5, .int 8, .int 128], false⟩
theorem ct_LEAST_MARKS : ct.l[0]? = some (.int 2) := rfl
theorem ct_MOST_MARKS : ct.l[1]? = some (.int 5) := rfl
theorem ct_MOST_KEYS : ct.l[2]? = some (.int 8) := rfl
theorem ct_MOST_ROWS : ct.l[3]? = some (.int 128) := rfl
def T0 : Tb := ⟨[], ["LEAST_MARKS", "MOST_MARKS", "MOST_KEYS", "MOST_ROWS"], false⟩
/-- _law_likenesses -/
def b_law_likenesses : ISs :=
  (.cons (.asgO 1 (.rep (.lst (.cons (.int 0) .nil)) (.bin .Add (.bt .len (.cons (.ix (.var 0) (.int 0)) .nil)) (.int 1))))
  (.cons (.for_ (.nm 2) (.seq (.var 0))
  (.cons (.for_ (.nm 3) (.seq (.var 0))
  (.cons (.asg (.nm 4) (.bt .len (.cons (.comp [("x", 5)] (.nm 5) (.range (.cons (.bt .len (.cons (.var 2) .nil)) .nil)) (.cons (.cmp .NotEq (.ix (.var 2) (.var 5)) (.ix (.var 3) (.var 5))) .nil) (.var 5)) .nil)))
  (.cons (.setI 1 (.var 4) (.bin .Add (.ix (.bor 1) (.var 4)) (.int 1)))
  .nil)))
  .nil))
  (.cons (.ret (.bt .tuple (.cons (.bor 1) .nil)))
  .nil)))
abbrev Φ_law_likenesses : List Fn := []
def f_law_likenesses : Fn := evF [] ct 100000 1 6 b_law_likenesses
def n0 : List Str := ["rows", "found", "row", "far", "at", "x"]
def p0 : List Str := ["rows"]
def e0 : Str × List Str × Bool := ("_law_likenesses", p0, false)
def T1 : Tb := T0.add e0
/-- _law_pick -/
def b_law_pick : ISs :=
  (.cons (.ife (.cmp .Gt (.cix 0 (.inl 0)) (.int 0))
  (.cons (.asgSN 0 (.int 0) 3 (.bt .divmod (.cons (.cix 0 (.inl 0)) (.cons (.var 1) .nil))))
  (.cons (.ret (.var 3))
  .nil))
  .nil)
  (.cons (.setI 0 (.int 2) (.bin .Add (.cix 0 (.inl 2)) (.int 1)))
  (.cons (.asg (.nm 2) (.bin .Mod (.bt .int (.cons (.bin .Add (.cix 0 (.inl 1)) (.bin .Mult (.int 15485863) (.cix 0 (.inl 2)))) .nil)) (.int 998244353)))
  (.cons (.setI 0 (.int 1) (.bin .Mod (.bt .int (.cons (.bin .Add (.bin .Mult (.var 2) (.bin .Add (.bin .Mod (.bt .int (.cons (.var 2) .nil)) (.int 6007)) (.int 40093))) (.bin .Mult (.int 101) (.cix 0 (.inl 2)))) .nil)) (.int 998244353)))
  (.cons (.ret (.bin .Mod (.bt .int (.cons (.bin .FloorDiv (.cix 0 (.inl 1)) (.int 211)) .nil)) (.var 1)))
  .nil)))))
abbrev Φ_law_pick : List Fn := [f_law_likenesses]
def f_law_pick : Fn := evF [f_law_likenesses] ct 100000 2 4 b_law_pick
def n1 : List Str := ["spring", "top", "mixed", "figure"]
def p1 : List Str := ["spring", "top"]
def e1 : Str × List Str × Bool := ("_law_pick", p1, false)
def T2 : Tb := T1.add e1
/-- _law_one_of -/
def b_law_one_of : ISs :=
  (.cons (.ret (.ix (.var 1) (.call 1 (.cel 0 (.cons (.bt .len (.cons (.var 1) .nil)) .nil)))))
  .nil)
abbrev Φ_law_one_of : List Fn := [f_law_likenesses, f_law_pick]
def f_law_one_of : Fn := evF [f_law_likenesses, f_law_pick] ct 100000 2 2 b_law_one_of
def n2 : List Str := ["spring", "some"]
def p2 : List Str := ["spring", "some"]
def e2 : Str × List Str × Bool := ("_law_one_of", p2, false)
def T3 : Tb := T2.add e2
/-- _law_patterns -/
def b_law_patterns : ISs :=
  (.cons (.asg (.nm 2) (.lst (.cons (.tup .nil) .nil)))
  (.cons (.for_ (.nm 3) (.range (.cons (.var 1) .nil))
  (.cons (.asgO 4 (.lst .nil))
  (.cons (.for_ (.nm 5) (.seq (.var 2))
  (.cons (.extd 4 (.comp [("m", 6)] (.nm 6) (.range (.cons (.var 0) .nil)) .nil (.bin .Add (.var 5) (.tup (.cons (.var 6) .nil)))))
  .nil))
  (.cons (.frz 4)
  (.cons (.asg (.nm 2) (.var 4))
  .nil)))))
  (.cons (.ret (.var 2))
  .nil)))
abbrev Φ_law_patterns : List Fn := [f_law_likenesses, f_law_pick, f_law_one_of]
def f_law_patterns : Fn := evF [f_law_likenesses, f_law_pick, f_law_one_of] ct 100000 2 7 b_law_patterns
def n3 : List Str := ["v", "t", "found", "turn", "longer", "head", "m"]
def p3 : List Str := ["v", "t"]
def e3 : Str × List Str × Bool := ("_law_patterns", p3, false)
def T4 : Tb := T3.add e3
/-- _law_sums -/
def b_law_sums : ISs :=
  (.cons (.asg (.nm 4) (.comp [("i", 7)] (.nm 7) (.range (.cons (.var 2) .nil)) .nil (.comp [("j", 8)] (.nm 8) (.range (.cons (.var 3) .nil)) .nil (.call 1 (.cel 0 (.cons (.var 1) .nil))))))
  (.cons (.asgO 5 (.lst .nil))
  (.cons (.for_ (.nm 6) (.seq (.call 3 (.cons (.var 1) (.cons (.bin .Add (.var 3) (.int 1)) .nil))))
  (.cons (.app 5 (.bt .tuple (.cons (.comp [("spot", 9)] (.nm 9) (.seq (.var 4)) .nil (.bin .Mod (.bt .int (.cons (.bin .Add (.bt .sum (.cons (.comp [("a", 10), ("b", 11)] (.tp [10, 11]) (.zip (.var 6) (.var 9)) .nil (.bin .Mult (.var 10) (.var 11))) .nil)) (.ix (.var 6) (.var 3))) .nil)) (.var 1))) .nil)))
  .nil))
  (.cons (.retO 5)
  .nil))))
abbrev Φ_law_sums : List Fn := [f_law_likenesses, f_law_pick, f_law_one_of, f_law_patterns]
def f_law_sums : Fn := evF [f_law_likenesses, f_law_pick, f_law_one_of, f_law_patterns] ct 100000 4 12 b_law_sums
def n4 : List Str := ["spring", "v", "k", "d", "spots", "found", "head", "i", "j", "spot", "a", "b"]
def p4 : List Str := ["spring", "v", "k", "d"]
def e4 : Str × List Str × Bool := ("_law_sums", p4, true)
def T5 : Tb := T4.add e4
/-- _law_book -/
def b_law_book : ISs :=
  (.cons (.asgP [4, 5] [false, false] (.cons (.call 1 (.cel 0 (.cons (.int 7) .nil))) (.cons (.call 1 (.cel 0 (.cons (.ix (.dct [.inl 2, .inl 3, .inl 4, .inl 5] (.cons (.int 4) (.cons (.int 3) (.cons (.int 2) (.cons (.int 2) .nil))))) (.var 1)) .nil))) .nil)))
  (.cons (.ife (.cmp .Eq (.var 4) (.int 0))
  (.cons (.ret (.bt .tuple (.cons (.comp [("turn", 9)] (.nm 9) (.range (.cons (.bin .Add (.int 1) (.call 1 (.cel 0 (.cons (.int 9) .nil)))) .nil)) .nil (.bt .tuple (.cons (.comp [("i", 10)] (.nm 10) (.range (.cons (.var 2) .nil)) .nil (.call 1 (.cel 0 (.cons (.var 1) .nil)))) .nil))) .nil)))
  .nil)
  .nil)
  (.cons (.asgP [6, 7] [true, false] (.cons (.call 4 (.cel 0 (.cons (.var 1) (.cons (.var 2) (.cons (.var 5) .nil))))) (.cons (.call 1 (.cel 0 (.cons (.var 2) .nil))) .nil)))
  (.cons (.asg (.nm 3) (.call 1 (.cel 0 (.cons (.bt .len (.cons (.bor 6) .nil)) .nil))))
  (.cons (.ife (.cmp .Eq (.var 4) (.int 1))
  (.cons (.asgO 6 (.bin .Add (.bor 6) (.call 4 (.cel 0 (.cons (.var 1) (.cons (.var 2) (.cons (.ife (.cmp .Eq (.var 1) (.int 5)) (.int 0) (.bt .min (.cons (.var 5) (.cons (.int 1) .nil)))) .nil)))))))
  .nil)
  (.cons (.ife (.cmp .Eq (.var 4) (.int 2))
  (.cons (.asg (.nm 8) (.ix (.bor 6) (.var 3)))
  (.cons (.setI 6 (.var 3) (.bin .Add (.bin .Add (.sl (.var 8) .nil (.cons (.var 7) .nil)) (.tup (.cons (.bin .Mod (.bt .int (.cons (.bin .Add (.ix (.var 8) (.var 7)) (.int 1)) .nil)) (.var 1)) .nil))) (.sl (.var 8) (.cons (.bin .Add (.var 7) (.int 1)) .nil) .nil)))
  .nil))
  (.cons (.ife (.bop true (.cons (.cmp .Eq (.var 4) (.int 3)) (.cons (.cmp .Lt (.bt .len (.cons (.bor 6) .nil)) (.int 10)) .nil)))
  (.cons (.asgO 6 (.bin .Add (.bor 6) (.bor 6)))
  .nil)
  (.cons (.ife (.cmp .Eq (.var 4) (.int 4))
  (.cons (.frz 6)
  (.cons (.asgO 6 (.comp [("row", 8)] (.nm 8) (.seq (.var 6)) .nil (.bin .Add (.bin .Add (.sl (.var 8) .nil (.cons (.var 7) .nil)) (.tup (.cons (.ife (.cmp .Lt (.ix (.var 8) (.var 7)) (.int 2)) (.bin .Mod (.bt .int (.cons (.bin .Sub (.bin .Add (.var 1) (.int 1)) (.ix (.var 8) (.var 7))) .nil)) (.var 1)) (.ix (.var 8) (.var 7))) .nil))) (.sl (.var 8) (.cons (.bin .Add (.var 7) (.int 1)) .nil) .nil))))
  .nil))
  .nil)
  .nil))
  .nil))
  .nil))
  (.cons (.ret (.bt .tuple (.cons (.bor 6) .nil)))
  .nil))))))
abbrev Φ_law_book : List Fn := [f_law_likenesses, f_law_pick, f_law_one_of, f_law_patterns, f_law_sums]
def f_law_book : Fn := evF [f_law_likenesses, f_law_pick, f_law_one_of, f_law_patterns, f_law_sums] ct 100000 3 11 b_law_book
def n5 : List Str := ["spring", "v", "k", "at", "way", "d", "found", "x", "row", "turn", "i"]
def p5 : List Str := ["spring", "v", "k"]
def e5 : Str × List Str × Bool := ("_law_book", p5, false)
def T6 : Tb := T5.add e5
/-- is_whole -/
def b_is_whole : ISs :=
  (.cons (.ret (.bop true (.cons (.isi .int (.var 0)) (.cons (.not_ (.isi .bool (.var 0))) .nil))))
  .nil)
abbrev Φ_is_whole : List Fn := [f_law_likenesses, f_law_pick, f_law_one_of, f_law_patterns, f_law_sums, f_law_book]
def f_is_whole : Fn := evF [f_law_likenesses, f_law_pick, f_law_one_of, f_law_patterns, f_law_sums, f_law_book] ct 100000 1 1 b_is_whole
def n6 : List Str := ["value"]
def p6 : List Str := ["value"]
def e6 : Str × List Str × Bool := ("is_whole", p6, false)
def T7 : Tb := T6.add e6
/-- is_between -/
def b_is_between : ISs :=
  (.cons (.ret (.bop true (.cons (.call 6 (.cons (.var 0) .nil)) (.cons (.chain .LtE .LtE (.var 1) (.var 0) (.var 2)) .nil))))
  .nil)
abbrev Φ_is_between : List Fn := [f_law_likenesses, f_law_pick, f_law_one_of, f_law_patterns, f_law_sums, f_law_book, f_is_whole]
def f_is_between : Fn := evF [f_law_likenesses, f_law_pick, f_law_one_of, f_law_patterns, f_law_sums, f_law_book, f_is_whole] ct 100000 3 3 b_is_between
def n7 : List Str := ["value", "low", "high"]
def p7 : List Str := ["value", "low", "high"]
def e7 : Str × List Str × Bool := ("is_between", p7, false)
def T8 : Tb := T7.add e7
/-- check_marks -/
def b_check_marks : ISs :=
  (.cons (.ife (.not_ (.call 7 (.cons (.var 0) (.cons (.cst 0) (.cons (.cst 1) .nil)))))
  (.cons (.never)
  .nil)
  .nil)
  .nil)
abbrev Φ_check_marks : List Fn := [f_law_likenesses, f_law_pick, f_law_one_of, f_law_patterns, f_law_sums, f_law_book, f_is_whole, f_is_between]
def f_check_marks : Fn := evF [f_law_likenesses, f_law_pick, f_law_one_of, f_law_patterns, f_law_sums, f_law_book, f_is_whole, f_is_between] ct 100000 1 1 b_check_marks
def n8 : List Str := ["value"]
def p8 : List Str := ["value"]
def e8 : Str × List Str × Bool := ("check_marks", p8, false)
def T9 : Tb := T8.add e8
/-- is_row -/
def b_is_row : ISs :=
  (.cons (.ret (.bop true (.cons (.isi .tuple (.var 0)) (.cons (.cmp .Eq (.bt .len (.cons (.var 0) .nil)) (.var 2)) (.cons (.bt .all (.cons (.comp [("each", 3)] (.nm 3) (.seq (.var 0)) .nil (.call 7 (.cons (.var 3) (.cons (.int 0) (.cons (.bin .Sub (.var 1) (.int 1)) .nil))))) .nil)) .nil)))))
  .nil)
abbrev Φ_is_row : List Fn := [f_law_likenesses, f_law_pick, f_law_one_of, f_law_patterns, f_law_sums, f_law_book, f_is_whole, f_is_between, f_check_marks]
def f_is_row : Fn := evF [f_law_likenesses, f_law_pick, f_law_one_of, f_law_patterns, f_law_sums, f_law_book, f_is_whole, f_is_between, f_check_marks] ct 100000 3 4 b_is_row
def n9 : List Str := ["value", "marks", "many", "each"]
def p9 : List Str := ["value", "marks", "many"]
def e9 : Str × List Str × Bool := ("is_row", p9, false)
def T10 : Tb := T9.add e9
/-- wrong_in_table -/
def b_wrong_in_table : ISs :=
  (.cons (.ife (.bop false (.cons (.not_ (.isi .tuple (.var 1))) (.cons (.cmp .Eq (.var 1) (.tup .nil)) .nil)))
  (.cons (.retF (.lst (.cons .non .nil)))
  .nil)
  .nil)
  (.cons (.ife (.bop false (.cons (.not_ (.isi .tuple (.ix (.var 1) (.int 0)))) (.cons (.not_ (.chain .LtE .LtE (.int 1) (.bt .len (.cons (.ix (.var 1) (.int 0)) .nil)) (.cst 2))) .nil)))
  (.cons (.retF (.lst (.cons (.int 0) .nil)))
  .nil)
  .nil)
  (.cons (.for_ (.tp [2, 3]) (.enum (.var 1))
  (.cons (.ife (.bop false (.cons (.cmp .Eq (.var 2) (.cst 3)) (.cons (.not_ (.call 9 (.cons (.var 3) (.cons (.var 0) (.cons (.bt .len (.cons (.ix (.var 1) (.int 0)) .nil)) .nil))))) .nil)))
  (.cons (.retF (.lst (.cons (.var 2) .nil)))
  .nil)
  .nil)
  .nil))
  (.cons (.retF (.lst .nil))
  .nil))))
abbrev Φ_wrong_in_table : List Fn := [f_law_likenesses, f_law_pick, f_law_one_of, f_law_patterns, f_law_sums, f_law_book, f_is_whole, f_is_between, f_check_marks, f_is_row]
def f_wrong_in_table : Fn := evF [f_law_likenesses, f_law_pick, f_law_one_of, f_law_patterns, f_law_sums, f_law_book, f_is_whole, f_is_between, f_check_marks, f_is_row] ct 100000 2 4 b_wrong_in_table
def n10 : List Str := ["marks", "value", "index", "row"]
def p10 : List Str := ["marks", "value"]
def e10 : Str × List Str × Bool := ("wrong_in_table", p10, true)
def T11 : Tb := T10.add e10
/-- check_rows -/
def b_check_rows : ISs :=
  (.cons (.asg (.nm 2) (.call 10 (.cons (.var 0) (.cons (.var 1) .nil))))
  (.cons (.ife (.cmp .NotEq (.var 2) (.lst .nil))
  (.cons (.never)
  .nil)
  .nil)
  .nil))
abbrev Φ_check_rows : List Fn := [f_law_likenesses, f_law_pick, f_law_one_of, f_law_patterns, f_law_sums, f_law_book, f_is_whole, f_is_between, f_check_marks, f_is_row, f_wrong_in_table]
def f_check_rows : Fn := evF [f_law_likenesses, f_law_pick, f_law_one_of, f_law_patterns, f_law_sums, f_law_book, f_is_whole, f_is_between, f_check_marks, f_is_row, f_wrong_in_table] ct 100000 2 3 b_check_rows
def n11 : List Str := ["marks", "value", "found"]
def p11 : List Str := ["marks", "value"]
def e11 : Str × List Str × Bool := ("check_rows", p11, false)
def T12 : Tb := T11.add e11
/-- check_table -/
def b_check_table : ISs :=
  (.cons (.drop (.call 8 (.cons (.var 0) .nil)))
  (.cons (.drop (.call 11 (.cons (.var 0) (.cons (.var 1) .nil))))
  .nil))
abbrev Φ_check_table : List Fn := [f_law_likenesses, f_law_pick, f_law_one_of, f_law_patterns, f_law_sums, f_law_book, f_is_whole, f_is_between, f_check_marks, f_is_row, f_wrong_in_table, f_check_rows]
def f_check_table : Fn := evF [f_law_likenesses, f_law_pick, f_law_one_of, f_law_patterns, f_law_sums, f_law_book, f_is_whole, f_is_between, f_check_marks, f_is_row, f_wrong_in_table, f_check_rows] ct 100000 2 2 b_check_table
def n12 : List Str := ["marks", "value"]
def p12 : List Str := ["marks", "value"]
def e12 : Str × List Str × Bool := ("check_table", p12, false)
def T13 : Tb := T12.add e12
/-- pattern_at -/
def b_pattern_at : ISs :=
  (.cons (.ret (.bt .tuple (.cons (.comp [("key", 2)] (.nm 2) (.seq (.var 1)) .nil (.ix (.var 0) (.var 2))) .nil)))
  .nil)
abbrev Φ_pattern_at : List Fn := [f_law_likenesses, f_law_pick, f_law_one_of, f_law_patterns, f_law_sums, f_law_book, f_is_whole, f_is_between, f_check_marks, f_is_row, f_wrong_in_table, f_check_rows, f_check_table]
def f_pattern_at : Fn := evF [f_law_likenesses, f_law_pick, f_law_one_of, f_law_patterns, f_law_sums, f_law_book, f_is_whole, f_is_between, f_check_marks, f_is_row, f_wrong_in_table, f_check_rows, f_check_table] ct 100000 2 3 b_pattern_at
def n13 : List Str := ["row", "lot", "key"]
def p13 : List Str := ["row", "lot"]
def e13 : Str × List Str × Bool := ("pattern_at", p13, false)
def T14 : Tb := T13.add e13
/-- tallied -/
def b_tallied : ISs :=
  (.cons (.asgO 2 (.dct [] .nil))
  (.cons (.for_ (.nm 3) (.seq (.var 0))
  (.cons (.asg (.nm 4) (.call 13 (.cons (.var 3) (.cons (.var 1) .nil))))
  (.cons (.setI 2 (.var 4) (.bin .Add (.meth .get (.bor 2) (.cons (.var 4) (.cons (.int 0) .nil))) (.int 1)))
  .nil)))
  (.cons (.retO 2)
  .nil)))
abbrev Φ_tallied : List Fn := [f_law_likenesses, f_law_pick, f_law_one_of, f_law_patterns, f_law_sums, f_law_book, f_is_whole, f_is_between, f_check_marks, f_is_row, f_wrong_in_table, f_check_rows, f_check_table, f_pattern_at]
def f_tallied : Fn := evF [f_law_likenesses, f_law_pick, f_law_one_of, f_law_patterns, f_law_sums, f_law_book, f_is_whole, f_is_between, f_check_marks, f_is_row, f_wrong_in_table, f_check_rows, f_check_table, f_pattern_at] ct 100000 2 5 b_tallied
def n14 : List Str := ["table", "lot", "found", "row", "pattern"]
def p14 : List Str := ["table", "lot"]
def e14 : Str × List Str × Bool := ("tallied", p14, true)
def T15 : Tb := T14.add e14
/-- likenesses_by -/
def b_likenesses_by : ISs :=
  (.cons (.asgP [2, 3] [true, false] (.cons (.rep (.lst (.cons (.int 0) .nil)) (.bin .Add (.bt .len (.cons (.ix (.var 0) (.int 0)) .nil)) (.int 1))) (.cons (.call 14 (.cons (.var 0) (.cons (.rngL true (.cons (.bt .len (.cons (.ix (.var 0) (.int 0)) .nil)) .nil)) .nil))) .nil)))
  (.cons (.for_ (.nm 1) (.seq (.var 3))
  (.cons (.for_ (.nm 4) (.seq (.var 3))
  (.cons (.asg (.nm 5) (.bt .len (.cons (.comp [("here", 6), ("there", 7)] (.tp [6, 7]) (.zip (.var 1) (.var 4)) (.cons (.cmp .NotEq (.var 6) (.var 7)) .nil) (.int 1)) .nil)))
  (.cons (.setI 2 (.var 5) (.bin .Add (.ix (.bor 2) (.var 5)) (.bin .Mult (.ix (.var 3) (.var 1)) (.ix (.var 3) (.var 4)))))
  .nil)))
  .nil))
  (.cons (.ret (.bt .tuple (.cons (.bor 2) .nil)))
  .nil)))
abbrev Φ_likenesses_by : List Fn := [f_law_likenesses, f_law_pick, f_law_one_of, f_law_patterns, f_law_sums, f_law_book, f_is_whole, f_is_between, f_check_marks, f_is_row, f_wrong_in_table, f_check_rows, f_check_table, f_pattern_at, f_tallied]
def f_likenesses_by : Fn := evF [f_law_likenesses, f_law_pick, f_law_one_of, f_law_patterns, f_law_sums, f_law_book, f_is_whole, f_is_between, f_check_marks, f_is_row, f_wrong_in_table, f_check_rows, f_check_table, f_pattern_at, f_tallied] ct 100000 1 8 b_likenesses_by
def n15 : List Str := ["table", "one", "found", "counts", "two", "apart", "here", "there"]
def p15 : List Str := ["table"]
def e15 : Str × List Str × Bool := ("likenesses_by", p15, false)
def T16 : Tb := T15.add e15
/-- likenesses -/
def b_likenesses : ISs :=
  (.cons (.drop (.call 12 (.cons (.var 0) (.cons (.var 1) .nil))))
  (.cons (.ret (.call 15 (.cons (.var 1) .nil)))
  .nil))
abbrev Φ_likenesses : List Fn := [f_law_likenesses, f_law_pick, f_law_one_of, f_law_patterns, f_law_sums, f_law_book, f_is_whole, f_is_between, f_check_marks, f_is_row, f_wrong_in_table, f_check_rows, f_check_table, f_pattern_at, f_tallied, f_likenesses_by]
def f_likenesses : Fn := evF [f_law_likenesses, f_law_pick, f_law_one_of, f_law_patterns, f_law_sums, f_law_book, f_is_whole, f_is_between, f_check_marks, f_is_row, f_wrong_in_table, f_check_rows, f_check_table, f_pattern_at, f_tallied, f_likenesses_by] ct 100000 2 2 b_likenesses
def n16 : List Str := ["marks", "table"]
def p16 : List Str := ["marks", "table"]
def e16 : Str × List Str × Bool := ("likenesses", p16, false)
def T17 : Tb := T16.add e16
/-- _law_right -/
def b_law_right : ISs :=
  (.cons (.asgP [3, 4] [false, false] (.cons (.call 2 (.cel 0 (.cons (.lst (.cons (.int 2) (.cons (.int 3) (.cons (.int 2) (.cons (.int 4) (.cons (.int 5) (.cons (.int 3) .nil))))))) .nil))) (.cons (.bin .Add (.int 1) (.call 1 (.cel 0 (.cons (.int 6) .nil)))) .nil)))
  (.cons (.asg (.tp [5, 6]) (.tup (.cons (.call 5 (.cel 0 (.cons (.var 3) (.cons (.var 4) .nil)))) (.cons (.call 1 (.cel 0 (.cons (.var 4) .nil))) .nil))))
  (.cons (.asg (.nm 1) (.call 0 (.cons (.var 5) .nil)))
  (.cons (.ife (.cmp .NotEq (.bt .repr (.cons (.lst (.cons (.call 16 (.cons (.var 3) (.cons (.var 5) .nil))) (.cons (.callK 16 .nil (.cons (.var 5) (.cons (.var 3) .nil)) [1, 0]) .nil))) .nil)) (.bt .repr (.cons (.lst (.cons (.var 1) (.cons (.var 1) .nil))) .nil)))
  (.cons (.ret (.bl false))
  .nil)
  .nil)
  (.cons (.ife (.cmp .NotEq (.bt .repr (.cons (.call 16 (.cons (.var 3) (.cons (.bin .Add (.var 5) (.rev (.var 5))) .nil))) .nil)) (.bt .repr (.cons (.bt .tuple (.cons (.comp [("n", 8)] (.nm 8) (.seq (.var 1)) .nil (.bin .Mult (.int 4) (.var 8))) .nil)) .nil)))
  (.cons (.ret (.bl false))
  .nil)
  .nil)
  (.cons (.asg (.nm 2) (.bt .tuple (.cons (.comp [("row", 7)] (.nm 7) (.seq (.var 5)) .nil (.tup (.cons (.ix (.var 7) (.var 6)) .nil))) .nil)))
  (.cons (.ret (.cmp .Eq (.bt .repr (.cons (.call 16 (.cons (.var 3) (.cons (.var 2) .nil))) .nil)) (.bt .repr (.cons (.call 0 (.cons (.var 2) .nil)) .nil))))
  .nil)))))))
abbrev Φ_law_right : List Fn := [f_law_likenesses, f_law_pick, f_law_one_of, f_law_patterns, f_law_sums, f_law_book, f_is_whole, f_is_between, f_check_marks, f_is_row, f_wrong_in_table, f_check_rows, f_check_table, f_pattern_at, f_tallied, f_likenesses_by, f_likenesses]
def f_law_right : Fn := evF [f_law_likenesses, f_law_pick, f_law_one_of, f_law_patterns, f_law_sums, f_law_book, f_is_whole, f_is_between, f_check_marks, f_is_row, f_wrong_in_table, f_check_rows, f_check_table, f_pattern_at, f_tallied, f_likenesses_by, f_likenesses] ct 100000 1 9 b_law_right
def n17 : List Str := ["spring", "due", "one", "v", "k", "rows", "x", "row", "n"]
def p17 : List Str := ["spring"]
def e17 : Str × List Str × Bool := ("_law_right", p17, false)
def T18 : Tb := T17.add e17
/-- _law_spring -/
def b_law_spring : ISs :=
  (.cons (.asg (.nm 2) (.ife (.cmp .Lt (.var 1) (.bt .len (.cons (.var 0) .nil))) (.bt .int (.cons (.ix (.var 0) (.var 1)) .nil)) (.int 0)))
  (.cons (.asg (.nm 3) (.bin .Add (.int 1009) (.bin .Mult (.int 5003) (.var 1))))
  (.cons (.for_ (.nm 4) (.seq (.sl (.var 0) .nil (.cons (.int 9) .nil)))
  (.cons (.asg (.nm 3) (.bin .Mod (.bt .int (.cons (.bin .Add (.bin .Add (.bin .Mult (.var 3) (.int 30011)) (.bin .Mult (.bin .Mod (.bt .int (.cons (.var 4) .nil)) (.int 998244353)) (.int 7))) (.int 5)) .nil)) (.int 998244353)))
  .nil))
  (.cons (.retF (.lst (.cons (.ife (.cmp .GtE (.bt .abs (.cons (.var 2) .nil)) (.bin .Pow (.int 10) (.int 16))) (.bt .abs (.cons (.var 2) .nil)) (.int 0)) (.cons (.var 3) (.cons (.int 0) .nil)))))
  .nil))))
abbrev Φ_law_spring : List Fn := [f_law_likenesses, f_law_pick, f_law_one_of, f_law_patterns, f_law_sums, f_law_book, f_is_whole, f_is_between, f_check_marks, f_is_row, f_wrong_in_table, f_check_rows, f_check_table, f_pattern_at, f_tallied, f_likenesses_by, f_likenesses, f_law_right]
def f_law_spring : Fn := evF [f_law_likenesses, f_law_pick, f_law_one_of, f_law_patterns, f_law_sums, f_law_book, f_is_whole, f_is_between, f_check_marks, f_is_row, f_wrong_in_table, f_check_rows, f_check_table, f_pattern_at, f_tallied, f_likenesses_by, f_likenesses, f_law_right] ct 100000 2 5 b_law_spring
def n18 : List Str := ["script", "turn", "cell", "stir", "each"]
def p18 : List Str := ["script", "turn"]
def e18 : Str × List Str × Bool := ("_law_spring", p18, true)
def T19 : Tb := T18.add e18
/-- law -/
def b_law : ISs :=
  (.cons (.ret (.bt .all (.cons (.comp [("turn", 1)] (.nm 1) (.range (.cons (.bt .max (.cons (.int 2) (.cons (.bt .min (.cons (.bt .len (.cons (.var 0) .nil)) (.cons (.int 4) .nil))) .nil))) .nil)) .nil (.callW 17 18 (.cons (.var 0) (.cons (.var 1) .nil)))) .nil)))
  .nil)
abbrev Φ_law : List Fn := [f_law_likenesses, f_law_pick, f_law_one_of, f_law_patterns, f_law_sums, f_law_book, f_is_whole, f_is_between, f_check_marks, f_is_row, f_wrong_in_table, f_check_rows, f_check_table, f_pattern_at, f_tallied, f_likenesses_by, f_likenesses, f_law_right, f_law_spring]
def f_law : Fn := evF [f_law_likenesses, f_law_pick, f_law_one_of, f_law_patterns, f_law_sums, f_law_book, f_is_whole, f_is_between, f_check_marks, f_is_row, f_wrong_in_table, f_check_rows, f_check_table, f_pattern_at, f_tallied, f_likenesses_by, f_likenesses, f_law_right, f_law_spring] ct 100000 1 2 b_law
def n19 : List Str := ["script", "turn"]
def p19 : List Str := ["script"]
def e19 : Str × List Str × Bool := ("law", p19, false)
def T20 : Tb := T19.add e19
end Lw

/-! ### the text is what the words say -/
namespace Lw
open PySem Pv L2
theorem ka0 : C8.scC n0 p0 (defScope (top 31)) = true := by decide +kernel
theorem kb0 : plainPs (defArgs (top 31)) p0 = true := by decide +kernel
theorem kc0 : mtSs T0 n0 false (defScope (top 31)) (fun _ => true) b_law_likenesses (defBody (top 31)) = true := by decide +kernel
theorem ka1 : C8.scC n1 p1 (defScope (top 26)) = true := by decide +kernel
theorem kb1 : plainPs (defArgs (top 26)) p1 = true := by decide +kernel
theorem kc1 : mtSs T1 n1 false (defScope (top 26)) (fun _ => true) b_law_pick (defBody (top 26)) = true := by decide +kernel
theorem ka2 : C8.scC n2 p2 (defScope (top 27)) = true := by decide +kernel
theorem kb2 : plainPs (defArgs (top 27)) p2 = true := by decide +kernel
theorem kc2 : mtSs T2 n2 false (defScope (top 27)) (fun _ => true) b_law_one_of (defBody (top 27)) = true := by decide +kernel
theorem ka3 : C8.scC n3 p3 (defScope (top 28)) = true := by decide +kernel
theorem kb3 : plainPs (defArgs (top 28)) p3 = true := by decide +kernel
theorem kc3 : mtSs T3 n3 false (defScope (top 28)) (fun _ => true) b_law_patterns (defBody (top 28)) = true := by decide +kernel
theorem ka4 : C8.scC n4 p4 (defScope (top 29)) = true := by decide +kernel
theorem kb4 : plainPs (defArgs (top 29)) p4 = true := by decide +kernel
theorem kc4 : mtSs T4 n4 true (defScope (top 29)) (fun _ => true) b_law_sums (defBody (top 29)) = true := by decide +kernel
theorem ka5 : C8.scC n5 p5 (defScope (top 30)) = true := by decide +kernel
theorem kb5 : plainPs (defArgs (top 30)) p5 = true := by decide +kernel
theorem kc5 : mtSs T5 n5 false (defScope (top 30)) (fun _ => true) b_law_book (defBody (top 30)) = true := by decide +kernel
theorem ka6 : C8.scC n6 p6 (defScope (top 5)) = true := by decide +kernel
theorem kb6 : plainPs (defArgs (top 5)) p6 = true := by decide +kernel
theorem kc6 : mtSs T6 n6 false (defScope (top 5)) (fun _ => true) b_is_whole (defBody (top 5)) = true := by decide +kernel
theorem ka7 : C8.scC n7 p7 (defScope (top 6)) = true := by decide +kernel
theorem kb7 : plainPs (defArgs (top 6)) p7 = true := by decide +kernel
theorem kc7 : mtSs T7 n7 false (defScope (top 6)) (fun _ => true) b_is_between (defBody (top 6)) = true := by decide +kernel
theorem ka8 : C8.scC n8 p8 (defScope (top 17)) = true := by decide +kernel
theorem kb8 : plainPs (defArgs (top 17)) p8 = true := by decide +kernel
theorem kc8 : mtSs T8 n8 false (defScope (top 17)) (fun _ => true) b_check_marks (defBody (top 17)) = true := by decide +kernel
theorem ka9 : C8.scC n9 p9 (defScope (top 12)) = true := by decide +kernel
theorem kb9 : plainPs (defArgs (top 12)) p9 = true := by decide +kernel
theorem kc9 : mtSs T9 n9 false (defScope (top 12)) (fun _ => true) b_is_row (defBody (top 12)) = true := by decide +kernel
theorem ka10 : C8.scC n10 p10 (defScope (top 13)) = true := by decide +kernel
theorem kb10 : plainPs (defArgs (top 13)) p10 = true := by decide +kernel
theorem kc10 : mtSs T10 n10 true (defScope (top 13)) (fun _ => true) b_wrong_in_table (defBody (top 13)) = true := by decide +kernel
theorem ka11 : C8.scC n11 p11 (defScope (top 18)) = true := by decide +kernel
theorem kb11 : plainPs (defArgs (top 18)) p11 = true := by decide +kernel
theorem kc11 : mtSs T11 n11 false (defScope (top 18)) (fun _ => true) b_check_rows (defBody (top 18)) = true := by decide +kernel
theorem ka12 : C8.scC n12 p12 (defScope (top 19)) = true := by decide +kernel
theorem kb12 : plainPs (defArgs (top 19)) p12 = true := by decide +kernel
theorem kc12 : mtSs T12 n12 false (defScope (top 19)) (fun _ => true) b_check_table (defBody (top 19)) = true := by decide +kernel
theorem ka13 : C8.scC n13 p13 (defScope (top 14)) = true := by decide +kernel
theorem kb13 : plainPs (defArgs (top 14)) p13 = true := by decide +kernel
theorem kc13 : mtSs T13 n13 false (defScope (top 14)) (fun _ => true) b_pattern_at (defBody (top 14)) = true := by decide +kernel
theorem ka14 : C8.scC n14 p14 (defScope (top 15)) = true := by decide +kernel
theorem kb14 : plainPs (defArgs (top 15)) p14 = true := by decide +kernel
theorem kc14 : mtSs T14 n14 true (defScope (top 15)) (fun _ => true) b_tallied (defBody (top 15)) = true := by decide +kernel
theorem ka15 : C8.scC n15 p15 (defScope (top 21)) = true := by decide +kernel
theorem kb15 : plainPs (defArgs (top 21)) p15 = true := by decide +kernel
theorem kc15 : mtSs T15 n15 false (defScope (top 21)) (fun _ => true) b_likenesses_by (defBody (top 21)) = true := by decide +kernel
theorem ka16 : C8.scC n16 p16 (defScope (top 23)) = true := by decide +kernel
theorem kb16 : plainPs (defArgs (top 23)) p16 = true := by decide +kernel
theorem kc16 : mtSs T16 n16 false (defScope (top 23)) (fun _ => true) b_likenesses (defBody (top 23)) = true := by decide +kernel
theorem ka17 : C8.scC n17 p17 (defScope (top 32)) = true := by decide +kernel
theorem kb17 : plainPs (defArgs (top 32)) p17 = true := by decide +kernel
theorem kc17 : mtSs T17 n17 false (defScope (top 32)) (fun _ => true) b_law_right (defBody (top 32)) = true := by decide +kernel
theorem ka18 : C8.scC n18 p18 (defScope (top 25)) = true := by decide +kernel
theorem kb18 : plainPs (defArgs (top 25)) p18 = true := by decide +kernel
theorem kc18 : mtSs T18 n18 true (defScope (top 25)) (fun _ => true) b_law_spring (defBody (top 25)) = true := by decide +kernel
theorem ka19 : C8.scC n19 p19 (defScope (top 33)) = true := by decide +kernel
theorem kb19 : plainPs (defArgs (top 33)) p19 = true := by decide +kernel
theorem kc19 : mtSs T19 n19 false (defScope (top 33)) (fun _ => true) b_law (defBody (top 33)) = true := by decide +kernel
theorem chain {P : Program} {w : World} {K : PySem.W.Frag} {mg : Str → Option Value} {base : Heap} (X : K.In base) (G : base.Ns mainGlobals mg)
    (zb : ∀ n ∈ bltNames, PySem.W.nsIn K mainGlobals n = some none) (zg : T0.gcd = true → PySem.W.nsIn K mainGlobals "gcd" = some (some (.builtin "math.gcd")))
    (c_LEAST_MARKS : ∃ t, PySem.W.nsIn K mainGlobals "LEAST_MARKS" = some (some (.int 2 t)))
    (c_MOST_MARKS : ∃ t, PySem.W.nsIn K mainGlobals "MOST_MARKS" = some (some (.int 5 t)))
    (c_MOST_KEYS : ∃ t, PySem.W.nsIn K mainGlobals "MOST_KEYS" = some (some (.int 8 t)))
    (c_MOST_ROWS : ∃ t, PySem.W.nsIn K mainGlobals "MOST_ROWS" = some (some (.int 128 t)))
    {a0 : Addr} {g0 : FuncData} (D0 : Df K "_law_likenesses" (top 31) a0 g0)
    {a1 : Addr} {g1 : FuncData} (D1 : Df K "_law_pick" (top 26) a1 g1)
    {a2 : Addr} {g2 : FuncData} (D2 : Df K "_law_one_of" (top 27) a2 g2)
    {a3 : Addr} {g3 : FuncData} (D3 : Df K "_law_patterns" (top 28) a3 g3)
    {a4 : Addr} {g4 : FuncData} (D4 : Df K "_law_sums" (top 29) a4 g4)
    {a5 : Addr} {g5 : FuncData} (D5 : Df K "_law_book" (top 30) a5 g5)
    {a6 : Addr} {g6 : FuncData} (D6 : Df K "is_whole" (top 5) a6 g6)
    {a7 : Addr} {g7 : FuncData} (D7 : Df K "is_between" (top 6) a7 g7)
    {a8 : Addr} {g8 : FuncData} (D8 : Df K "check_marks" (top 17) a8 g8)
    {a9 : Addr} {g9 : FuncData} (D9 : Df K "is_row" (top 12) a9 g9)
    {a10 : Addr} {g10 : FuncData} (D10 : Df K "wrong_in_table" (top 13) a10 g10)
    {a11 : Addr} {g11 : FuncData} (D11 : Df K "check_rows" (top 18) a11 g11)
    {a12 : Addr} {g12 : FuncData} (D12 : Df K "check_table" (top 19) a12 g12)
    {a13 : Addr} {g13 : FuncData} (D13 : Df K "pattern_at" (top 14) a13 g13)
    {a14 : Addr} {g14 : FuncData} (D14 : Df K "tallied" (top 15) a14 g14)
    {a15 : Addr} {g15 : FuncData} (D15 : Df K "likenesses_by" (top 21) a15 g15)
    {a16 : Addr} {g16 : FuncData} (D16 : Df K "likenesses" (top 23) a16 g16)
    {a17 : Addr} {g17 : FuncData} (D17 : Df K "_law_right" (top 32) a17 g17)
    {a18 : Addr} {g18 : FuncData} (D18 : Df K "_law_spring" (top 25) a18 g18)
    {a19 : Addr} {g19 : FuncData} (D19 : Df K "law" (top 33) a19 g19)
    : FnG P w K mg base 20 a19 g19 ["script"] (spV ⟨K, false⟩ 1 false f_law) ∧ Bd g19 ["script"] := by
  have M0 : Md P w K mg base T0 [] ct 0 := by
    refine ⟨fun n hn => PySem.W.mg_none_of X G (zb n hn), fun z => PySem.W.mg_of X G (zg z), fun i n h => ?_, fun i n ps fo h => by cases h⟩
    match i, h with
    | 0, h => cases h; obtain ⟨v, u, q1, q2, q3⟩ := cst_int (kt := false) X G c_LEAST_MARKS; exact ⟨v, u, _, q1, q2, rfl, q3⟩
    | 1, h => cases h; obtain ⟨v, u, q1, q2, q3⟩ := cst_int (kt := false) X G c_MOST_MARKS; exact ⟨v, u, _, q1, q2, rfl, q3⟩
    | 2, h => cases h; obtain ⟨v, u, q1, q2, q3⟩ := cst_int (kt := false) X G c_MOST_KEYS; exact ⟨v, u, _, q1, q2, rfl, q3⟩
    | 3, h => cases h; obtain ⟨v, u, q1, q2, q3⟩ := cst_int (kt := false) X G c_MOST_ROWS; exact ⟨v, u, _, q1, q2, rfl, q3⟩
    | i + 4, h => cases h
  have M1 : Md P w K mg base T1 [f_law_likenesses] ct 1 := M0.add (F := 100000) (N := n0) (body := b_law_likenesses) D0 (PySem.W.mg_of X G D0.ns) rfl ka0 kb0 kc0
  have M2 : Md P w K mg base T2 [f_law_likenesses, f_law_pick] ct 2 := M1.add (F := 100000) (N := n1) (body := b_law_pick) D1 (PySem.W.mg_of X G D1.ns) rfl ka1 kb1 kc1
  have M3 : Md P w K mg base T3 [f_law_likenesses, f_law_pick, f_law_one_of] ct 3 := M2.add (F := 100000) (N := n2) (body := b_law_one_of) D2 (PySem.W.mg_of X G D2.ns) rfl ka2 kb2 kc2
  have M4 : Md P w K mg base T4 [f_law_likenesses, f_law_pick, f_law_one_of, f_law_patterns] ct 4 := M3.add (F := 100000) (N := n3) (body := b_law_patterns) D3 (PySem.W.mg_of X G D3.ns) rfl ka3 kb3 kc3
  have M5 : Md P w K mg base T5 [f_law_likenesses, f_law_pick, f_law_one_of, f_law_patterns, f_law_sums] ct 5 := M4.add (F := 100000) (N := n4) (body := b_law_sums) D4 (PySem.W.mg_of X G D4.ns) rfl ka4 kb4 kc4
  have M6 : Md P w K mg base T6 [f_law_likenesses, f_law_pick, f_law_one_of, f_law_patterns, f_law_sums, f_law_book] ct 6 := M5.add (F := 100000) (N := n5) (body := b_law_book) D5 (PySem.W.mg_of X G D5.ns) rfl ka5 kb5 kc5
  have M7 : Md P w K mg base T7 [f_law_likenesses, f_law_pick, f_law_one_of, f_law_patterns, f_law_sums, f_law_book, f_is_whole] ct 7 := M6.add (F := 100000) (N := n6) (body := b_is_whole) D6 (PySem.W.mg_of X G D6.ns) rfl ka6 kb6 kc6
  have M8 : Md P w K mg base T8 [f_law_likenesses, f_law_pick, f_law_one_of, f_law_patterns, f_law_sums, f_law_book, f_is_whole, f_is_between] ct 8 := M7.add (F := 100000) (N := n7) (body := b_is_between) D7 (PySem.W.mg_of X G D7.ns) rfl ka7 kb7 kc7
  have M9 : Md P w K mg base T9 [f_law_likenesses, f_law_pick, f_law_one_of, f_law_patterns, f_law_sums, f_law_book, f_is_whole, f_is_between, f_check_marks] ct 9 := M8.add (F := 100000) (N := n8) (body := b_check_marks) D8 (PySem.W.mg_of X G D8.ns) rfl ka8 kb8 kc8
  have M10 : Md P w K mg base T10 [f_law_likenesses, f_law_pick, f_law_one_of, f_law_patterns, f_law_sums, f_law_book, f_is_whole, f_is_between, f_check_marks, f_is_row] ct 10 := M9.add (F := 100000) (N := n9) (body := b_is_row) D9 (PySem.W.mg_of X G D9.ns) rfl ka9 kb9 kc9
  have M11 : Md P w K mg base T11 [f_law_likenesses, f_law_pick, f_law_one_of, f_law_patterns, f_law_sums, f_law_book, f_is_whole, f_is_between, f_check_marks, f_is_row, f_wrong_in_table] ct 11 := M10.add (F := 100000) (N := n10) (body := b_wrong_in_table) D10 (PySem.W.mg_of X G D10.ns) rfl ka10 kb10 kc10
  have M12 : Md P w K mg base T12 [f_law_likenesses, f_law_pick, f_law_one_of, f_law_patterns, f_law_sums, f_law_book, f_is_whole, f_is_between, f_check_marks, f_is_row, f_wrong_in_table, f_check_rows] ct 12 := M11.add (F := 100000) (N := n11) (body := b_check_rows) D11 (PySem.W.mg_of X G D11.ns) rfl ka11 kb11 kc11
  have M13 : Md P w K mg base T13 [f_law_likenesses, f_law_pick, f_law_one_of, f_law_patterns, f_law_sums, f_law_book, f_is_whole, f_is_between, f_check_marks, f_is_row, f_wrong_in_table, f_check_rows, f_check_table] ct 13 := M12.add (F := 100000) (N := n12) (body := b_check_table) D12 (PySem.W.mg_of X G D12.ns) rfl ka12 kb12 kc12
  have M14 : Md P w K mg base T14 [f_law_likenesses, f_law_pick, f_law_one_of, f_law_patterns, f_law_sums, f_law_book, f_is_whole, f_is_between, f_check_marks, f_is_row, f_wrong_in_table, f_check_rows, f_check_table, f_pattern_at] ct 14 := M13.add (F := 100000) (N := n13) (body := b_pattern_at) D13 (PySem.W.mg_of X G D13.ns) rfl ka13 kb13 kc13
  have M15 : Md P w K mg base T15 [f_law_likenesses, f_law_pick, f_law_one_of, f_law_patterns, f_law_sums, f_law_book, f_is_whole, f_is_between, f_check_marks, f_is_row, f_wrong_in_table, f_check_rows, f_check_table, f_pattern_at, f_tallied] ct 15 := M14.add (F := 100000) (N := n14) (body := b_tallied) D14 (PySem.W.mg_of X G D14.ns) rfl ka14 kb14 kc14
  have M16 : Md P w K mg base T16 [f_law_likenesses, f_law_pick, f_law_one_of, f_law_patterns, f_law_sums, f_law_book, f_is_whole, f_is_between, f_check_marks, f_is_row, f_wrong_in_table, f_check_rows, f_check_table, f_pattern_at, f_tallied, f_likenesses_by] ct 16 := M15.add (F := 100000) (N := n15) (body := b_likenesses_by) D15 (PySem.W.mg_of X G D15.ns) rfl ka15 kb15 kc15
  have M17 : Md P w K mg base T17 [f_law_likenesses, f_law_pick, f_law_one_of, f_law_patterns, f_law_sums, f_law_book, f_is_whole, f_is_between, f_check_marks, f_is_row, f_wrong_in_table, f_check_rows, f_check_table, f_pattern_at, f_tallied, f_likenesses_by, f_likenesses] ct 17 := M16.add (F := 100000) (N := n16) (body := b_likenesses) D16 (PySem.W.mg_of X G D16.ns) rfl ka16 kb16 kc16
  have M18 : Md P w K mg base T18 [f_law_likenesses, f_law_pick, f_law_one_of, f_law_patterns, f_law_sums, f_law_book, f_is_whole, f_is_between, f_check_marks, f_is_row, f_wrong_in_table, f_check_rows, f_check_table, f_pattern_at, f_tallied, f_likenesses_by, f_likenesses, f_law_right] ct 18 := M17.add (F := 100000) (N := n17) (body := b_law_right) D17 (PySem.W.mg_of X G D17.ns) rfl ka17 kb17 kc17
  have M19 : Md P w K mg base T19 [f_law_likenesses, f_law_pick, f_law_one_of, f_law_patterns, f_law_sums, f_law_book, f_is_whole, f_is_between, f_check_marks, f_is_row, f_wrong_in_table, f_check_rows, f_check_table, f_pattern_at, f_tallied, f_likenesses_by, f_likenesses, f_law_right, f_law_spring] ct 19 := M18.add (F := 100000) (N := n18) (body := b_law_spring) D18 (PySem.W.mg_of X G D18.ns) rfl ka18 kb18 kc18
  exact fnG_of (F := 100000) (N := n19) (fo := false) (body := b_law) M19 D19 ka19 kb19 kc19
end Lw
end
section
open PySem Pv L2
namespace Lw
theorem f_law_likenesses_ok {v k : Int} {rows : List (List Int)} (B : Board v k rows) (c : Dt) (k1 : 0 ≤ k) (k2 : k ≤ 8) : f_law_likenesses [.sh (boardD rows)] c = some (rowD (likeV k.toNat rows), c) := by
  have hline := line_val
  have hfew := B.few
  obtain ⟨r0, e0, m0, l0⟩ := board_0 (kt := ct.kt) B k1
  have l0' : r0.length = k.toNat := B.len r0 m0
  suffices ∃ d1 c1, f_law_likenesses [.sh (boardD rows)] c = some (d1, c1) ∧ (d1 = rowD (likeV k.toNat rows) ∧ c1 = c) by
    obtain ⟨d1, c1, e, rfl, rfl⟩ := this
    exact e
  refine evF_W rfl ?_
  have hz : repD (.list [.int 0]) (.int (((r0.length : Nat) : Int) + 1)) = some (intL (accL k.toNat [])) := by
    have e : ((r0.length : Nat) : Int) + 1 = ((k.toNat + 1 : Nat) : Int) := by omega
    rw [e, accL_nil]
    exact rep_zero (by omega)
  refine W_step (ρ1 := [.sh (boardD rows), .own (intL (accL k.toNat [])), .no, .no, .no, .no]) (c1 := c) (by
    have o : ownable (intL (accL k.toNat [])) = true := rfl
    simp only [evF, evSs, evS, evE, evEs, evB, evI, slotS, slotD, slotC_0, slotC_s, putTg, modS, kD, bt_int, bt_abs, bt_lenL, bt_lenT, bt_tupL, Option.map_some, Option.map_none, List.getElem?_cons_zero, List.getElem?_cons_succ, List.length_cons, List.length_nil, List.set_cons_zero, List.set_cons_succ, List.replicate, List.cons_append, List.nil_append, allSh, if_true, wipeS, tgIx, List.map_cons, List.map_nil, Nat.zero_le, line_val, Nat.reduceAdd, Nat.reduceLeDiff, Bool.false_eq_true, if_false, Bool.not_true, Bool.not_false, c_eq, c_ne, c_lt, c_le, c_gt, c_ge, c_eqr0, c_ner0, b_add, b_sub, e0, bt_lenRow, hz, o, List.length_cons, List.length_nil]
    try rfl) ?_
  have itB : itemsD (boardD rows) = some (rows.map rowD) := rfl
  refine W_for (xs := rows.map rowD) (c1 := c) (fun i ρ c' => c' = c ∧ ∃ x2 x3 x4, ρ = [.sh (boardD rows), .own (intL (accL k.toNat ((rows.take i).flatMap fun a => rows.map fun b => (unN a b, 1)))), x2, x3, x4, .no]) (by simp only [evF, evSs, evS, evE, evEs, evB, evI, slotS, slotD, slotC_0, slotC_s, putTg, modS, kD, bt_int, bt_abs, bt_lenL, bt_lenT, bt_tupL, Option.map_some, Option.map_none, List.getElem?_cons_zero, List.getElem?_cons_succ, List.length_cons, List.length_nil, List.set_cons_zero, List.set_cons_succ, List.replicate, List.cons_append, List.nil_append, allSh, if_true, wipeS, tgIx, List.map_cons, List.map_nil, Nat.zero_le, line_val, Nat.reduceAdd, Nat.reduceLeDiff, Bool.false_eq_true, if_false, Bool.not_true, Bool.not_false, c_eq, c_ne, c_lt, c_le, c_gt, c_ge, c_eqr0, c_ner0, b_add, b_sub, itB]) ⟨rfl, _, _, _, rfl⟩ ?_ ?_
  · rintro i d ρ c' hd ⟨rfl, x2, x3, x4, rfl⟩
    obtain ⟨a, ha, rfl⟩ := lots_at hd
    have ham := List.mem_of_getElem? ha
    have hal := B.len a ham
    obtain ⟨ps, hps⟩ : ∃ ps, ps = (rows.take i).flatMap fun a => rows.map fun b => (unN a b, (1 : Int)) := ⟨_, rfl⟩
    rw [← hps]
    refine ⟨_, rfl, ?_⟩
    refine W_for (xs := rows.map rowD) (c1 := c') (fun j ρ c'' => c'' = c' ∧ ∃ x3 x4, ρ = [.sh (boardD rows), .own (intL (accL k.toNat (ps ++ (rows.take j).map fun b => (unN a b, 1)))), .sh (rowD a), x3, x4, .no]) (by simp only [evF, evSs, evS, evE, evEs, evB, evI, slotS, slotD, slotC_0, slotC_s, putTg, modS, kD, bt_int, bt_abs, bt_lenL, bt_lenT, bt_tupL, Option.map_some, Option.map_none, List.getElem?_cons_zero, List.getElem?_cons_succ, List.length_cons, List.length_nil, List.set_cons_zero, List.set_cons_succ, List.replicate, List.cons_append, List.nil_append, allSh, if_true, wipeS, tgIx, List.map_cons, List.map_nil, Nat.zero_le, line_val, Nat.reduceAdd, Nat.reduceLeDiff, Bool.false_eq_true, if_false, Bool.not_true, Bool.not_false, c_eq, c_ne, c_lt, c_le, c_gt, c_ge, c_eqr0, c_ner0, b_add, b_sub, itB]) ⟨rfl, _, _, by rw [List.take_zero, List.map_nil, List.append_nil]; rfl⟩ ?_ ?_
    · rintro j d ρ c'' hd ⟨rfl, y3, y4, rfl⟩
      obtain ⟨b, hb, rfl⟩ := lots_at hd
      have hbm := List.mem_of_getElem? hb
      have hbl := B.len b hbm
      have hu := unN_le (b := b) hal
      have hat := unN_at hal hbl
      obtain ⟨u, eu⟩ : ∃ u, u = unN a b := ⟨_, rfl⟩
      rw [← eu] at hu hat
      obtain ⟨qs, hqs⟩ : ∃ qs, qs = ps ++ (rows.take j).map fun b => (unN a b, (1 : Int)) := ⟨_, rfl⟩
      rw [← hqs]
      have hnx : ps ++ (rows.take (j + 1)).map (fun b => (unN a b, (1 : Int))) = qs ++ [(u, 1)] := by
        rw [take_snoc hb, List.map_append, hqs, eu, List.append_assoc]; rfl
      have hlen : u < (accL k.toNat qs).length := by rw [accL_len]; omega
      refine ⟨_, rfl, ?_⟩
      refine W_step (ρ1 := [.sh (boardD rows), .own (intL (accL k.toNat qs)), .sh (rowD a), .sh (rowD b), .sh (.int (u : Nat)), .no]) (c1 := c'') (by
        simp only [evF, evSs, evS, evE, evEs, evB, evI, slotS, slotD, slotC_0, slotC_s, putTg, modS, kD, bt_int, bt_abs, bt_lenL, bt_lenT, bt_tupL, Option.map_some, Option.map_none, List.getElem?_cons_zero, List.getElem?_cons_succ, List.length_cons, List.length_nil, List.set_cons_zero, List.set_cons_succ, List.replicate, List.cons_append, List.nil_append, allSh, if_true, wipeS, tgIx, List.map_cons, List.map_nil, Nat.zero_le, line_val, Nat.reduceAdd, Nat.reduceLeDiff, Bool.false_eq_true, if_false, Bool.not_true, Bool.not_false, c_eq, c_ne, c_lt, c_le, c_gt, c_ge, c_eqr0, c_ner0, b_add, b_sub, bt_lenRow, hal, range1_ok (t := (k.toNat : Nat)) (by omega) (by omega), rng_ints]
        rw [img_filter (p := fun x => !decide (a.getD x.toNat 0 = b.getD x.toNat 0)) (h := .int)]
        · have h3 : (((rngI 0 ((k.toNat : Nat) : Int).toNat).filter fun x => !decide (a.getD x.toNat 0 = b.getD x.toNat 0)).map PyData.int).length ≤ line := by
            rw [List.length_map, Int.toNat_natCast, ← hat]; omega
          have e2 : btD .len [.list (((rngI 0 ((k.toNat : Nat) : Int).toNat).filter fun x => !decide (a.getD x.toNat 0 = b.getD x.toNat 0)).map .int)] = some (.int (u : Nat)) := by
            show some (PyData.int (List.length _ : Nat)) = _
            rw [List.length_map, Int.toNat_natCast, ← hat]
          simp only [evF, evSs, evS, evE, evEs, evB, evI, slotS, slotD, slotC_0, slotC_s, putTg, modS, kD, bt_int, bt_abs, bt_lenL, bt_lenT, bt_tupL, Option.map_some, Option.map_none, List.getElem?_cons_zero, List.getElem?_cons_succ, List.length_cons, List.length_nil, List.set_cons_zero, List.set_cons_succ, List.replicate, List.cons_append, List.nil_append, allSh, if_true, wipeS, tgIx, List.map_cons, List.map_nil, Nat.zero_le, line_val, Nat.reduceAdd, Nat.reduceLeDiff, Bool.false_eq_true, if_false, Bool.not_true, Bool.not_false, c_eq, c_ne, c_lt, c_le, c_gt, c_ge, c_eqr0, c_ner0, b_add, b_sub, h3, e2] <;> rfl
        · intro x hx
          have hx' := mem_rngI.mp hx
          have m1 := marks_at (kt := ct.kt) (row := a) (k := k) hal (x := x) (by omega)
          have m2 := marks_at (kt := ct.kt) (row := b) (k := k) hbl (x := x) (by omega)
          simp only [evF, evSs, evS, evE, evEs, evB, evI, slotS, slotD, slotC_0, slotC_s, putTg, modS, kD, bt_int, bt_abs, bt_lenL, bt_lenT, bt_tupL, Option.map_some, Option.map_none, List.getElem?_cons_zero, List.getElem?_cons_succ, List.length_cons, List.length_nil, List.set_cons_zero, List.set_cons_succ, List.replicate, List.cons_append, List.nil_append, allSh, if_true, wipeS, tgIx, List.map_cons, List.map_nil, Nat.zero_le, line_val, Nat.reduceAdd, Nat.reduceLeDiff, Bool.false_eq_true, if_false, Bool.not_true, Bool.not_false, c_eq, c_ne, c_lt, c_le, c_gt, c_ge, c_eqr0, c_ner0, b_add, b_sub, m1, m2, c_ne]
          cases decide (a.getD x.toNat 0 = b.getD x.toNat 0) <;> rfl) ?_
      refine W_step (ρ1 := [.sh (boardD rows), .own (intL (accL k.toNat (qs ++ [(u, 1)]))), .sh (rowD a), .sh (rowD b), .sh (.int (u : Nat)), .no]) (c1 := c'') (by
        rw [accL_snoc qs 1 hu]
        simp only [evF, evSs, evS, evE, evEs, evB, evI, slotS, slotD, slotC_0, slotC_s, putTg, modS, kD, bt_int, bt_abs, bt_lenL, bt_lenT, bt_tupL, Option.map_some, Option.map_none, List.getElem?_cons_zero, List.getElem?_cons_succ, List.length_cons, List.length_nil, List.set_cons_zero, List.set_cons_succ, List.replicate, List.cons_append, List.nil_append, allSh, if_true, wipeS, tgIx, List.map_cons, List.map_nil, Nat.zero_le, line_val, Nat.reduceAdd, Nat.reduceLeDiff, Bool.false_eq_true, if_false, Bool.not_true, Bool.not_false, c_eq, c_ne, c_lt, c_le, c_gt, c_ge, c_eqr0, c_ner0, b_add, b_sub, intl_ix (kt := ct.kt) hlen, intl_set (kt := ct.kt) hlen]) (W_nil ⟨rfl, .sh (rowD b), .sh (.int (u : Nat)), by rw [hnx]⟩)
    · rintro ρ c'' ⟨rfl, y3, y4, rfl⟩
      refine W_nil ⟨rfl, .sh (rowD a), y3, y4, ?_⟩
      rw [List.length_map, List.take_length, take_snoc ha, List.flatMap_append, List.flatMap_cons, List.flatMap_nil, List.append_nil, hps]
  · rintro ρ c' ⟨rfl, x2, x3, x4, rfl⟩
    rw [List.length_map, List.take_length]
    have hl := accL_len k.toNat (likeP2 rows)
    have h3 : ((accL k.toNat (likeP2 rows)).map PyData.int).length ≤ line := by rw [List.length_map]; omega
    have e2 : btD .tuple [intL (accL k.toNat (likeP2 rows))] = some (rowD (likeV k.toNat rows)) := rfl
    exact W_rt (d := rowD (likeV k.toNat rows)) (c1 := c') (by
      show evS _ _ _ _ [.sh (boardD rows), .own (intL (accL k.toNat (likeP2 rows))), x2, x3, x4, .no] c' = _
      simp only [evF, evSs, evS, evE, evEs, evB, evI, slotS, slotD, slotC_0, slotC_s, putTg, modS, kD, bt_int, bt_abs, bt_lenL, bt_lenT, bt_tupL, Option.map_some, Option.map_none, List.getElem?_cons_zero, List.getElem?_cons_succ, List.length_cons, List.length_nil, List.set_cons_zero, List.set_cons_succ, List.replicate, List.cons_append, List.nil_append, allSh, if_true, wipeS, tgIx, List.map_cons, List.map_nil, Nat.zero_le, line_val, Nat.reduceAdd, Nat.reduceLeDiff, Bool.false_eq_true, if_false, Bool.not_true, Bool.not_false, c_eq, c_ne, c_lt, c_le, c_gt, c_ge, c_eqr0, c_ner0, b_add, b_sub, e2] <;> rfl) ⟨rfl, rfl⟩
end Lw
end
section
open PySem Pv
namespace Lw
theorem f_law_pick_ok (c : Dt) (M : Nat) (hc : Spr c M) (hM : M ≤ 1000000) (top : Int) (h1 : 0 < top) (h2 : top ≤ 1000000) : ∃ r c', f_law_pick [.cell, .sh (.int top)] c = some (.int r, c') ∧ 0 ≤ r ∧ r < top ∧ Spr c' (M + 1) := by
  obtain ⟨l, s, m, rfl, a1, a2, a3, a4, a5⟩ := hc
  have hb : top < 2 ^ 200 := Int.lt_of_le_of_lt h2 (by decide)
  unfold f_law_pick b_law_pick
  by_cases hl : 0 < l
  · refine ⟨l % top, SpD (l / top) s m, ?_, Int.emod_nonneg _ (by omega), Int.emod_lt_of_pos _ h1, l / top, s, m, rfl, Int.ediv_nonneg a1 (by omega), a2, a3, a4, by omega⟩
    simp only [evF, evSs, evS, evE, evEs, evB, evI, slotS, slotD, slotC_0, slotC_s, putTg, modS, kD, bt_int, bt_abs, bt_lenL, bt_lenT, bt_tupL, Option.map_some, Option.map_none, List.getElem?_cons_zero, List.getElem?_cons_succ, List.length_cons, List.length_nil, List.set_cons_zero, List.set_cons_succ, List.replicate, List.cons_append, List.nil_append, allSh, if_true, wipeS, tgIx, List.map_cons, List.map_nil, Nat.zero_le, line_val, Nat.reduceAdd, Nat.reduceLeDiff, Bool.false_eq_true, if_false, Bool.not_true, Bool.not_false, c_eq, c_ne, c_lt, c_le, c_gt, c_ge, c_eqr0, c_ner0, b_add, b_sub, sp_0, hl, decide_true, bt_divmod h1 (by omega), sps_0]
  · have p1 : (0 : Int) < 998244353 := by decide
    have p2 : (0 : Int) < 6007 := by decide
    have p4 : (0 : Int) < 211 := by decide
    have m1 : binD .Mult (.int 15485863) (.int (m + 1)) = some (.int (15485863 * (m + 1))) := mulD_ok (small_lt (by decide)) (small_lt (by omega))
    have m2 : binD .Mult (.int 101) (.int (m + 1)) = some (.int (101 * (m + 1))) := mulD_ok (small_lt (by decide)) (small_lt (by omega))
    generalize hs : (s + 15485863 * (m + 1)) % 998244353 = x
    have g1 : 0 ≤ x := by rw [← hs]; exact Int.emod_nonneg _ (by decide)
    have g2 : x < 998244353 := by rw [← hs]; exact Int.emod_lt_of_pos _ (by decide)
    have q1 := Int.emod_nonneg x (b := 6007) (by decide)
    have q2 := Int.emod_lt_of_pos x p2
    have m3 : binD .Mult (.int x) (.int (x % 6007 + 40093)) = some (.int (x * (x % 6007 + 40093))) := mulD_ok (small_lt (by omega)) (small_lt (by omega))
    generalize hy : (x * (x % 6007 + 40093) + 101 * (m + 1)) % 998244353 = y
    have g3 : 0 ≤ y := by rw [← hy]; exact Int.emod_nonneg _ (by decide)
    have g4 : y < 998244353 := by rw [← hy]; exact Int.emod_lt_of_pos _ (by decide)
    refine ⟨y / 211 % top, SpD l y (m + 1), ?_, Int.emod_nonneg _ (by omega), Int.emod_lt_of_pos _ h1, l, y, m + 1, rfl, a1, g3, by omega, by omega, by omega⟩
    simp only [evF, evSs, evS, evE, evEs, evB, evI, slotS, slotD, slotC_0, slotC_s, putTg, modS, kD, bt_int, bt_abs, bt_lenL, bt_lenT, bt_tupL, Option.map_some, Option.map_none, List.getElem?_cons_zero, List.getElem?_cons_succ, List.length_cons, List.length_nil, List.set_cons_zero, List.set_cons_succ, List.replicate, List.cons_append, List.nil_append, allSh, if_true, wipeS, tgIx, List.map_cons, List.map_nil, Nat.zero_le, line_val, Nat.reduceAdd, Nat.reduceLeDiff, Bool.false_eq_true, if_false, Bool.not_true, Bool.not_false, c_eq, c_ne, c_lt, c_le, c_gt, c_ge, c_eqr0, c_ner0, b_add, b_sub, sp_0, hl, decide_false, sp_2, sps_2, sp_1, m1, b_mod p1, hs, m2, b_mod p2, m3, hy, sps_1, b_div p4 (by decide), b_mod h1]
end Lw
end
section
open PySem Pv L2
namespace Lw
theorem f_law_one_of_gen (l : List Dt) (c : Dt) (M : Nat) (hc : Spr c M) (hM : M ≤ 1000000) (h1 : l ≠ []) (h2 : l.length ≤ 1000000) : ∃ x c', f_law_one_of [.cell, .sh (.list l)] c = some (x, c') ∧ x ∈ l ∧ Spr c' (M + 1) := by
  have hp : 0 < l.length := List.length_pos_iff.mpr h1
  obtain ⟨r, c', e, r1, r2, w⟩ := f_law_pick_ok c M hc hM (l.length : Int) (by omega) (by omega)
  have hr : r.toNat < l.length := by omega
  refine ⟨l[r.toNat], c', ?_, List.getElem_mem hr, w⟩
  refine evF_eq rfl (W_rt (d := l[r.toNat]) (c1 := c') ?_ ⟨rfl, rfl⟩)
  have e1 : ixD ct.kt (.list l) (.int r) = some l[r.toNat] := at_int r1 (List.getElem?_eq_getElem hr)
  simp only [evF, evSs, evS, evE, evEs, evB, evI, slotS, slotD, slotC_0, slotC_s, putTg, modS, kD, bt_int, bt_abs, bt_lenL, bt_lenT, bt_tupL, Option.map_some, Option.map_none, List.getElem?_cons_zero, List.getElem?_cons_succ, List.length_cons, List.length_nil, List.set_cons_zero, List.set_cons_succ, List.replicate, List.cons_append, List.nil_append, allSh, if_true, wipeS, tgIx, List.map_cons, List.map_nil, Nat.zero_le, line_val, Nat.reduceAdd, Nat.reduceLeDiff, Bool.false_eq_true, if_false, Bool.not_true, Bool.not_false, c_eq, c_ne, c_lt, c_le, c_gt, c_ge, c_eqr0, c_ner0, b_add, b_sub, e, e1]
theorem f_law_one_of_ok (l : List Int) (c : Dt) (M : Nat) (hc : Spr c M) (hM : M ≤ 1000000) (h1 : l ≠ []) (h2 : l.length ≤ 1000) : ∃ x c', f_law_one_of [.cell, .sh (.list (l.map .int))] c = some (.int x, c') ∧ x ∈ l ∧ Spr c' (M + 1) := by
  obtain ⟨d, c', e, hd, w⟩ := f_law_one_of_gen (l.map .int) c M hc hM (by simpa using h1) (by rw [List.length_map]; omega)
  obtain ⟨x, hx, rfl⟩ := List.mem_map.mp hd
  exact ⟨x, c', e, hx, w⟩
end Lw
end
section
open PySem Pv L2
namespace Lw
theorem f_law_patterns_ok (v : Int) (t : Nat) (c : Dt) (v1 : 1 ≤ v) (v2 : v ≤ 5) (t2 : t ≤ 8) : f_law_patterns [.sh (.int v), .sh (.int t)] c = some (lotsD (allP v t), c) := by
  have hline := line_val
  have hlen : ∀ i, i ≤ t → (allP v i).length ≤ 5 ^ 8 := fun i hi => by
    have h := allP_len (v := v) (by omega) i
    have h1 : v.toNat ^ i ≤ 5 ^ 8 := Nat.le_trans (Nat.pow_le_pow_left (show v.toNat ≤ 5 by omega) i) (Nat.pow_le_pow_right (by decide) (by omega))
    have e : ((v.toNat ^ i : Nat) : Int) = v ^ i := by rw [Int.natCast_pow, Int.toNat_of_nonneg (by omega)]
    omega
  refine evF_eq rfl ?_
  refine W_step (ρ1 := [.sh (.int v), .sh (.int t), .sh (lotsD (allP v 0)), .no, .no, .no, .no]) (c1 := c) (by simp only [evF, evSs, evS, evE, evEs, evB, evI, slotS, slotD, slotC_0, slotC_s, putTg, modS, kD, bt_int, bt_abs, bt_lenL, bt_lenT, bt_tupL, Option.map_some, Option.map_none, List.getElem?_cons_zero, List.getElem?_cons_succ, List.length_cons, List.length_nil, List.set_cons_zero, List.set_cons_succ, List.replicate, List.cons_append, List.nil_append, allSh, if_true, wipeS, tgIx, List.map_cons, List.map_nil, Nat.zero_le, line_val, Nat.reduceAdd, Nat.reduceLeDiff, Bool.false_eq_true, if_false, Bool.not_true, Bool.not_false, c_eq, c_ne, c_lt, c_le, c_gt, c_ge, c_eqr0, c_ner0, b_add, b_sub]; rfl) ?_
  refine W_for (xs := rngD (0, t)) (c1 := c) (fun i ρ c' => c' = c ∧ ∃ x3 x4 x5 x6, ρ = [.sh (.int v), .sh (.int t), .sh (lotsD (allP v i)), x3, x4, x5, x6]) (by simp only [evF, evSs, evS, evE, evEs, evB, evI, slotS, slotD, slotC_0, slotC_s, putTg, modS, kD, bt_int, bt_abs, bt_lenL, bt_lenT, bt_tupL, Option.map_some, Option.map_none, List.getElem?_cons_zero, List.getElem?_cons_succ, List.length_cons, List.length_nil, List.set_cons_zero, List.set_cons_succ, List.replicate, List.cons_append, List.nil_append, allSh, if_true, wipeS, tgIx, List.map_cons, List.map_nil, Nat.zero_le, line_val, Nat.reduceAdd, Nat.reduceLeDiff, Bool.false_eq_true, if_false, Bool.not_true, Bool.not_false, c_eq, c_ne, c_lt, c_le, c_gt, c_ge, c_eqr0, c_ner0, b_add, b_sub, range1_ok (t := (t : Int)) (by omega) (by omega)]; rfl) ⟨rfl, _, _, _, _, rfl⟩ ?_ ?_
  · rintro i d ρ c' hd ⟨rfl, x3, x4, x5, x6, rfl⟩
    obtain ⟨rfl, hi⟩ := rng_at hd
    refine ⟨_, rfl, ?_⟩
    refine W_step (ρ1 := [.sh (.int v), .sh (.int t), .sh (lotsD (allP v i)), .sh (.int (0 + (i : Nat))), .own (lotsD []), x5, x6]) (c1 := c') (by simp only [evF, evSs, evS, evE, evEs, evB, evI, slotS, slotD, slotC_0, slotC_s, putTg, modS, kD, bt_int, bt_abs, bt_lenL, bt_lenT, bt_tupL, Option.map_some, Option.map_none, List.getElem?_cons_zero, List.getElem?_cons_succ, List.length_cons, List.length_nil, List.set_cons_zero, List.set_cons_succ, List.replicate, List.cons_append, List.nil_append, allSh, if_true, wipeS, tgIx, List.map_cons, List.map_nil, Nat.zero_le, line_val, Nat.reduceAdd, Nat.reduceLeDiff, Bool.false_eq_true, if_false, Bool.not_true, Bool.not_false, c_eq, c_ne, c_lt, c_le, c_gt, c_ge, c_eqr0, c_ner0, b_add, b_sub, ownable]; rfl) ?_
    refine W_for (xs := (allP v i).map rowD) (c1 := c') (fun j ρ c'' => c'' = c' ∧ ∃ x5, ρ = [.sh (.int v), .sh (.int t), .sh (lotsD (allP v i)), .sh (.int (0 + (i : Nat))), .own (lotsD (((allP v i).take j).flatMap fun p => (rngI 0 v.toNat).map fun x => p ++ [x])), x5, x6]) (by simp only [evF, evSs, evS, evE, evEs, evB, evI, slotS, slotD, slotC_0, slotC_s, putTg, modS, kD, bt_int, bt_abs, bt_lenL, bt_lenT, bt_tupL, Option.map_some, Option.map_none, List.getElem?_cons_zero, List.getElem?_cons_succ, List.length_cons, List.length_nil, List.set_cons_zero, List.set_cons_succ, List.replicate, List.cons_append, List.nil_append, allSh, if_true, wipeS, tgIx, List.map_cons, List.map_nil, Nat.zero_le, line_val, Nat.reduceAdd, Nat.reduceLeDiff, Bool.false_eq_true, if_false, Bool.not_true, Bool.not_false, c_eq, c_ne, c_lt, c_le, c_gt, c_ge, c_eqr0, c_ner0, b_add, b_sub, lotsD, itemsD]) ⟨rfl, _, rfl⟩ ?_ ?_
    · rintro j d ρ c'' hd ⟨rfl, x5, rfl⟩
      obtain ⟨p, hp, rfl⟩ := lots_at hd
      have hpm := allP_mem (List.mem_of_getElem? hp)
      obtain ⟨m, hm⟩ : ∃ m, m = (rngI 0 v.toNat).map fun x => p ++ [x] := ⟨_, rfl⟩
      have ml : m.length = v.toNat := by rw [hm, List.length_map, rngI_len]
      obtain ⟨L, hL⟩ : ∃ L, L = ((allP v i).take j).flatMap fun p => (rngI 0 v.toNat).map fun x => p ++ [x] := ⟨_, rfl⟩
      have ll : L.length ≤ 5 ^ 8 * 5 := by
        rw [hL]
        have a1 := flat_len (f := fun p => (rngI 0 v.toNat).map fun x => p ++ [x]) (b := v.toNat) (l := (allP v i).take j) fun q hq => by rw [List.length_map, rngI_len]; exact Nat.le_refl _
        have a2 : ((allP v i).take j).length ≤ 5 ^ 8 := by
          have := hlen i (by omega)
          rw [List.length_take]; omega
        exact Nat.le_trans a1 (Nat.mul_le_mul a2 (by omega))
      refine ⟨_, rfl, ?_⟩
      rw [← hL]
      refine W_step (ρ1 := [.sh (.int v), .sh (.int t), .sh (lotsD (allP v i)), .sh (.int (0 + (i : Nat))), .own (lotsD (L ++ m)), .sh (rowD p), x6]) (c1 := c'') ?_ (W_nil ⟨rfl, .sh (rowD p), ?_⟩)
      · simp only [evF, evSs, evS, evE, evEs, evB, evI, slotS, slotD, slotC_0, slotC_s, putTg, modS, kD, bt_int, bt_abs, bt_lenL, bt_lenT, bt_tupL, Option.map_some, Option.map_none, List.getElem?_cons_zero, List.getElem?_cons_succ, List.length_cons, List.length_nil, List.set_cons_zero, List.set_cons_succ, List.replicate, List.cons_append, List.nil_append, allSh, if_true, wipeS, tgIx, List.map_cons, List.map_nil, Nat.zero_le, line_val, Nat.reduceAdd, Nat.reduceLeDiff, Bool.false_eq_true, if_false, Bool.not_true, Bool.not_false, c_eq, c_ne, c_lt, c_le, c_gt, c_ge, c_eqr0, c_ner0, b_add, b_sub, range1_ok (t := v) (by omega) (by omega), rng_ints]
        rw [img_map (h := fun x => rowD (p ++ [x]))]
        · have e : (rngI 0 v.toNat).map (fun x => rowD (p ++ [x])) = m.map rowD := by rw [hm, List.map_map]; rfl
          rw [e]
          have : (m.map rowD).length ≤ line := by rw [List.length_map]; omega
          simp only [evF, evSs, evS, evE, evEs, evB, evI, slotS, slotD, slotC_0, slotC_s, putTg, modS, kD, bt_int, bt_abs, bt_lenL, bt_lenT, bt_tupL, Option.map_some, Option.map_none, List.getElem?_cons_zero, List.getElem?_cons_succ, List.length_cons, List.length_nil, List.set_cons_zero, List.set_cons_succ, List.replicate, List.cons_append, List.nil_append, allSh, if_true, wipeS, tgIx, List.map_cons, List.map_nil, Nat.zero_le, line_val, Nat.reduceAdd, Nat.reduceLeDiff, Bool.false_eq_true, if_false, Bool.not_true, Bool.not_false, c_eq, c_ne, c_lt, c_le, c_gt, c_ge, c_eqr0, c_ner0, b_add, b_sub, ext_lots (L := L) (m := m) (by omega), this]
        · intro x hx
          have hb : (p.map PyData.int).length + [PyData.int x].length ≤ line := by rw [List.length_map, hpm.1, hline]; simp; omega
          have hadd : binD .Add (rowD p) (.tuple [.int x]) = some (rowD (p ++ [x])) := by
            unfold rowD; rw [b_addr hb, ← List.map_singleton, ← List.map_append]
          simp only [evF, evSs, evS, evE, evEs, evB, evI, slotS, slotD, slotC_0, slotC_s, putTg, modS, kD, bt_int, bt_abs, bt_lenL, bt_lenT, bt_tupL, Option.map_some, Option.map_none, List.getElem?_cons_zero, List.getElem?_cons_succ, List.length_cons, List.length_nil, List.set_cons_zero, List.set_cons_succ, List.replicate, List.cons_append, List.nil_append, allSh, if_true, wipeS, tgIx, List.map_cons, List.map_nil, Nat.zero_le, line_val, Nat.reduceAdd, Nat.reduceLeDiff, Bool.false_eq_true, if_false, Bool.not_true, Bool.not_false, c_eq, c_ne, c_lt, c_le, c_gt, c_ge, c_eqr0, c_ner0, b_add, b_sub, hadd, oneInt]
      · rw [take_snoc hp, List.flatMap_append, hL, hm]
        simp
    · rintro ρ c'' ⟨rfl, x5, rfl⟩
      refine W_step (by simp only [evF, evSs, evS, evE, evEs, evB, evI, slotS, slotD, slotC_0, slotC_s, putTg, modS, kD, bt_int, bt_abs, bt_lenL, bt_lenT, bt_tupL, Option.map_some, Option.map_none, List.getElem?_cons_zero, List.getElem?_cons_succ, List.length_cons, List.length_nil, List.set_cons_zero, List.set_cons_succ, List.replicate, List.cons_append, List.nil_append, allSh, if_true, wipeS, tgIx, List.map_cons, List.map_nil, Nat.zero_le, line_val, Nat.reduceAdd, Nat.reduceLeDiff, Bool.false_eq_true, if_false, Bool.not_true, Bool.not_false, c_eq, c_ne, c_lt, c_le, c_gt, c_ge, c_eqr0, c_ner0, b_add, b_sub]; rfl) (W_step (by simp only [evF, evSs, evS, evE, evEs, evB, evI, slotS, slotD, slotC_0, slotC_s, putTg, modS, kD, bt_int, bt_abs, bt_lenL, bt_lenT, bt_tupL, Option.map_some, Option.map_none, List.getElem?_cons_zero, List.getElem?_cons_succ, List.length_cons, List.length_nil, List.set_cons_zero, List.set_cons_succ, List.replicate, List.cons_append, List.nil_append, allSh, if_true, wipeS, tgIx, List.map_cons, List.map_nil, Nat.zero_le, line_val, Nat.reduceAdd, Nat.reduceLeDiff, Bool.false_eq_true, if_false, Bool.not_true, Bool.not_false, c_eq, c_ne, c_lt, c_le, c_gt, c_ge, c_eqr0, c_ner0, b_add, b_sub]; rfl) (W_nil ⟨rfl, .sh (.int (0 + (i : Nat))), .sh (lotsD (allP v (i + 1))), x5, x6, ?_⟩))
      rw [List.length_map, List.take_length]; rfl
  · rintro ρ c' ⟨rfl, x3, x4, x5, x6, rfl⟩
    rw [rng_len]
    exact W_rt (d := lotsD (allP v t)) (c1 := c') (by simp only [evF, evSs, evS, evE, evEs, evB, evI, slotS, slotD, slotC_0, slotC_s, putTg, modS, kD, bt_int, bt_abs, bt_lenL, bt_lenT, bt_tupL, Option.map_some, Option.map_none, List.getElem?_cons_zero, List.getElem?_cons_succ, List.length_cons, List.length_nil, List.set_cons_zero, List.set_cons_succ, List.replicate, List.cons_append, List.nil_append, allSh, if_true, wipeS, tgIx, List.map_cons, List.map_nil, Nat.zero_le, line_val, Nat.reduceAdd, Nat.reduceLeDiff, Bool.false_eq_true, if_false, Bool.not_true, Bool.not_false, c_eq, c_ne, c_lt, c_le, c_gt, c_ge, c_eqr0, c_ner0, b_add, b_sub] <;> rfl) ⟨rfl, rfl⟩
end Lw
end
section
open PySem Pv L2
namespace Lw
/-- rows of n marks below v -/
def RowsOk (v : Int) (n : Nat) (rows : List (List Int)) : Prop := ∀ r ∈ rows, r.length = n ∧ ∀ x ∈ r, 0 ≤ x ∧ x < v
def dotZ (a b : List Int) : Int := ((a.zip b).map fun p => p.1 * p.2).sum
theorem f_law_sums_ok (v k : Int) (d : Nat) (c : Dt) (M : Nat) (hc : Spr c M) (hM : M ≤ 900000) (v1 : 2 ≤ v) (v2 : v ≤ 5) (k1 : 0 ≤ k) (k2 : k ≤ 8) (hd : d ≤ 7) :
    ∃ rows c', f_law_sums [.cell, .sh (.int v), .sh (.int k), .sh (.int d)] c = some (lotsD rows, c') ∧ rows.length = (v ^ (d + 1)).toNat ∧ RowsOk v k.toNat rows ∧ Spr c' (M + 100) := by
  have hline := line_val
  have v0 : 0 < v := by omega
  suffices ∃ d1 c1, f_law_sums [.cell, .sh (.int v), .sh (.int k), .sh (.int d)] c = some (d1, c1) ∧ ∃ rows, d1 = lotsD rows ∧ rows.length = (v ^ (d + 1)).toNat ∧ RowsOk v k.toNat rows ∧ Spr c1 (M + 100) by
    obtain ⟨d1, c1, e, rows, rfl, h⟩ := this
    exact ⟨rows, c1, e, h⟩
  refine evF_W rfl ?_
  obtain ⟨spots, c2, e2, hl, hs, w2⟩ : ∃ (spots : List (List Int)) (c2 : Dt), evS [f_law_likenesses, f_law_pick, f_law_one_of, f_law_patterns] ct 100000 (.asg (.nm 4) (.comp [("i", 7)] (.nm 7) (.range (.cons (.var 2) .nil)) .nil (.comp [("j", 8)] (.nm 8) (.range (.cons (.var 3) .nil)) .nil (.call 1 (.cel 0 (.cons (.var 1) .nil)))))) [.cell, .sh (.int v), .sh (.int k), .sh (.int d), .no, .no, .no, .no, .no, .no, .no, .no] c = some (.nx [.cell, .sh (.int v), .sh (.int k), .sh (.int d), .sh (.list (spots.map intL)), .no, .no, .no, .no, .no, .no, .no] c2) ∧ spots.length = k.toNat ∧ (∀ s ∈ spots, s.length = d ∧ ∀ x ∈ s, 0 ≤ x ∧ x < v) ∧ Spr c2 (M + 100) := by
    simp only [evF, evSs, evS, evE, evEs, evB, evI, slotS, slotD, slotC_0, slotC_s, putTg, modS, kD, bt_int, bt_abs, bt_lenL, bt_lenT, bt_tupL, Option.map_some, Option.map_none, List.getElem?_cons_zero, List.getElem?_cons_succ, List.length_cons, List.length_nil, List.set_cons_zero, List.set_cons_succ, List.replicate, List.cons_append, List.nil_append, allSh, if_true, wipeS, tgIx, List.map_cons, List.map_nil, Nat.zero_le, line_val, Nat.reduceAdd, Nat.reduceLeDiff, Bool.false_eq_true, if_false, Bool.not_true, Bool.not_false, c_eq, c_ne, c_lt, c_le, c_gt, c_ge, c_eqr0, c_ner0, b_add, b_sub, range1_ok (t := k) (by omega) (by omega)]
    generalize hg : compGo _ _ _ = o
    obtain ⟨ys, c3, rfl, ly, py, iy⟩ := comp_run (fun i c => Spr c (M + d * i)) (fun y => ∃ l : List Int, y = intL l ∧ (l.length = d ∧ ∀ x ∈ l, 0 ≤ x ∧ x < v)) hg hc (by
      intro i dd c hi w
      obtain ⟨rfl, hi'⟩ := rng_at hi
      have hdi : d * i ≤ 7 * 8 := Nat.mul_le_mul hd (by omega)
      simp only [evF, evSs, evS, evE, evEs, evB, evI, slotS, slotD, slotC_0, slotC_s, putTg, modS, kD, bt_int, bt_abs, bt_lenL, bt_lenT, bt_tupL, Option.map_some, Option.map_none, List.getElem?_cons_zero, List.getElem?_cons_succ, List.length_cons, List.length_nil, List.set_cons_zero, List.set_cons_succ, List.replicate, List.cons_append, List.nil_append, allSh, if_true, wipeS, tgIx, List.map_cons, List.map_nil, Nat.zero_le, line_val, Nat.reduceAdd, Nat.reduceLeDiff, Bool.false_eq_true, if_false, Bool.not_true, Bool.not_false, c_eq, c_ne, c_lt, c_le, c_gt, c_ge, c_eqr0, c_ner0, b_add, b_sub, range1_ok (t := (d : Int)) (by omega) (by omega)]
      generalize hg2 : compGo _ _ _ = o2
      obtain ⟨zs, c4, rfl, lz, pz, iz⟩ := comp_run (fun j c => Spr c (M + d * i + j)) (fun y => ∃ x, y = .int x ∧ (0 ≤ x ∧ x < v)) hg2 w (by
        intro j dd c hj w
        obtain ⟨rfl, hj'⟩ := rng_at hj
        obtain ⟨x, c5, e5, x1, x2, w5⟩ := f_law_pick_ok c (M + d * i + j) w (by omega) v (by omega) (by omega)
        simp only [evF, evSs, evS, evE, evEs, evB, evI, slotS, slotD, slotC_0, slotC_s, putTg, modS, kD, bt_int, bt_abs, bt_lenL, bt_lenT, bt_tupL, Option.map_some, Option.map_none, List.getElem?_cons_zero, List.getElem?_cons_succ, List.length_cons, List.length_nil, List.set_cons_zero, List.set_cons_succ, List.replicate, List.cons_append, List.nil_append, allSh, if_true, wipeS, tgIx, List.map_cons, List.map_nil, Nat.zero_le, line_val, Nat.reduceAdd, Nat.reduceLeDiff, Bool.false_eq_true, if_false, Bool.not_true, Bool.not_false, c_eq, c_ne, c_lt, c_le, c_gt, c_ge, c_eqr0, c_ner0, b_add, b_sub, e5]
        exact ⟨_, _, rfl, ⟨x, rfl, x1, x2⟩, w5⟩)
      obtain ⟨l, rfl, ql⟩ := img_of pz
      rw [rng_len, List.length_map] at lz
      rw [rng_len] at iz
      have h1 : (l.map PyData.int).length ≤ line := by rw [List.length_map]; omega
      refine ⟨intL l, c4, by simp only [evF, evSs, evS, evE, evEs, evB, evI, slotS, slotD, slotC_0, slotC_s, putTg, modS, kD, bt_int, bt_abs, bt_lenL, bt_lenT, bt_tupL, Option.map_some, Option.map_none, List.getElem?_cons_zero, List.getElem?_cons_succ, List.length_cons, List.length_nil, List.set_cons_zero, List.set_cons_succ, List.replicate, List.cons_append, List.nil_append, allSh, if_true, wipeS, tgIx, List.map_cons, List.map_nil, Nat.zero_le, line_val, Nat.reduceAdd, Nat.reduceLeDiff, Bool.false_eq_true, if_false, Bool.not_true, Bool.not_false, c_eq, c_ne, c_lt, c_le, c_gt, c_ge, c_eqr0, c_ner0, b_add, b_sub, h1] <;> rfl, ⟨l, rfl, by omega, ql⟩, ?_⟩
      refine iz.mono ?_
      rw [Nat.mul_add, Nat.mul_one]; omega)
    obtain ⟨spots, rfl, qr⟩ := img_of py
    rw [rng_len, List.length_map] at ly
    rw [rng_len] at iy
    have h1 : (spots.map intL).length ≤ line := by rw [List.length_map]; omega
    have hdk : d * k.toNat ≤ 7 * 8 := Nat.mul_le_mul hd (by omega)
    refine ⟨spots, c3, by simp only [evF, evSs, evS, evE, evEs, evB, evI, slotS, slotD, slotC_0, slotC_s, putTg, modS, kD, bt_int, bt_abs, bt_lenL, bt_lenT, bt_tupL, Option.map_some, Option.map_none, List.getElem?_cons_zero, List.getElem?_cons_succ, List.length_cons, List.length_nil, List.set_cons_zero, List.set_cons_succ, List.replicate, List.cons_append, List.nil_append, allSh, if_true, wipeS, tgIx, List.map_cons, List.map_nil, Nat.zero_le, line_val, Nat.reduceAdd, Nat.reduceLeDiff, Bool.false_eq_true, if_false, Bool.not_true, Bool.not_false, c_eq, c_ne, c_lt, c_le, c_gt, c_ge, c_eqr0, c_ner0, b_add, b_sub, h1] <;> rfl, by omega, qr, iy.mono (by omega)⟩
  refine W_step e2 ?_
  refine W_step (ρ1 := [.cell, .sh (.int v), .sh (.int k), .sh (.int d), .sh (.list (spots.map intL)), .own (lotsD []), .no, .no, .no, .no, .no, .no]) (c1 := c2) (by simp only [evF, evSs, evS, evE, evEs, evB, evI, slotS, slotD, slotC_0, slotC_s, putTg, modS, kD, bt_int, bt_abs, bt_lenL, bt_lenT, bt_tupL, Option.map_some, Option.map_none, List.getElem?_cons_zero, List.getElem?_cons_succ, List.length_cons, List.length_nil, List.set_cons_zero, List.set_cons_succ, List.replicate, List.cons_append, List.nil_append, allSh, if_true, wipeS, tgIx, List.map_cons, List.map_nil, Nat.zero_le, line_val, Nat.reduceAdd, Nat.reduceLeDiff, Bool.false_eq_true, if_false, Bool.not_true, Bool.not_false, c_eq, c_ne, c_lt, c_le, c_gt, c_ge, c_eqr0, c_ner0, b_add, b_sub, ownable]; rfl) ?_
  have ep : f_law_patterns [.sh (.int v), .sh (.int ((d : Int) + 1))] c2 = some (lotsD (allP v (d + 1)), c2) := f_law_patterns_ok v (d + 1) c2 (by omega) v2 (by omega)
  refine W_for (xs := (allP v (d + 1)).map rowD) (c1 := c2) (fun i ρ c' => c' = c2 ∧ ∃ (rows : List (List Int)) (x6 : Sl), ρ = [.cell, .sh (.int v), .sh (.int k), .sh (.int d), .sh (.list (spots.map intL)), .own (lotsD rows), x6, .no, .no, .no, .no, .no] ∧ rows.length = i ∧ RowsOk v k.toNat rows) (by simp only [evF, evSs, evS, evE, evEs, evB, evI, slotS, slotD, slotC_0, slotC_s, putTg, modS, kD, bt_int, bt_abs, bt_lenL, bt_lenT, bt_tupL, Option.map_some, Option.map_none, List.getElem?_cons_zero, List.getElem?_cons_succ, List.length_cons, List.length_nil, List.set_cons_zero, List.set_cons_succ, List.replicate, List.cons_append, List.nil_append, allSh, if_true, wipeS, tgIx, List.map_cons, List.map_nil, Nat.zero_le, line_val, Nat.reduceAdd, Nat.reduceLeDiff, Bool.false_eq_true, if_false, Bool.not_true, Bool.not_false, c_eq, c_ne, c_lt, c_le, c_gt, c_ge, c_eqr0, c_ner0, b_add, b_sub, ep, lotsD, itemsD]) ⟨rfl, [], _, rfl, rfl, fun r hr => (nomatch hr)⟩ ?_ ?_
  · rintro i dd ρ c' hd' ⟨rfl, rows, x6, rfl, hi, ok⟩
    obtain ⟨h, hh, rfl⟩ := lots_at hd'
    obtain ⟨h1, h2⟩ := allP_mem (List.mem_of_getElem? hh)
    have hil : i < (allP v (d + 1)).length := (List.getElem?_eq_some_iff.mp hh).1
    have hal : (allP v (d + 1)).length ≤ 5 ^ 8 := by
      have h := allP_len (v := v) (by omega) (d + 1)
      have h1 : v.toNat ^ (d + 1) ≤ 5 ^ 8 := Nat.le_trans (Nat.pow_le_pow_left (show v.toNat ≤ 5 by omega) _) (Nat.pow_le_pow_right (by decide) (by omega))
      have e : ((v.toNat ^ (d + 1) : Nat) : Int) = v ^ (d + 1) := by rw [Int.natCast_pow, Int.toNat_of_nonneg (by omega)]
      omega
    obtain ⟨row, hrow⟩ : ∃ row : List Int, row = spots.map fun s => (dotZ h s + h.getD d 0) % v := ⟨_, rfl⟩
    have hR : RowsOk v k.toNat [row] := by
      intro r hr
      rw [List.mem_singleton.mp hr, hrow]
      refine ⟨by rw [List.length_map]; exact hl, fun x hx => ?_⟩
      obtain ⟨s, _, rfl⟩ := List.mem_map.mp hx
      exact ⟨Int.emod_nonneg _ (by omega), Int.emod_lt_of_pos _ v0⟩
    have hle : rows.length < line := by omega
    refine ⟨_, rfl, ?_⟩
    refine W_step (ρ1 := [.cell, .sh (.int v), .sh (.int k), .sh (.int d), .sh (.list (spots.map intL)), .own (lotsD (rows ++ [row])), .sh (rowD h), .no, .no, .no, .no, .no]) (c1 := c') ?_ (W_nil ⟨rfl, rows ++ [row], _, rfl, by simp [hi], fun r hr => ?_⟩)
    · have hI : itemsD (.list (spots.map intL)) = some (spots.map intL) := rfl
      simp only [evF, evSs, evS, evE, evEs, evB, evI, slotS, slotD, slotC_0, slotC_s, putTg, modS, kD, bt_int, bt_abs, bt_lenL, bt_lenT, bt_tupL, Option.map_some, Option.map_none, List.getElem?_cons_zero, List.getElem?_cons_succ, List.length_cons, List.length_nil, List.set_cons_zero, List.set_cons_succ, List.replicate, List.cons_append, List.nil_append, allSh, if_true, wipeS, tgIx, List.map_cons, List.map_nil, Nat.zero_le, line_val, Nat.reduceAdd, Nat.reduceLeDiff, Bool.false_eq_true, if_false, Bool.not_true, Bool.not_false, c_eq, c_ne, c_lt, c_le, c_gt, c_ge, c_eqr0, c_ner0, b_add, b_sub, hI]
      rw [img_map (h := fun s => .int ((dotZ h s + h.getD d 0) % v))]
      · have e : spots.map (fun s => PyData.int ((dotZ h s + h.getD d 0) % v)) = row.map .int := by rw [hrow, List.map_map]; rfl
        have h3 : (row.map PyData.int).length ≤ line := by rw [List.length_map, hrow, List.length_map]; omega
        rw [e]
        have e4 : btD .tuple [.list (row.map .int)] = some (rowD row) := rfl
        simp only [evF, evSs, evS, evE, evEs, evB, evI, slotS, slotD, slotC_0, slotC_s, putTg, modS, kD, bt_int, bt_abs, bt_lenL, bt_lenT, bt_tupL, Option.map_some, Option.map_none, List.getElem?_cons_zero, List.getElem?_cons_succ, List.length_cons, List.length_nil, List.set_cons_zero, List.set_cons_succ, List.replicate, List.cons_append, List.nil_append, allSh, if_true, wipeS, tgIx, List.map_cons, List.map_nil, Nat.zero_le, line_val, Nat.reduceAdd, Nat.reduceLeDiff, Bool.false_eq_true, if_false, Bool.not_true, Bool.not_false, c_eq, c_ne, c_lt, c_le, c_gt, c_ge, c_eqr0, c_ner0, b_add, b_sub, h3, e4, app_lots hle]
      · intro s hs'
        obtain ⟨s1, s2⟩ := hs s hs'
        have hq1 : seqD (rowD h) = some (h.map .int) := rfl
        have hq2 : seqD (intL s) = some (s.map .int) := rfl
        have hx : ixD ct.kt (rowD h) (.int d) = some (.int (h.getD d 0)) := by
          have := row_at (kt := ct.kt) (l := h) (i := (d : Int)) (by omega) (by omega)
          exact this
        simp only [evF, evSs, evS, evE, evEs, evB, evI, slotS, slotD, slotC_0, slotC_s, putTg, modS, kD, bt_int, bt_abs, bt_lenL, bt_lenT, bt_tupL, Option.map_some, Option.map_none, List.getElem?_cons_zero, List.getElem?_cons_succ, List.length_cons, List.length_nil, List.set_cons_zero, List.set_cons_succ, List.replicate, List.cons_append, List.nil_append, allSh, if_true, wipeS, tgIx, List.map_cons, List.map_nil, Nat.zero_le, line_val, Nat.reduceAdd, Nat.reduceLeDiff, Bool.false_eq_true, if_false, Bool.not_true, Bool.not_false, c_eq, c_ne, c_lt, c_le, c_gt, c_ge, c_eqr0, c_ner0, b_add, b_sub, hq1, hq2, zipD_ints, List.zip_cons_cons, List.zip_nil_left, List.foldl_cons, List.foldl_nil]
        rw [img_map (h := fun p => .int (p.1 * p.2))]
        · have e : (h.zip s).map (fun p => PyData.int (p.1 * p.2)) = ((h.zip s).map fun p => p.1 * p.2).map .int := by rw [List.map_map]; rfl
          rw [e]
          have e3 : btD .sum [.list (((h.zip s).map fun p => p.1 * p.2).map .int)] = some (.int (dotZ h s)) := by
            simp only [btD, intsD_map, Option.map_some]; rfl
          have h4 : (((h.zip s).map fun p => p.1 * p.2).map PyData.int).length ≤ line := by
            rw [List.length_map, List.length_map, List.length_zip]; omega
          simp only [evF, evSs, evS, evE, evEs, evB, evI, slotS, slotD, slotC_0, slotC_s, putTg, modS, kD, bt_int, bt_abs, bt_lenL, bt_lenT, bt_tupL, Option.map_some, Option.map_none, List.getElem?_cons_zero, List.getElem?_cons_succ, List.length_cons, List.length_nil, List.set_cons_zero, List.set_cons_succ, List.replicate, List.cons_append, List.nil_append, allSh, if_true, wipeS, tgIx, List.map_cons, List.map_nil, Nat.zero_le, line_val, Nat.reduceAdd, Nat.reduceLeDiff, Bool.false_eq_true, if_false, Bool.not_true, Bool.not_false, c_eq, c_ne, c_lt, c_le, c_gt, c_ge, c_eqr0, c_ner0, b_add, b_sub, h4, e3, hx, b_mod v0]
        · intro p hp
          obtain ⟨p1, p2⟩ := p
          have q1 := h2 _ (List.of_mem_zip hp).1
          have q2 := s2 _ (List.of_mem_zip hp).2
          simp only [evF, evSs, evS, evE, evEs, evB, evI, slotS, slotD, slotC_0, slotC_s, putTg, modS, kD, bt_int, bt_abs, bt_lenL, bt_lenT, bt_tupL, Option.map_some, Option.map_none, List.getElem?_cons_zero, List.getElem?_cons_succ, List.length_cons, List.length_nil, List.set_cons_zero, List.set_cons_succ, List.replicate, List.cons_append, List.nil_append, allSh, if_true, wipeS, tgIx, List.map_cons, List.map_nil, Nat.zero_le, line_val, Nat.reduceAdd, Nat.reduceLeDiff, Bool.false_eq_true, if_false, Bool.not_true, Bool.not_false, c_eq, c_ne, c_lt, c_le, c_gt, c_ge, c_eqr0, c_ner0, b_add, b_sub, mulD_ok (i := p1) (j := p2) (small_lt (by omega)) (small_lt (by omega)), List.zip_cons_cons, List.zip_nil_left, List.foldl_cons, List.foldl_nil, List.length_cons, List.length_nil]
    · rcases List.mem_append.mp hr with hr | hr
      · exact ok r hr
      · exact hR r hr
  · rintro ρ c' ⟨rfl, rows, x6, rfl, hi, ok⟩
    rw [List.length_map] at hi
    refine W_rt (d := lotsD rows) (c1 := c') (by simp only [evF, evSs, evS, evE, evEs, evB, evI, slotS, slotD, slotC_0, slotC_s, putTg, modS, kD, bt_int, bt_abs, bt_lenL, bt_lenT, bt_tupL, Option.map_some, Option.map_none, List.getElem?_cons_zero, List.getElem?_cons_succ, List.length_cons, List.length_nil, List.set_cons_zero, List.set_cons_succ, List.replicate, List.cons_append, List.nil_append, allSh, if_true, wipeS, tgIx, List.map_cons, List.map_nil, Nat.zero_le, line_val, Nat.reduceAdd, Nat.reduceLeDiff, Bool.false_eq_true, if_false, Bool.not_true, Bool.not_false, c_eq, c_ne, c_lt, c_le, c_gt, c_ge, c_eqr0, c_ner0, b_add, b_sub]) ⟨rows, rfl, ?_, ok, w2⟩
    have h := allP_len (v := v) (by omega) (d + 1)
    omega
end Lw
end
section
open PySem Pv L2
namespace Lw
theorem cut_row {r : List Int} {x : Int} (h0 : 0 ≤ x) (h : x.toNat ≤ r.length) : slD (rowD r) none (some x) = some (rowD (r.take x.toNat)) := by
  have : x = ((x.toNat : Nat) : Int) := by omega
  show some (PyData.tuple (cutD (r.map .int) none (some x))) = _
  rw [this, cut_take (α := Int) _ _ (by rw [List.length_map]; omega), Int.toNat_natCast, ← List.map_take]; rfl
theorem cut_rowD {r : List Int} {x : Int} (h0 : 0 ≤ x) (h : x.toNat ≤ r.length) : slD (rowD r) (some x) none = some (rowD (r.drop x.toNat)) := by
  have : x = ((x.toNat : Nat) : Int) := by omega
  show some (PyData.tuple (cutD (r.map .int) (some x) none)) = _
  rw [this, cut_drop _ _ (by rw [List.length_map]; omega), Int.toNat_natCast, ← List.map_drop]; rfl
theorem lots_ix {kt : Bool} {rows : List (List Int)} {a : Int} (h0 : 0 ≤ a) (h : a.toNat < rows.length) : ∃ r, ixD kt (lotsD rows) (.int a) = some (rowD r) ∧ rows[a.toNat]? = some r := by
  refine ⟨rows[a.toNat], at_int h0 ?_, List.getElem?_eq_getElem h⟩
  rw [List.getElem?_map, List.getElem?_eq_getElem h]; rfl
def putX (row : List Int) (x y : Int) : List Int := row.take x.toNat ++ [y] ++ row.drop (x + 1).toNat
theorem put_ok {v k x y : Int} {row : List Int} (x1 : 0 ≤ x) (x2 : x < k) (y1 : 0 ≤ y) (y2 : y < v) (hl : row.length = k.toNat) (hm : ∀ u ∈ row, 0 ≤ u ∧ u < v) : (putX row x y).length = k.toNat ∧ ∀ u ∈ putX row x y, 0 ≤ u ∧ u < v := by
  unfold putX
  refine ⟨by simp [List.length_take, List.length_drop]; omega, fun u hu => ?_⟩
  rcases List.mem_append.mp hu with hu | hu
  · rcases List.mem_append.mp hu with hu | hu
    · exact hm u (List.mem_of_mem_take hu)
    · simp at hu; subst hu; exact ⟨y1, y2⟩
  · exact hm u (List.mem_of_mem_drop hu)
theorem put_ev {row : List Int} {x y : Int} (x1 : 0 ≤ x) (x2 : x.toNat < row.length) (hl : row.length ≤ 100) : slD (rowD row) none (some x) = some (rowD (row.take x.toNat)) ∧ slD (rowD row) (some (x + 1)) none = some (rowD (row.drop (x + 1).toNat)) ∧
    binD .Add (rowD (row.take x.toNat)) (.tuple [.int y]) = some (rowD (row.take x.toNat ++ [y])) ∧ binD .Add (rowD (row.take x.toNat ++ [y])) (rowD (row.drop (x + 1).toNat)) = some (rowD (putX row x y)) := by
  have hline := line_val
  refine ⟨cut_row x1 (by omega), cut_rowD (by omega) (by omega), ?_, ?_⟩
  · unfold rowD
    rw [b_addr (by simp; omega), List.map_append]; rfl
  · unfold rowD putX
    rw [b_addr (by simp; omega), ← List.map_append]
def BookOk (v k : Int) (M : Nat) (d1 c1 : Dt) : Prop := ∃ rows, d1 = boardD rows ∧ rows ≠ [] ∧ rows.length ≤ 48 ∧ RowsOk v k.toNat rows ∧ Spr c1 (M + 500)
theorem book_draws {v k : Int} (v1 : 2 ≤ v) (v2 : v ≤ 5) (k1 : 1 ≤ k) (k2 : k ≤ 8) (x4 : Sl) (d : Int) (c : Dt) (M : Nat) (hc : Spr c M) (hM : M ≤ 10000) :
    ∃ d1 c1, evS [f_law_likenesses, f_law_pick, f_law_one_of, f_law_patterns, f_law_sums] ct 100000 (.ret (.bt .tuple (.cons (.comp [("turn", 9)] (.nm 9) (.range (.cons (.bin .Add (.int 1) (.call 1 (.cel 0 (.cons (.int 9) .nil)))) .nil)) .nil (.bt .tuple (.cons (.comp [("i", 10)] (.nm 10) (.range (.cons (.var 2) .nil)) .nil (.call 1 (.cel 0 (.cons (.var 1) .nil)))) .nil))) .nil)))
      [.cell, .sh (.int v), .sh (.int k), .no, x4, .sh (.int d), .no, .no, .no, .no, .no] c = some (.rt d1 c1) ∧ ∃ rows, d1 = boardD rows ∧ rows ≠ [] ∧ rows.length ≤ 48 ∧ RowsOk v k.toNat rows ∧ Spr c1 (M + 200) := by
  obtain ⟨r, c2, e2, r1, r2, w2⟩ := f_law_pick_ok c M hc (by omega) 9 (by decide) (by decide)
  have hline := line_val
  simp only [evF, evSs, evS, evE, evEs, evB, evI, slotS, slotD, slotC_0, slotC_s, putTg, modS, kD, bt_int, bt_abs, bt_lenL, bt_lenT, bt_tupL, Option.map_some, Option.map_none, List.getElem?_cons_zero, List.getElem?_cons_succ, List.length_cons, List.length_nil, List.set_cons_zero, List.set_cons_succ, List.replicate, List.cons_append, List.nil_append, allSh, if_true, wipeS, tgIx, List.map_cons, List.map_nil, Nat.zero_le, line_val, Nat.reduceAdd, Nat.reduceLeDiff, Bool.false_eq_true, if_false, Bool.not_true, Bool.not_false, c_eq, c_ne, c_lt, c_le, c_gt, c_ge, c_eqr0, c_ner0, b_add, b_sub, e2, range1_ok (t := 1 + r) (by omega) (by omega)]
  generalize hg : compGo _ _ _ = o
  obtain ⟨ys, c3, rfl, ly, py, iy⟩ := comp_run (fun i c => Spr c (M + 1 + 8 * i)) (fun y => ∃ l, y = rowD l ∧ (l.length = k.toNat ∧ ∀ x ∈ l, 0 ≤ x ∧ x < v)) hg w2 (by
    intro i d c hi w
    obtain ⟨rfl, hi'⟩ := rng_at hi
    simp only [evF, evSs, evS, evE, evEs, evB, evI, slotS, slotD, slotC_0, slotC_s, putTg, modS, kD, bt_int, bt_abs, bt_lenL, bt_lenT, bt_tupL, Option.map_some, Option.map_none, List.getElem?_cons_zero, List.getElem?_cons_succ, List.length_cons, List.length_nil, List.set_cons_zero, List.set_cons_succ, List.replicate, List.cons_append, List.nil_append, allSh, if_true, wipeS, tgIx, List.map_cons, List.map_nil, Nat.zero_le, line_val, Nat.reduceAdd, Nat.reduceLeDiff, Bool.false_eq_true, if_false, Bool.not_true, Bool.not_false, c_eq, c_ne, c_lt, c_le, c_gt, c_ge, c_eqr0, c_ner0, b_add, b_sub, range1_ok (t := k) (by omega) (by omega)]
    generalize hg2 : compGo _ _ _ = o2
    obtain ⟨zs, c4, rfl, lz, pz, iz⟩ := comp_run (fun j c => Spr c (M + 1 + 8 * i + j)) (fun y => ∃ x, y = .int x ∧ (0 ≤ x ∧ x < v)) hg2 w (by
      intro j d c hj w
      obtain ⟨rfl, hj'⟩ := rng_at hj
      obtain ⟨x, c5, e5, x1, x2, w5⟩ := f_law_pick_ok c (M + 1 + 8 * i + j) w (by omega) v (by omega) (by omega)
      simp only [evF, evSs, evS, evE, evEs, evB, evI, slotS, slotD, slotC_0, slotC_s, putTg, modS, kD, bt_int, bt_abs, bt_lenL, bt_lenT, bt_tupL, Option.map_some, Option.map_none, List.getElem?_cons_zero, List.getElem?_cons_succ, List.length_cons, List.length_nil, List.set_cons_zero, List.set_cons_succ, List.replicate, List.cons_append, List.nil_append, allSh, if_true, wipeS, tgIx, List.map_cons, List.map_nil, Nat.zero_le, line_val, Nat.reduceAdd, Nat.reduceLeDiff, Bool.false_eq_true, if_false, Bool.not_true, Bool.not_false, c_eq, c_ne, c_lt, c_le, c_gt, c_ge, c_eqr0, c_ner0, b_add, b_sub, e5]
      exact ⟨_, _, rfl, ⟨x, rfl, x1, x2⟩, w5⟩)
    obtain ⟨l, rfl, ql⟩ := img_of pz
    rw [rng_len, List.length_map] at lz
    rw [rng_len] at iz
    simp only [evF, evSs, evS, evE, evEs, evB, evI, slotS, slotD, slotC_0, slotC_s, putTg, modS, kD, bt_int, bt_abs, bt_lenL, bt_lenT, bt_tupL, Option.map_some, Option.map_none, List.getElem?_cons_zero, List.getElem?_cons_succ, List.length_cons, List.length_nil, List.set_cons_zero, List.set_cons_succ, List.replicate, List.cons_append, List.nil_append, allSh, if_true, wipeS, tgIx, List.map_cons, List.map_nil, Nat.zero_le, line_val, Nat.reduceAdd, Nat.reduceLeDiff, Bool.false_eq_true, if_false, Bool.not_true, Bool.not_false, c_eq, c_ne, c_lt, c_le, c_gt, c_ge, c_eqr0, c_ner0, b_add, b_sub]
    exact ⟨_, _, rfl, ⟨l, rfl, lz, ql⟩, iz.mono (by omega)⟩)
  obtain ⟨rows, rfl, qr⟩ := img_of py
  rw [rng_len, List.length_map] at ly
  rw [rng_len] at iy
  simp only [evF, evSs, evS, evE, evEs, evB, evI, slotS, slotD, slotC_0, slotC_s, putTg, modS, kD, bt_int, bt_abs, bt_lenL, bt_lenT, bt_tupL, Option.map_some, Option.map_none, List.getElem?_cons_zero, List.getElem?_cons_succ, List.length_cons, List.length_nil, List.set_cons_zero, List.set_cons_succ, List.replicate, List.cons_append, List.nil_append, allSh, if_true, wipeS, tgIx, List.map_cons, List.map_nil, Nat.zero_le, line_val, Nat.reduceAdd, Nat.reduceLeDiff, Bool.false_eq_true, if_false, Bool.not_true, Bool.not_false, c_eq, c_ne, c_lt, c_le, c_gt, c_ge, c_eqr0, c_ner0, b_add, b_sub]
  refine ⟨_, _, rfl, rows, rfl, ?_, by omega, qr, iy.mono (by omega)⟩
  intro z
  rw [z] at ly
  simp at ly
  omega
theorem f_law_book_ok {v k : Int} (v1 : 2 ≤ v) (v2 : v ≤ 5) (k1 : 1 ≤ k) (k2 : k ≤ 8) {c : Dt} {M : Nat} (hc : Spr c M) (hM : M ≤ 5000) :
    ∃ d1 c1, f_law_book [.cell, .sh (.int v), .sh (.int k)] c = some (d1, c1) ∧ BookOk v k M d1 c1 := by
  have hline := line_val
  have hkt : ct.kt = false := rfl
  refine evF_W rfl ?_
  obtain ⟨way, c1, ew, wy0, wy1, w1⟩ := f_law_pick_ok c M hc (by omega) 7 (by decide) (by decide)
  obtain ⟨m, hm, m1, m2, hlim⟩ : ∃ m : Int, ixD ct.kt (.dict [(.int 2, .int 4), (.int 3, .int 3), (.int 4, .int 2), (.int 5, .int 2)]) (.int v) = some (.int m) ∧ 0 < m ∧ m ≤ 4 ∧ ∀ d : Nat, (d : Int) < m → (v ^ (d + 1)).toNat ≤ 27 := by
    have hv : v = 2 ∨ v = 3 ∨ v = 4 ∨ v = 5 := by omega
    rcases hv with rfl | rfl | rfl | rfl
    · exact ⟨4, rfl, by decide, by decide, fun d hd => by
        have : d = 0 ∨ d = 1 ∨ d = 2 ∨ d = 3 := by omega
        rcases this with rfl | rfl | rfl | rfl <;> decide⟩
    · exact ⟨3, rfl, by decide, by decide, fun d hd => by
        have : d = 0 ∨ d = 1 ∨ d = 2 := by omega
        rcases this with rfl | rfl | rfl <;> decide⟩
    · exact ⟨2, rfl, by decide, by decide, fun d hd => by
        have : d = 0 ∨ d = 1 := by omega
        rcases this with rfl | rfl <;> decide⟩
    · exact ⟨2, rfl, by decide, by decide, fun d hd => by
        have : d = 0 ∨ d = 1 := by omega
        rcases this with rfl | rfl <;> decide⟩
  obtain ⟨dz, c2, ed, d0, d1, w2⟩ := f_law_pick_ok c1 (M + 1) w1 (by omega) m (by omega) (by omega)
  obtain ⟨d, rfl⟩ : ∃ d : Nat, dz = (d : Int) := ⟨dz.toNat, by omega⟩
  have hpow := hlim d d1
  refine W_step (ρ1 := [.cell, .sh (.int v), .sh (.int k), .no, .sh (.int way), .sh (.int d), .no, .no, .no, .no, .no]) (c1 := c2) (by
    simp only [evF, evSs, evS, evE, evEs, evB, evI, slotS, slotD, slotC_0, slotC_s, putTg, modS, kD, bt_int, bt_abs, bt_lenL, bt_lenT, bt_tupL, Option.map_some, Option.map_none, List.getElem?_cons_zero, List.getElem?_cons_succ, List.length_cons, List.length_nil, List.set_cons_zero, List.set_cons_succ, List.replicate, List.cons_append, List.nil_append, allSh, if_true, wipeS, tgIx, List.map_cons, List.map_nil, Nat.zero_le, line_val, Nat.reduceAdd, Nat.reduceLeDiff, Bool.false_eq_true, if_false, Bool.not_true, Bool.not_false, c_eq, c_ne, c_lt, c_le, c_gt, c_ge, c_eqr0, c_ner0, b_add, b_sub, ew, List.map_cons, List.map_nil, List.zip_cons_cons, List.zip_nil_left, List.length_cons, List.length_nil, hm, ed, putP, List.all_cons, List.all_nil]
    rfl) ?_
  refine W_ite (bv := decide (way = 0)) (c1 := c2) (by simp only [evF, evSs, evS, evE, evEs, evB, evI, slotS, slotD, slotC_0, slotC_s, putTg, modS, kD, bt_int, bt_abs, bt_lenL, bt_lenT, bt_tupL, Option.map_some, Option.map_none, List.getElem?_cons_zero, List.getElem?_cons_succ, List.length_cons, List.length_nil, List.set_cons_zero, List.set_cons_succ, List.replicate, List.cons_append, List.nil_append, allSh, if_true, wipeS, tgIx, List.map_cons, List.map_nil, Nat.zero_le, line_val, Nat.reduceAdd, Nat.reduceLeDiff, Bool.false_eq_true, if_false, Bool.not_true, Bool.not_false, c_eq, c_ne, c_lt, c_le, c_gt, c_ge, c_eqr0, c_ner0, b_add, b_sub, c_eq]) (fun _ => ?_) (fun _ => W_nil ?_)
  · obtain ⟨dd, c3, e3, rows, rfl, h1, h2, h3, h4⟩ := book_draws v1 v2 k1 k2 (.sh (.int way)) d c2 (M + 1 + 1) w2 (by omega)
    exact W_rt e3 ⟨rows, rfl, h1, h2, h3, h4.mono (by omega)⟩
  obtain ⟨rows, c3, es, rl, ok, w3⟩ := f_law_sums_ok v k d c2 _ w2 (by omega) v1 v2 (by omega) k2 (by omega)
  have hpos : 0 < (v ^ (d + 1)) := Int.pow_pos (by omega)
  have ne : rows ≠ [] := fun z => by rw [z] at rl; simp at rl; omega
  have hp : 0 < rows.length := List.length_pos_iff.mpr ne
  obtain ⟨x, c4, ex, x1, x2, w4⟩ := f_law_pick_ok c3 _ w3 (by omega) k (by omega) (by omega)
  refine W_step (ρ1 := [.cell, .sh (.int v), .sh (.int k), .no, .sh (.int way), .sh (.int d), .own (lotsD rows), .sh (.int x), .no, .no, .no]) (c1 := c4) (by
    simp only [evF, evSs, evS, evE, evEs, evB, evI, slotS, slotD, slotC_0, slotC_s, putTg, modS, kD, bt_int, bt_abs, bt_lenL, bt_lenT, bt_tupL, Option.map_some, Option.map_none, List.getElem?_cons_zero, List.getElem?_cons_succ, List.length_cons, List.length_nil, List.set_cons_zero, List.set_cons_succ, List.replicate, List.cons_append, List.nil_append, allSh, if_true, wipeS, tgIx, List.map_cons, List.map_nil, Nat.zero_le, line_val, Nat.reduceAdd, Nat.reduceLeDiff, Bool.false_eq_true, if_false, Bool.not_true, Bool.not_false, c_eq, c_ne, c_lt, c_le, c_gt, c_ge, c_eqr0, c_ner0, b_add, b_sub, es, ex, putP, List.zip_cons_cons, List.zip_nil_left, List.all_cons, List.all_nil, ownable]
    rfl) ?_
  obtain ⟨at_, c5, ea, a1, a2, w5⟩ := f_law_pick_ok c4 _ w4 (by omega) (rows.length : Nat) (by omega) (by omega)
  have lenL : ∀ L : List (List Int), btD .len [lotsD L] = some (.int ((L.length : Nat) : Int)) := fun L => by
    show some (PyData.int (L.map rowD).length) = _
    rw [List.length_map]
  refine W_step (ρ1 := [.cell, .sh (.int v), .sh (.int k), .sh (.int at_), .sh (.int way), .sh (.int d), .own (lotsD rows), .sh (.int x), .no, .no, .no]) (c1 := c5) (by simp only [evF, evSs, evS, evE, evEs, evB, evI, slotS, slotD, slotC_0, slotC_s, putTg, modS, kD, bt_int, bt_abs, bt_lenL, bt_lenT, bt_tupL, Option.map_some, Option.map_none, List.getElem?_cons_zero, List.getElem?_cons_succ, List.length_cons, List.length_nil, List.set_cons_zero, List.set_cons_succ, List.replicate, List.cons_append, List.nil_append, allSh, if_true, wipeS, tgIx, List.map_cons, List.map_nil, Nat.zero_le, line_val, Nat.reduceAdd, Nat.reduceLeDiff, Bool.false_eq_true, if_false, Bool.not_true, Bool.not_false, c_eq, c_ne, c_lt, c_le, c_gt, c_ge, c_eqr0, c_ner0, b_add, b_sub, lenL, ea]) ?_
  have fin : ∀ (R : List (List Int)) (x8 : Sl) (c' : Dt) {Q : Fl → Prop}, Q (.rt (boardD R) c') →
      W (evSs [f_law_likenesses, f_law_pick, f_law_one_of, f_law_patterns, f_law_sums] ct 100000 (.cons (.ret (.bt .tuple (.cons (.bor 6) .nil))) .nil) [.cell, .sh (.int v), .sh (.int k), .sh (.int at_), .sh (.int way), .sh (.int d), .own (lotsD R), .sh (.int x), x8, .no, .no] c') Q := fun R x8 c' Q h => W_rt (d := boardD R) (c1 := c') (by simp only [evF, evSs, evS, evE, evEs, evB, evI, slotS, slotD, slotC_0, slotC_s, putTg, modS, kD, bt_int, bt_abs, bt_lenL, bt_lenT, bt_tupL, Option.map_some, Option.map_none, List.getElem?_cons_zero, List.getElem?_cons_succ, List.length_cons, List.length_nil, List.set_cons_zero, List.set_cons_succ, List.replicate, List.cons_append, List.nil_append, allSh, if_true, wipeS, tgIx, List.map_cons, List.map_nil, Nat.zero_le, line_val, Nat.reduceAdd, Nat.reduceLeDiff, Bool.false_eq_true, if_false, Bool.not_true, Bool.not_false, c_eq, c_ne, c_lt, c_le, c_gt, c_ge, c_eqr0, c_ner0, b_add, b_sub]; rfl) h
  refine W_ite (bv := decide (way = 1)) (c1 := c5) (by simp only [evF, evSs, evS, evE, evEs, evB, evI, slotS, slotD, slotC_0, slotC_s, putTg, modS, kD, bt_int, bt_abs, bt_lenL, bt_lenT, bt_tupL, Option.map_some, Option.map_none, List.getElem?_cons_zero, List.getElem?_cons_succ, List.length_cons, List.length_nil, List.set_cons_zero, List.set_cons_succ, List.replicate, List.cons_append, List.nil_append, allSh, if_true, wipeS, tgIx, List.map_cons, List.map_nil, Nat.zero_le, line_val, Nat.reduceAdd, Nat.reduceLeDiff, Bool.false_eq_true, if_false, Bool.not_true, Bool.not_false, c_eq, c_ne, c_lt, c_le, c_gt, c_ge, c_eqr0, c_ner0, b_add, b_sub, c_eq]) (fun _ => ?_) (fun _ => ?_)
  · obtain ⟨e, he, hpe, eve⟩ : ∃ e : Nat, e ≤ 1 ∧ (v ^ (e + 1)).toNat ≤ 16 ∧ ((v = 5 ∧ e = 0) ∨ (v ≠ 5 ∧ btD .min [.int (d : Int), .int 1] = some (.int (e : Nat)))) := by
      by_cases h5 : v = 5
      · exact ⟨0, by decide, by subst h5; decide, .inl ⟨h5, rfl⟩⟩
      · have hv : v = 2 ∨ v = 3 ∨ v = 4 := by omega
        have hmin : btD .min [.int (d : Int), .int 1] = some (.int (if (1 : Int) < (d : Int) then 1 else (d : Int))) := rfl
        by_cases hd : (1 : Int) < (d : Int)
        · rw [if_pos hd] at hmin
          exact ⟨1, by decide, by rcases hv with rfl | rfl | rfl <;> decide, .inr ⟨h5, hmin⟩⟩
        · rw [if_neg hd] at hmin
          have : d = 0 ∨ d = 1 := by omega
          refine ⟨d, by omega, ?_, .inr ⟨h5, hmin⟩⟩
          rcases this with rfl | rfl <;> rcases hv with rfl | rfl | rfl <;> decide
    obtain ⟨rows2, c6, es2, rl2, ok2, w6⟩ := f_law_sums_ok v k e c5 _ w5 (by omega) v1 v2 (by omega) k2 (by omega)
    have hadd : binD .Add (lotsD rows) (lotsD rows2) = some (lotsD (rows ++ rows2)) := by
      unfold lotsD
      rw [b_addl (by simp; omega), ← List.map_append]
    refine W_step (ρ1 := [.cell, .sh (.int v), .sh (.int k), .sh (.int at_), .sh (.int way), .sh (.int d), .own (lotsD (rows ++ rows2)), .sh (.int x), .no, .no, .no]) (c1 := c6) (by
      have o : ownable (lotsD (rows ++ rows2)) = true := rfl
      rcases eve with ⟨h5, rfl⟩ | ⟨h5, hmin⟩
      · have es2' : f_law_sums [.cell, .sh (.int v), .sh (.int k), .sh (.int 0)] c5 = some (lotsD rows2, c6) := es2
        simp only [evF, evSs, evS, evE, evEs, evB, evI, slotS, slotD, slotC_0, slotC_s, putTg, modS, kD, bt_int, bt_abs, bt_lenL, bt_lenT, bt_tupL, Option.map_some, Option.map_none, List.getElem?_cons_zero, List.getElem?_cons_succ, List.length_cons, List.length_nil, List.set_cons_zero, List.set_cons_succ, List.replicate, List.cons_append, List.nil_append, allSh, if_true, wipeS, tgIx, List.map_cons, List.map_nil, Nat.zero_le, line_val, Nat.reduceAdd, Nat.reduceLeDiff, Bool.false_eq_true, if_false, Bool.not_true, Bool.not_false, c_eq, c_ne, c_lt, c_le, c_gt, c_ge, c_eqr0, c_ner0, b_add, b_sub, c_eq, decide_eq_true h5, es2', hadd, o]
      · simp only [evF, evSs, evS, evE, evEs, evB, evI, slotS, slotD, slotC_0, slotC_s, putTg, modS, kD, bt_int, bt_abs, bt_lenL, bt_lenT, bt_tupL, Option.map_some, Option.map_none, List.getElem?_cons_zero, List.getElem?_cons_succ, List.length_cons, List.length_nil, List.set_cons_zero, List.set_cons_succ, List.replicate, List.cons_append, List.nil_append, allSh, if_true, wipeS, tgIx, List.map_cons, List.map_nil, Nat.zero_le, line_val, Nat.reduceAdd, Nat.reduceLeDiff, Bool.false_eq_true, if_false, Bool.not_true, Bool.not_false, c_eq, c_ne, c_lt, c_le, c_gt, c_ge, c_eqr0, c_ner0, b_add, b_sub, c_eq, decide_eq_false h5, hmin, es2, hadd, o]) (W_nil (fin (rows ++ rows2) .no c6 ⟨rows ++ rows2, rfl, by simp [ne], by rw [List.length_append]; omega, fun r hr => ?_, w6.mono (by omega)⟩))
    rcases List.mem_append.mp hr with hr | hr
    · exact ok r hr
    · exact ok2 r hr
  refine W_ite (bv := decide (way = 2)) (c1 := c5) (by simp only [evF, evSs, evS, evE, evEs, evB, evI, slotS, slotD, slotC_0, slotC_s, putTg, modS, kD, bt_int, bt_abs, bt_lenL, bt_lenT, bt_tupL, Option.map_some, Option.map_none, List.getElem?_cons_zero, List.getElem?_cons_succ, List.length_cons, List.length_nil, List.set_cons_zero, List.set_cons_succ, List.replicate, List.cons_append, List.nil_append, allSh, if_true, wipeS, tgIx, List.map_cons, List.map_nil, Nat.zero_le, line_val, Nat.reduceAdd, Nat.reduceLeDiff, Bool.false_eq_true, if_false, Bool.not_true, Bool.not_false, c_eq, c_ne, c_lt, c_le, c_gt, c_ge, c_eqr0, c_ner0, b_add, b_sub, c_eq]) (fun _ => ?_) (fun _ => ?_)
  · obtain ⟨row, er, hr⟩ := lots_ix (kt := ct.kt) (rows := rows) a1 (by omega)
    obtain ⟨rlen, rm⟩ := ok row (List.mem_of_getElem? hr)
    refine W_step (ρ1 := [.cell, .sh (.int v), .sh (.int k), .sh (.int at_), .sh (.int way), .sh (.int d), .own (lotsD rows), .sh (.int x), .sh (rowD row), .no, .no]) (c1 := c5) (by simp only [evF, evSs, evS, evE, evEs, evB, evI, slotS, slotD, slotC_0, slotC_s, putTg, modS, kD, bt_int, bt_abs, bt_lenL, bt_lenT, bt_tupL, Option.map_some, Option.map_none, List.getElem?_cons_zero, List.getElem?_cons_succ, List.length_cons, List.length_nil, List.set_cons_zero, List.set_cons_succ, List.replicate, List.cons_append, List.nil_append, allSh, if_true, wipeS, tgIx, List.map_cons, List.map_nil, Nat.zero_le, line_val, Nat.reduceAdd, Nat.reduceLeDiff, Bool.false_eq_true, if_false, Bool.not_true, Bool.not_false, c_eq, c_ne, c_lt, c_le, c_gt, c_ge, c_eqr0, c_ner0, b_add, b_sub, er]) ?_
    have hx : ixD ct.kt (rowD row) (.int x) = some (.int (row.getD x.toNat 0)) := row_at x1 (by omega)
    obtain ⟨y, hy⟩ : ∃ y : Int, y = (row.getD x.toNat 0 + 1) % v := ⟨_, rfl⟩
    have y0 : 0 ≤ y ∧ y < v := by rw [hy]; exact ⟨Int.emod_nonneg _ (by omega), Int.emod_lt_of_pos _ (by omega)⟩
    obtain ⟨s1, s2, s3, s4⟩ := put_ev (row := row) (x := x) (y := y) x1 (by omega) (by omega)
    have st : storeD ct.kt (lotsD rows) (.int at_) (rowD (putX row x y)) = some (lotsD (rows.set at_.toNat (putX row x y))) := by
      show (ixN _ _).map _ = _
      have : ixN (rows.map rowD).length at_ = some at_.toNat := by
        unfold ixN
        rw [if_pos a1, if_pos (by rw [List.length_map]; exact a2)]
      rw [this]
      show some (PyData.list _) = _
      unfold lotsD
      rw [List.map_set]
    refine W_step (ρ1 := [.cell, .sh (.int v), .sh (.int k), .sh (.int at_), .sh (.int way), .sh (.int d), .own (lotsD (rows.set at_.toNat (putX row x y))), .sh (.int x), .sh (rowD row), .no, .no]) (c1 := c5) (by
      simp only [evF, evSs, evS, evE, evEs, evB, evI, slotS, slotD, slotC_0, slotC_s, putTg, modS, kD, bt_int, bt_abs, bt_lenL, bt_lenT, bt_tupL, Option.map_some, Option.map_none, List.getElem?_cons_zero, List.getElem?_cons_succ, List.length_cons, List.length_nil, List.set_cons_zero, List.set_cons_succ, List.replicate, List.cons_append, List.nil_append, allSh, if_true, wipeS, tgIx, List.map_cons, List.map_nil, Nat.zero_le, line_val, Nat.reduceAdd, Nat.reduceLeDiff, Bool.false_eq_true, if_false, Bool.not_true, Bool.not_false, c_eq, c_ne, c_lt, c_le, c_gt, c_ge, c_eqr0, c_ner0, b_add, b_sub, hx, oneInt, s1, s2, b_mod (show 0 < v by omega), ← hy, s3, s4, st]) (W_nil (W_nil (fin (rows.set at_.toNat (putX row x y)) (.sh (rowD row)) c5 ⟨rows.set at_.toNat (putX row x y), rfl, ?_, by rw [List.length_set]; omega, fun r hr' => ?_, w5.mono (by omega)⟩)))
    · intro z
      have := congrArg List.length z
      rw [List.length_set, List.length_nil] at this
      omega
    · rcases List.mem_or_eq_of_mem_set hr' with hr' | rfl
      · exact ok r hr'
      · exact put_ok x1 x2 y0.1 y0.2 rlen rm
  refine W_ite (bv := decide (way = 3) && decide (((rows.length : Nat) : Int) < 10)) (c1 := c5) ?_ (fun ht => ?_) (fun _ => ?_)
  · by_cases e : way = 3
    · simp only [evF, evSs, evS, evE, evEs, evB, evI, slotS, slotD, slotC_0, slotC_s, putTg, modS, kD, bt_int, bt_abs, bt_lenL, bt_lenT, bt_tupL, Option.map_some, Option.map_none, List.getElem?_cons_zero, List.getElem?_cons_succ, List.length_cons, List.length_nil, List.set_cons_zero, List.set_cons_succ, List.replicate, List.cons_append, List.nil_append, allSh, if_true, wipeS, tgIx, List.map_cons, List.map_nil, Nat.zero_le, line_val, Nat.reduceAdd, Nat.reduceLeDiff, Bool.false_eq_true, if_false, Bool.not_true, Bool.not_false, c_eq, c_ne, c_lt, c_le, c_gt, c_ge, c_eqr0, c_ner0, b_add, b_sub, lenL, c_eq ct.kt way 3, decide_eq_true e, Bool.true_and]
      cases decide (((rows.length : Nat) : Int) < 10) <;> rfl
    · simp only [evF, evSs, evS, evE, evEs, evB, evI, slotS, slotD, slotC_0, slotC_s, putTg, modS, kD, bt_int, bt_abs, bt_lenL, bt_lenT, bt_tupL, Option.map_some, Option.map_none, List.getElem?_cons_zero, List.getElem?_cons_succ, List.length_cons, List.length_nil, List.set_cons_zero, List.set_cons_succ, List.replicate, List.cons_append, List.nil_append, allSh, if_true, wipeS, tgIx, List.map_cons, List.map_nil, Nat.zero_le, line_val, Nat.reduceAdd, Nat.reduceLeDiff, Bool.false_eq_true, if_false, Bool.not_true, Bool.not_false, c_eq, c_ne, c_lt, c_le, c_gt, c_ge, c_eqr0, c_ner0, b_add, b_sub, c_eq ct.kt way 3, decide_eq_false e, Bool.false_and]
  · have h1 : rows.length < 10 := by
      simp only [Bool.and_eq_true, decide_eq_true_eq] at ht
      omega
    have hadd : binD .Add (lotsD rows) (lotsD rows) = some (lotsD (rows ++ rows)) := by
      unfold lotsD
      rw [b_addl (by simp; omega), ← List.map_append]
    have o : ownable (lotsD (rows ++ rows)) = true := rfl
    refine W_step (ρ1 := [.cell, .sh (.int v), .sh (.int k), .sh (.int at_), .sh (.int way), .sh (.int d), .own (lotsD (rows ++ rows)), .sh (.int x), .no, .no, .no]) (c1 := c5) (by simp only [evF, evSs, evS, evE, evEs, evB, evI, slotS, slotD, slotC_0, slotC_s, putTg, modS, kD, bt_int, bt_abs, bt_lenL, bt_lenT, bt_tupL, Option.map_some, Option.map_none, List.getElem?_cons_zero, List.getElem?_cons_succ, List.length_cons, List.length_nil, List.set_cons_zero, List.set_cons_succ, List.replicate, List.cons_append, List.nil_append, allSh, if_true, wipeS, tgIx, List.map_cons, List.map_nil, Nat.zero_le, line_val, Nat.reduceAdd, Nat.reduceLeDiff, Bool.false_eq_true, if_false, Bool.not_true, Bool.not_false, c_eq, c_ne, c_lt, c_le, c_gt, c_ge, c_eqr0, c_ner0, b_add, b_sub, hadd, o]) (W_nil (W_nil (W_nil (fin (rows ++ rows) .no c5 ⟨rows ++ rows, rfl, by simp [ne], by rw [List.length_append]; omega, fun r hr => ?_, w5.mono (by omega)⟩))))
    rcases List.mem_append.mp hr with hr | hr
    · exact ok r hr
    · exact ok r hr
  refine W_ite (bv := decide (way = 4)) (c1 := c5) (by simp only [evF, evSs, evS, evE, evEs, evB, evI, slotS, slotD, slotC_0, slotC_s, putTg, modS, kD, bt_int, bt_abs, bt_lenL, bt_lenT, bt_tupL, Option.map_some, Option.map_none, List.getElem?_cons_zero, List.getElem?_cons_succ, List.length_cons, List.length_nil, List.set_cons_zero, List.set_cons_succ, List.replicate, List.cons_append, List.nil_append, allSh, if_true, wipeS, tgIx, List.map_cons, List.map_nil, Nat.zero_le, line_val, Nat.reduceAdd, Nat.reduceLeDiff, Bool.false_eq_true, if_false, Bool.not_true, Bool.not_false, c_eq, c_ne, c_lt, c_le, c_gt, c_ge, c_eqr0, c_ner0, b_add, b_sub, c_eq]) (fun _ => ?_) (fun _ => W_nil (W_nil (W_nil (W_nil (fin rows .no c5 ⟨rows, rfl, ne, by omega, ok, w5.mono (by omega)⟩)))))
  obtain ⟨g, hg⟩ : ∃ g : List Int → List Int, g = fun row => putX row x (if row.getD x.toNat 0 < 2 then (v + 1 - row.getD x.toNat 0) % v else row.getD x.toNat 0) := ⟨_, rfl⟩
  refine W_step (ρ1 := [.cell, .sh (.int v), .sh (.int k), .sh (.int at_), .sh (.int way), .sh (.int d), .sh (lotsD rows), .sh (.int x), .no, .no, .no]) (c1 := c5) (by simp only [evF, evSs, evS, evE, evEs, evB, evI, slotS, slotD, slotC_0, slotC_s, putTg, modS, kD, bt_int, bt_abs, bt_lenL, bt_lenT, bt_tupL, Option.map_some, Option.map_none, List.getElem?_cons_zero, List.getElem?_cons_succ, List.length_cons, List.length_nil, List.set_cons_zero, List.set_cons_succ, List.replicate, List.cons_append, List.nil_append, allSh, if_true, wipeS, tgIx, List.map_cons, List.map_nil, Nat.zero_le, line_val, Nat.reduceAdd, Nat.reduceLeDiff, Bool.false_eq_true, if_false, Bool.not_true, Bool.not_false, c_eq, c_ne, c_lt, c_le, c_gt, c_ge, c_eqr0, c_ner0, b_add, b_sub] <;> rfl) ?_
  refine W_step (ρ1 := [.cell, .sh (.int v), .sh (.int k), .sh (.int at_), .sh (.int way), .sh (.int d), .own (lotsD (rows.map g)), .sh (.int x), .no, .no, .no]) (c1 := c5) ?_ (W_nil (W_nil (W_nil (W_nil (fin (rows.map g) .no c5 ⟨rows.map g, rfl, by simp [ne], by rw [List.length_map]; omega, fun r hr => ?_, w5.mono (by omega)⟩)))))
  · have hI : itemsD (lotsD rows) = some (rows.map rowD) := rfl
    simp only [evF, evSs, evS, evE, evEs, evB, evI, slotS, slotD, slotC_0, slotC_s, putTg, modS, kD, bt_int, bt_abs, bt_lenL, bt_lenT, bt_tupL, Option.map_some, Option.map_none, List.getElem?_cons_zero, List.getElem?_cons_succ, List.length_cons, List.length_nil, List.set_cons_zero, List.set_cons_succ, List.replicate, List.cons_append, List.nil_append, allSh, if_true, wipeS, tgIx, List.map_cons, List.map_nil, Nat.zero_le, line_val, Nat.reduceAdd, Nat.reduceLeDiff, Bool.false_eq_true, if_false, Bool.not_true, Bool.not_false, c_eq, c_ne, c_lt, c_le, c_gt, c_ge, c_eqr0, c_ner0, b_add, b_sub, hI]
    rw [img_map (h := fun row => rowD (g row))]
    · have e : rows.map (fun row => rowD (g row)) = (rows.map g).map rowD := by rw [List.map_map]; rfl
      have hl : ((rows.map g).map rowD).length ≤ line := by rw [List.length_map, List.length_map]; omega
      rw [e]
      simp only [evF, evSs, evS, evE, evEs, evB, evI, slotS, slotD, slotC_0, slotC_s, putTg, modS, kD, bt_int, bt_abs, bt_lenL, bt_lenT, bt_tupL, Option.map_some, Option.map_none, List.getElem?_cons_zero, List.getElem?_cons_succ, List.length_cons, List.length_nil, List.set_cons_zero, List.set_cons_succ, List.replicate, List.cons_append, List.nil_append, allSh, if_true, wipeS, tgIx, List.map_cons, List.map_nil, Nat.zero_le, line_val, Nat.reduceAdd, Nat.reduceLeDiff, Bool.false_eq_true, if_false, Bool.not_true, Bool.not_false, c_eq, c_ne, c_lt, c_le, c_gt, c_ge, c_eqr0, c_ner0, b_add, b_sub, hl, ownable]
      rfl
    · intro row hr
      obtain ⟨rlen, rm⟩ := ok row hr
      have hx : ixD ct.kt (rowD row) (.int x) = some (.int (row.getD x.toNat 0)) := row_at x1 (by omega)
      obtain ⟨y, hy⟩ : ∃ y : Int, y = (if row.getD x.toNat 0 < 2 then (v + 1 - row.getD x.toNat 0) % v else row.getD x.toNat 0) := ⟨_, rfl⟩
      obtain ⟨s1, s2, s3, s4⟩ := put_ev (row := row) (x := x) (y := y) x1 (by omega) (by omega)
      have hgr : g row = putX row x y := by rw [hg, hy]
      rw [hgr]
      by_cases h2 : row.getD x.toNat 0 < 2
      · rw [if_pos h2] at hy
        simp only [evF, evSs, evS, evE, evEs, evB, evI, slotS, slotD, slotC_0, slotC_s, putTg, modS, kD, bt_int, bt_abs, bt_lenL, bt_lenT, bt_tupL, Option.map_some, Option.map_none, List.getElem?_cons_zero, List.getElem?_cons_succ, List.length_cons, List.length_nil, List.set_cons_zero, List.set_cons_succ, List.replicate, List.cons_append, List.nil_append, allSh, if_true, wipeS, tgIx, List.map_cons, List.map_nil, Nat.zero_le, line_val, Nat.reduceAdd, Nat.reduceLeDiff, Bool.false_eq_true, if_false, Bool.not_true, Bool.not_false, c_eq, c_ne, c_lt, c_le, c_gt, c_ge, c_eqr0, c_ner0, b_add, b_sub, hx, oneInt, s1, s2, decide_eq_true h2, b_mod (show 0 < v by omega), ← hy, s3, s4]
      · rw [if_neg h2] at hy
        subst hy
        simp only [evF, evSs, evS, evE, evEs, evB, evI, slotS, slotD, slotC_0, slotC_s, putTg, modS, kD, bt_int, bt_abs, bt_lenL, bt_lenT, bt_tupL, Option.map_some, Option.map_none, List.getElem?_cons_zero, List.getElem?_cons_succ, List.length_cons, List.length_nil, List.set_cons_zero, List.set_cons_succ, List.replicate, List.cons_append, List.nil_append, allSh, if_true, wipeS, tgIx, List.map_cons, List.map_nil, Nat.zero_le, line_val, Nat.reduceAdd, Nat.reduceLeDiff, Bool.false_eq_true, if_false, Bool.not_true, Bool.not_false, c_eq, c_ne, c_lt, c_le, c_gt, c_ge, c_eqr0, c_ner0, b_add, b_sub, hx, oneInt, s1, s2, decide_eq_false h2, s3, s4]
  · obtain ⟨row, hrm, rfl⟩ := List.mem_map.mp hr
    obtain ⟨rlen, rm⟩ := ok row hrm
    rw [hg]
    have hin : 0 ≤ row.getD x.toNat 0 ∧ row.getD x.toNat 0 < v := by
      refine rm _ ?_
      rw [List.getD_eq_getElem?_getD, List.getElem?_eq_getElem (show x.toNat < row.length by omega)]
      exact List.getElem_mem _
    refine put_ok x1 x2 ?_ ?_ rlen rm
    · split
      · exact Int.emod_nonneg _ (by omega)
      · exact hin.1
    · split
      · exact Int.emod_lt_of_pos _ (by omega)
      · exact hin.2
end Lw
end
section
open PySem Pv L2
namespace Lw
theorem f_is_whole_ok (i : Int) (c : Dt) : f_is_whole [.sh (.int i)] c = some (.bool true, c) := by
  refine evF_eq rfl (W_rt (d := .bool true) (c1 := c) ?_ ⟨rfl, rfl⟩)
  simp only [evF, evSs, evS, evE, evEs, evB, evI, slotS, slotD, slotC_0, slotC_s, putTg, modS, kD, bt_int, bt_abs, bt_lenL, bt_lenT, bt_tupL, Option.map_some, Option.map_none, List.getElem?_cons_zero, List.getElem?_cons_succ, List.length_cons, List.length_nil, List.set_cons_zero, List.set_cons_succ, List.replicate, List.cons_append, List.nil_append, allSh, if_true, wipeS, tgIx, List.map_cons, List.map_nil, Nat.zero_le, line_val, Nat.reduceAdd, Nat.reduceLeDiff, Bool.false_eq_true, if_false, Bool.not_true, Bool.not_false, c_eq, c_ne, c_lt, c_le, c_gt, c_ge, c_eqr0, c_ner0, b_add, b_sub, isD]
theorem f_is_between_ok (i a b : Int) (c : Dt) (h1 : a ≤ i) (h2 : i ≤ b) : f_is_between [.sh (.int i), .sh (.int a), .sh (.int b)] c = some (.bool true, c) := by
  refine evF_eq rfl (W_rt (d := .bool true) (c1 := c) ?_ ⟨rfl, rfl⟩)
  simp only [evF, evSs, evS, evE, evEs, evB, evI, slotS, slotD, slotC_0, slotC_s, putTg, modS, kD, bt_int, bt_abs, bt_lenL, bt_lenT, bt_tupL, Option.map_some, Option.map_none, List.getElem?_cons_zero, List.getElem?_cons_succ, List.length_cons, List.length_nil, List.set_cons_zero, List.set_cons_succ, List.replicate, List.cons_append, List.nil_append, allSh, if_true, wipeS, tgIx, List.map_cons, List.map_nil, Nat.zero_le, line_val, Nat.reduceAdd, Nat.reduceLeDiff, Bool.false_eq_true, if_false, Bool.not_true, Bool.not_false, c_eq, c_ne, c_lt, c_le, c_gt, c_ge, c_eqr0, c_ner0, b_add, b_sub, f_is_whole_ok, decide_eq_true h1, decide_eq_true h2]
theorem f_check_marks_ok (v : Int) (c : Dt) (h1 : 2 ≤ v) (h2 : v ≤ 5) : f_check_marks [.sh (.int v)] c = some (.none, c) := by
  refine evF_eq rfl (W_step (ρ1 := [.sh (.int v)]) (c1 := c) ?_ (W_nil ⟨rfl, rfl⟩))
  simp only [evF, evSs, evS, evE, evEs, evB, evI, slotS, slotD, slotC_0, slotC_s, putTg, modS, kD, bt_int, bt_abs, bt_lenL, bt_lenT, bt_tupL, Option.map_some, Option.map_none, List.getElem?_cons_zero, List.getElem?_cons_succ, List.length_cons, List.length_nil, List.set_cons_zero, List.set_cons_succ, List.replicate, List.cons_append, List.nil_append, allSh, if_true, wipeS, tgIx, List.map_cons, List.map_nil, Nat.zero_le, line_val, Nat.reduceAdd, Nat.reduceLeDiff, Bool.false_eq_true, if_false, Bool.not_true, Bool.not_false, c_eq, c_ne, c_lt, c_le, c_gt, c_ge, c_eqr0, c_ner0, b_add, b_sub, ct_LEAST_MARKS, ct_MOST_MARKS, f_is_between_ok v 2 5 c h1 h2]
  rfl
theorem f_is_row_ok {v k : Int} (row : List Int) (c : Dt) (hl : ((row.length : Nat) : Int) = k) (hm : ∀ x ∈ row, 0 ≤ x ∧ x < v) : f_is_row [.sh (rowD row), .sh (.int v), .sh (.int k)] c = some (.bool true, c) := by
  refine evF_eq rfl (W_rt (d := .bool true) (c1 := c) ?_ ⟨rfl, rfl⟩)
  have hI : itemsD (rowD row) = some (row.map .int) := rfl
  have hT : isD .tuple (rowD row) = true := rfl
  simp only [evF, evSs, evS, evE, evEs, evB, evI, slotS, slotD, slotC_0, slotC_s, putTg, modS, kD, bt_int, bt_abs, bt_lenL, bt_lenT, bt_tupL, Option.map_some, Option.map_none, List.getElem?_cons_zero, List.getElem?_cons_succ, List.length_cons, List.length_nil, List.set_cons_zero, List.set_cons_succ, List.replicate, List.cons_append, List.nil_append, allSh, if_true, wipeS, tgIx, List.map_cons, List.map_nil, Nat.zero_le, line_val, Nat.reduceAdd, Nat.reduceLeDiff, Bool.false_eq_true, if_false, Bool.not_true, Bool.not_false, c_eq, c_ne, c_lt, c_le, c_gt, c_ge, c_eqr0, c_ner0, b_add, b_sub, hI, hT, bt_lenR, hl, decide_true]
  rw [img_map (h := fun _ => .bool true)]
  · have e1 : row.map (fun _ => PyData.bool true) = (row.map fun _ => true).map .bool := by rw [List.map_map]; rfl
    simp only [evF, evSs, evS, evE, evEs, evB, evI, slotS, slotD, slotC_0, slotC_s, putTg, modS, kD, bt_int, bt_abs, bt_lenL, bt_lenT, bt_tupL, Option.map_some, Option.map_none, List.getElem?_cons_zero, List.getElem?_cons_succ, List.length_cons, List.length_nil, List.set_cons_zero, List.set_cons_succ, List.replicate, List.cons_append, List.nil_append, allSh, if_true, wipeS, tgIx, List.map_cons, List.map_nil, Nat.zero_le, line_val, Nat.reduceAdd, Nat.reduceLeDiff, Bool.false_eq_true, if_false, Bool.not_true, Bool.not_false, c_eq, c_ne, c_lt, c_le, c_gt, c_ge, c_eqr0, c_ner0, b_add, b_sub, e1, bt_all]
    have : (row.map fun _ => true).all id = true := by simp
    rw [this]
    rfl
  · intro x hx
    have := hm x hx
    simp only [evF, evSs, evS, evE, evEs, evB, evI, slotS, slotD, slotC_0, slotC_s, putTg, modS, kD, bt_int, bt_abs, bt_lenL, bt_lenT, bt_tupL, Option.map_some, Option.map_none, List.getElem?_cons_zero, List.getElem?_cons_succ, List.length_cons, List.length_nil, List.set_cons_zero, List.set_cons_succ, List.replicate, List.cons_append, List.nil_append, allSh, if_true, wipeS, tgIx, List.map_cons, List.map_nil, Nat.zero_le, line_val, Nat.reduceAdd, Nat.reduceLeDiff, Bool.false_eq_true, if_false, Bool.not_true, Bool.not_false, c_eq, c_ne, c_lt, c_le, c_gt, c_ge, c_eqr0, c_ner0, b_add, b_sub, f_is_between_ok x 0 (v - 1) c this.1 (by omega)]
theorem f_wrong_in_table_ok {v k : Int} {rows : List (List Int)} (B : Board v k rows) (c : Dt) (h1 : 1 ≤ k) (h2 : k ≤ 8) : f_wrong_in_table [.sh (.int v), .sh (boardD rows)] c = some (.list [], c) := by
  obtain ⟨r0, e0, m0, l0⟩ := board_0 (kt := ct.kt) B (by omega)
  have l0' : ((r0.length : Nat) : Int) = k := by rw [← l0, List.length_map]
  have hT : isD .tuple (boardD rows) = true := rfl
  have hT0 : isD .tuple (rowD r0) = true := rfl
  refine evF_eq rfl ?_
  refine W_step (ρ1 := [.sh (.int v), .sh (boardD rows), .no, .no]) (c1 := c) ?_ ?_
  · simp only [evF, evSs, evS, evE, evEs, evB, evI, slotS, slotD, slotC_0, slotC_s, putTg, modS, kD, bt_int, bt_abs, bt_lenL, bt_lenT, bt_tupL, Option.map_some, Option.map_none, List.getElem?_cons_zero, List.getElem?_cons_succ, List.length_cons, List.length_nil, List.set_cons_zero, List.set_cons_succ, List.replicate, List.cons_append, List.nil_append, allSh, if_true, wipeS, tgIx, List.map_cons, List.map_nil, Nat.zero_le, line_val, Nat.reduceAdd, Nat.reduceLeDiff, Bool.false_eq_true, if_false, Bool.not_true, Bool.not_false, c_eq, c_ne, c_lt, c_le, c_gt, c_ge, c_eqr0, c_ner0, b_add, b_sub, hT, board_ne B.ne]
  · refine W_step (ρ1 := [.sh (.int v), .sh (boardD rows), .no, .no]) (c1 := c) ?_ ?_
    · have h8 : k ≤ 8 := by omega
      simp only [evF, evSs, evS, evE, evEs, evB, evI, slotS, slotD, slotC_0, slotC_s, putTg, modS, kD, bt_int, bt_abs, bt_lenL, bt_lenT, bt_tupL, Option.map_some, Option.map_none, List.getElem?_cons_zero, List.getElem?_cons_succ, List.length_cons, List.length_nil, List.set_cons_zero, List.set_cons_succ, List.replicate, List.cons_append, List.nil_append, allSh, if_true, wipeS, tgIx, List.map_cons, List.map_nil, Nat.zero_le, line_val, Nat.reduceAdd, Nat.reduceLeDiff, Bool.false_eq_true, if_false, Bool.not_true, Bool.not_false, c_eq, c_ne, c_lt, c_le, c_gt, c_ge, c_eqr0, c_ner0, b_add, b_sub, e0, hT0, bt_lenR, l0', decide_eq_true h1, decide_eq_true h8, ct_MOST_KEYS]
    · refine W_for (xs := enumD 0 (rows.map rowD)) (c1 := c) (fun i ρ c' => c' = c ∧ ∃ x y, ρ = [.sh (.int v), .sh (boardD rows), x, y]) (by
        have hS : seqD (boardD rows) = some (rows.map rowD) := rfl
        simp only [evF, evSs, evS, evE, evEs, evB, evI, slotS, slotD, slotC_0, slotC_s, putTg, modS, kD, bt_int, bt_abs, bt_lenL, bt_lenT, bt_tupL, Option.map_some, Option.map_none, List.getElem?_cons_zero, List.getElem?_cons_succ, List.length_cons, List.length_nil, List.set_cons_zero, List.set_cons_succ, List.replicate, List.cons_append, List.nil_append, allSh, if_true, wipeS, tgIx, List.map_cons, List.map_nil, Nat.zero_le, line_val, Nat.reduceAdd, Nat.reduceLeDiff, Bool.false_eq_true, if_false, Bool.not_true, Bool.not_false, c_eq, c_ne, c_lt, c_le, c_gt, c_ge, c_eqr0, c_ner0, b_add, b_sub, hS]) ⟨rfl, _, _, rfl⟩ ?_ ?_
      · rintro i d ρ c' hd ⟨rfl, x, y, rfl⟩
        obtain ⟨e, he, rfl⟩ := enum_at hd
        obtain ⟨r, hr, rfl⟩ := lots_at he
        have hm := List.mem_of_getElem? hr
        have hi := (List.getElem?_eq_some_iff.mp hr).1
        refine ⟨_, rfl, ?_⟩
        have h128 : ¬ (((0 + i : Nat) : Int) = 128) := by have := B.few; omega
        have hrl : ((r.length : Nat) : Int) = k := by rw [B.len r hm]; omega
        refine W_step (ρ1 := [.sh (.int v), .sh (boardD rows), .sh (.int ((0 + i : Nat) : Int)), .sh (rowD r)]) (c1 := c') ?_ (W_nil ⟨rfl, _, _, rfl⟩)
        have e1 : [PyData.int ((0 + i : Nat) : Int), rowD r].length = [2, 3].length := rfl
        simp only [evF, evSs, evS, evE, evEs, evB, evI, slotS, slotD, slotC_0, slotC_s, putTg, modS, kD, bt_int, bt_abs, bt_lenL, bt_lenT, bt_tupL, Option.map_some, Option.map_none, List.getElem?_cons_zero, List.getElem?_cons_succ, List.length_cons, List.length_nil, List.set_cons_zero, List.set_cons_succ, List.replicate, List.cons_append, List.nil_append, allSh, if_true, wipeS, tgIx, List.map_cons, List.map_nil, Nat.zero_le, line_val, Nat.reduceAdd, Nat.reduceLeDiff, Bool.false_eq_true, if_false, Bool.not_true, Bool.not_false, c_eq, c_ne, c_lt, c_le, c_gt, c_ge, c_eqr0, c_ner0, b_add, b_sub, ct_MOST_ROWS, decide_eq_false h128, e0, bt_lenR, l0', f_is_row_ok r c' hrl (B.mks r hm), List.zip_cons_cons, List.foldl_cons, List.zip_nil_left, List.foldl_nil]
      · rintro ρ c' ⟨rfl, x, y, rfl⟩
        exact W_rt (d := .list []) (c1 := c') (by simp only [evF, evSs, evS, evE, evEs, evB, evI, slotS, slotD, slotC_0, slotC_s, putTg, modS, kD, bt_int, bt_abs, bt_lenL, bt_lenT, bt_tupL, Option.map_some, Option.map_none, List.getElem?_cons_zero, List.getElem?_cons_succ, List.length_cons, List.length_nil, List.set_cons_zero, List.set_cons_succ, List.replicate, List.cons_append, List.nil_append, allSh, if_true, wipeS, tgIx, List.map_cons, List.map_nil, Nat.zero_le, line_val, Nat.reduceAdd, Nat.reduceLeDiff, Bool.false_eq_true, if_false, Bool.not_true, Bool.not_false, c_eq, c_ne, c_lt, c_le, c_gt, c_ge, c_eqr0, c_ner0, b_add, b_sub, ownable]) ⟨rfl, rfl⟩
theorem f_check_rows_ok {v k : Int} {rows : List (List Int)} (B : Board v k rows) (c : Dt) (h1 : 1 ≤ k) (h2 : k ≤ 8) : f_check_rows [.sh (.int v), .sh (boardD rows)] c = some (.none, c) := by
  refine evF_eq rfl (W_step (ρ1 := [.sh (.int v), .sh (boardD rows), .sh (.list [])]) (c1 := c) ?_ (W_step (ρ1 := [.sh (.int v), .sh (boardD rows), .sh (.list [])]) (c1 := c) ?_ (W_nil ⟨rfl, rfl⟩)))
  · simp only [evF, evSs, evS, evE, evEs, evB, evI, slotS, slotD, slotC_0, slotC_s, putTg, modS, kD, bt_int, bt_abs, bt_lenL, bt_lenT, bt_tupL, Option.map_some, Option.map_none, List.getElem?_cons_zero, List.getElem?_cons_succ, List.length_cons, List.length_nil, List.set_cons_zero, List.set_cons_succ, List.replicate, List.cons_append, List.nil_append, allSh, if_true, wipeS, tgIx, List.map_cons, List.map_nil, Nat.zero_le, line_val, Nat.reduceAdd, Nat.reduceLeDiff, Bool.false_eq_true, if_false, Bool.not_true, Bool.not_false, c_eq, c_ne, c_lt, c_le, c_gt, c_ge, c_eqr0, c_ner0, b_add, b_sub, f_wrong_in_table_ok B c h1 h2]
    try rfl
  · have : cmpD ct.kt .NotEq (.list []) (.list []) = some false := c_nel ct.kt [] []
    simp only [evF, evSs, evS, evE, evEs, evB, evI, slotS, slotD, slotC_0, slotC_s, putTg, modS, kD, bt_int, bt_abs, bt_lenL, bt_lenT, bt_tupL, Option.map_some, Option.map_none, List.getElem?_cons_zero, List.getElem?_cons_succ, List.length_cons, List.length_nil, List.set_cons_zero, List.set_cons_succ, List.replicate, List.cons_append, List.nil_append, allSh, if_true, wipeS, tgIx, List.map_cons, List.map_nil, Nat.zero_le, line_val, Nat.reduceAdd, Nat.reduceLeDiff, Bool.false_eq_true, if_false, Bool.not_true, Bool.not_false, c_eq, c_ne, c_lt, c_le, c_gt, c_ge, c_eqr0, c_ner0, b_add, b_sub, this]
theorem f_check_table_ok {v k : Int} {rows : List (List Int)} (B : Board v k rows) (c : Dt) (h1 : 1 ≤ k) (h2 : k ≤ 8) (v1 : 2 ≤ v) (v2 : v ≤ 5) : f_check_table [.sh (.int v), .sh (boardD rows)] c = some (.none, c) := by
  refine evF_eq rfl (W_step (ρ1 := [.sh (.int v), .sh (boardD rows)]) (c1 := c) ?_ (W_step (ρ1 := [.sh (.int v), .sh (boardD rows)]) (c1 := c) ?_ (W_nil ⟨rfl, rfl⟩)))
  · simp only [evF, evSs, evS, evE, evEs, evB, evI, slotS, slotD, slotC_0, slotC_s, putTg, modS, kD, bt_int, bt_abs, bt_lenL, bt_lenT, bt_tupL, Option.map_some, Option.map_none, List.getElem?_cons_zero, List.getElem?_cons_succ, List.length_cons, List.length_nil, List.set_cons_zero, List.set_cons_succ, List.replicate, List.cons_append, List.nil_append, allSh, if_true, wipeS, tgIx, List.map_cons, List.map_nil, Nat.zero_le, line_val, Nat.reduceAdd, Nat.reduceLeDiff, Bool.false_eq_true, if_false, Bool.not_true, Bool.not_false, c_eq, c_ne, c_lt, c_le, c_gt, c_ge, c_eqr0, c_ner0, b_add, b_sub, f_check_marks_ok v c v1 v2]
    try rfl
  · simp only [evF, evSs, evS, evE, evEs, evB, evI, slotS, slotD, slotC_0, slotC_s, putTg, modS, kD, bt_int, bt_abs, bt_lenL, bt_lenT, bt_tupL, Option.map_some, Option.map_none, List.getElem?_cons_zero, List.getElem?_cons_succ, List.length_cons, List.length_nil, List.set_cons_zero, List.set_cons_succ, List.replicate, List.cons_append, List.nil_append, allSh, if_true, wipeS, tgIx, List.map_cons, List.map_nil, Nat.zero_le, line_val, Nat.reduceAdd, Nat.reduceLeDiff, Bool.false_eq_true, if_false, Bool.not_true, Bool.not_false, c_eq, c_ne, c_lt, c_le, c_gt, c_ge, c_eqr0, c_ner0, b_add, b_sub, f_check_rows_ok B c h1 h2]
end Lw
end
section
open PySem Pv L2
namespace Lw
theorem f_pattern_at_ok {k : Int} (r lot : List Int) (c : Dt) (hr : r.length = k.toNat) (hl : LotOk k lot) (h7 : lot.length ≤ 100) : f_pattern_at [.sh (rowD r), .sh (rowD lot)] c = some (rowD (marksL r lot), c) := by
  have hline := line_val
  have hI : itemsD (rowD lot) = some (lot.map .int) := rfl
  refine evF_eq rfl (W_rt (d := rowD (marksL r lot)) (c1 := c) ?_ ⟨rfl, rfl⟩)
  simp only [evF, evSs, evS, evE, evEs, evB, evI, slotS, slotD, slotC_0, slotC_s, putTg, modS, kD, bt_int, bt_abs, bt_lenL, bt_lenT, bt_tupL, Option.map_some, Option.map_none, List.getElem?_cons_zero, List.getElem?_cons_succ, List.length_cons, List.length_nil, List.set_cons_zero, List.set_cons_succ, List.replicate, List.cons_append, List.nil_append, allSh, if_true, wipeS, tgIx, List.map_cons, List.map_nil, Nat.zero_le, line_val, Nat.reduceAdd, Nat.reduceLeDiff, Bool.false_eq_true, if_false, Bool.not_true, Bool.not_false, c_eq, c_ne, c_lt, c_le, c_gt, c_ge, c_eqr0, c_ner0, b_add, b_sub, hI]
  rw [img_map (h := fun x => .int (r.getD x.toNat 0))]
  · have e : lot.map (fun x => PyData.int (r.getD x.toNat 0)) = (marksL r lot).map .int := by unfold marksL; rw [List.map_map]; rfl
    rw [e]
    have h1 : ((marksL r lot).map PyData.int).length ≤ line := by unfold marksL; rw [List.length_map, List.length_map]; omega
    simp only [evF, evSs, evS, evE, evEs, evB, evI, slotS, slotD, slotC_0, slotC_s, putTg, modS, kD, bt_int, bt_abs, bt_lenL, bt_lenT, bt_tupL, Option.map_some, Option.map_none, List.getElem?_cons_zero, List.getElem?_cons_succ, List.length_cons, List.length_nil, List.set_cons_zero, List.set_cons_succ, List.replicate, List.cons_append, List.nil_append, allSh, if_true, wipeS, tgIx, List.map_cons, List.map_nil, Nat.zero_le, line_val, Nat.reduceAdd, Nat.reduceLeDiff, Bool.false_eq_true, if_false, Bool.not_true, Bool.not_false, c_eq, c_ne, c_lt, c_le, c_gt, c_ge, c_eqr0, c_ner0, b_add, b_sub, h1]
    rfl
  · intro x hx
    simp only [evF, evSs, evS, evE, evEs, evB, evI, slotS, slotD, slotC_0, slotC_s, putTg, modS, kD, bt_int, bt_abs, bt_lenL, bt_lenT, bt_tupL, Option.map_some, Option.map_none, List.getElem?_cons_zero, List.getElem?_cons_succ, List.length_cons, List.length_nil, List.set_cons_zero, List.set_cons_succ, List.replicate, List.cons_append, List.nil_append, allSh, if_true, wipeS, tgIx, List.map_cons, List.map_nil, Nat.zero_le, line_val, Nat.reduceAdd, Nat.reduceLeDiff, Bool.false_eq_true, if_false, Bool.not_true, Bool.not_false, c_eq, c_ne, c_lt, c_le, c_gt, c_ge, c_eqr0, c_ner0, b_add, b_sub, marks_at hr (hl x hx)]
theorem f_tallied_ok {v k : Int} {rows : List (List Int)} (B : Board v k rows) (lot : List Int) (c : Dt) (hl : LotOk k lot) (h7 : lot.length ≤ 100) : f_tallied [.sh (boardD rows), .sh (rowD lot)] c = some (tD (tallyL rows lot), c) := by
  have hline := line_val
  have hkt : ct.kt = false := rfl
  suffices ∃ d1 c1, f_tallied [.sh (boardD rows), .sh (rowD lot)] c = some (d1, c1) ∧ (d1 = tD (tallyL rows lot) ∧ c1 = c) by
    obtain ⟨d1, c1, e, rfl, rfl⟩ := this
    exact e
  refine evF_W rfl ?_
  refine W_step (ρ1 := [.sh (boardD rows), .sh (rowD lot), .own (tD []), .no, .no]) (c1 := c) (by simp only [evF, evSs, evS, evE, evEs, evB, evI, slotS, slotD, slotC_0, slotC_s, putTg, modS, kD, bt_int, bt_abs, bt_lenL, bt_lenT, bt_tupL, Option.map_some, Option.map_none, List.getElem?_cons_zero, List.getElem?_cons_succ, List.length_cons, List.length_nil, List.set_cons_zero, List.set_cons_succ, List.replicate, List.cons_append, List.nil_append, allSh, if_true, wipeS, tgIx, List.map_cons, List.map_nil, Nat.zero_le, line_val, Nat.reduceAdd, Nat.reduceLeDiff, Bool.false_eq_true, if_false, Bool.not_true, Bool.not_false, c_eq, c_ne, c_lt, c_le, c_gt, c_ge, c_eqr0, c_ner0, b_add, b_sub, ownable]; rfl) ?_
  refine W_for (xs := rows.map rowD) (c1 := c) (fun i ρ c' => c' = c ∧ ∃ x3 x4, ρ = [.sh (boardD rows), .sh (rowD lot), .own (tD (((rows.take i).map fun r => marksL r lot).foldl addT [])), x3, x4]) (by simp only [evF, evSs, evS, evE, evEs, evB, evI, slotS, slotD, slotC_0, slotC_s, putTg, modS, kD, bt_int, bt_abs, bt_lenL, bt_lenT, bt_tupL, Option.map_some, Option.map_none, List.getElem?_cons_zero, List.getElem?_cons_succ, List.length_cons, List.length_nil, List.set_cons_zero, List.set_cons_succ, List.replicate, List.cons_append, List.nil_append, allSh, if_true, wipeS, tgIx, List.map_cons, List.map_nil, Nat.zero_le, line_val, Nat.reduceAdd, Nat.reduceLeDiff, Bool.false_eq_true, if_false, Bool.not_true, Bool.not_false, c_eq, c_ne, c_lt, c_le, c_gt, c_ge, c_eqr0, c_ner0, b_add, b_sub, boardD, itemsD]) ⟨rfl, _, _, rfl⟩ ?_ ?_
  · rintro i d ρ c' hd ⟨rfl, x3, x4, rfl⟩
    obtain ⟨r, hr, rfl⟩ := lots_at hd
    have hi := (List.getElem?_eq_some_iff.mp hr).1
    have hrm := List.mem_of_getElem? hr
    obtain ⟨T, hT⟩ : ∃ T, T = ((rows.take i).map fun r => marksL r lot).foldl addT [] := ⟨_, rfl⟩
    obtain ⟨a1, a2, a3, -, -⟩ := tally_ok ((rows.take i).map fun r => marksL r lot) (fun _ => 0) [] List.nodup_nil
    rw [← hT] at a1 a2 a3
    rw [List.length_map, List.length_take] at a3
    have hfew := B.few
    refine ⟨_, rfl, ?_⟩
    rw [← hT]
    have ep := f_pattern_at_ok r lot c' (B.len r hrm) hl h7
    refine W_step (ρ1 := [.sh (boardD rows), .sh (rowD lot), .own (tD T), .sh (rowD r), .sh (rowD (marksL r lot))]) (c1 := c') (by simp only [evF, evSs, evS, evE, evEs, evB, evI, slotS, slotD, slotC_0, slotC_s, putTg, modS, kD, bt_int, bt_abs, bt_lenL, bt_lenT, bt_tupL, Option.map_some, Option.map_none, List.getElem?_cons_zero, List.getElem?_cons_succ, List.length_cons, List.length_nil, List.set_cons_zero, List.set_cons_succ, List.replicate, List.cons_append, List.nil_append, allSh, if_true, wipeS, tgIx, List.map_cons, List.map_nil, Nat.zero_le, line_val, Nat.reduceAdd, Nat.reduceLeDiff, Bool.false_eq_true, if_false, Bool.not_true, Bool.not_false, c_eq, c_ne, c_lt, c_le, c_gt, c_ge, c_eqr0, c_ner0, b_add, b_sub, ep]) ?_
    have g := gett T (marksL r lot)
    have p := put_T a1 (marksL r lot) (by simp at a3; omega)
    have hnx : addT T (marksL r lot) = ((rows.take (i + 1)).map fun r => marksL r lot).foldl addT [] := by
      rw [List.take_add_one, hr, hT]
      simp only [Option.toList_some, List.map_append, List.map_cons, List.map_nil, List.foldl_append, List.foldl_cons, List.foldl_nil]
    refine W_step (ρ1 := [.sh (boardD rows), .sh (rowD lot), .own (tD (addT T (marksL r lot))), .sh (rowD r), .sh (rowD (marksL r lot))]) (c1 := c') (by simp only [evF, evSs, evS, evE, evEs, evB, evI, slotS, slotD, slotC_0, slotC_s, putTg, modS, kD, bt_int, bt_abs, bt_lenL, bt_lenT, bt_tupL, Option.map_some, Option.map_none, List.getElem?_cons_zero, List.getElem?_cons_succ, List.length_cons, List.length_nil, List.set_cons_zero, List.set_cons_succ, List.replicate, List.cons_append, List.nil_append, allSh, if_true, wipeS, tgIx, List.map_cons, List.map_nil, Nat.zero_le, line_val, Nat.reduceAdd, Nat.reduceLeDiff, Bool.false_eq_true, if_false, Bool.not_true, Bool.not_false, c_eq, c_ne, c_lt, c_le, c_gt, c_ge, c_eqr0, c_ner0, b_add, b_sub, hkt, g, p]) (W_nil ⟨rfl, .sh (rowD r), .sh (rowD (marksL r lot)), by rw [hnx]⟩)
  · rintro ρ c' ⟨rfl, x3, x4, rfl⟩
    rw [List.length_map, List.take_length]
    exact W_rt (d := tD (tallyL rows lot)) (c1 := c') (by simp only [evF, evSs, evS, evE, evEs, evB, evI, slotS, slotD, slotC_0, slotC_s, putTg, modS, kD, bt_int, bt_abs, bt_lenL, bt_lenT, bt_tupL, Option.map_some, Option.map_none, List.getElem?_cons_zero, List.getElem?_cons_succ, List.length_cons, List.length_nil, List.set_cons_zero, List.set_cons_succ, List.replicate, List.cons_append, List.nil_append, allSh, if_true, wipeS, tgIx, List.map_cons, List.map_nil, Nat.zero_le, line_val, Nat.reduceAdd, Nat.reduceLeDiff, Bool.false_eq_true, if_false, Bool.not_true, Bool.not_false, c_eq, c_ne, c_lt, c_le, c_gt, c_ge, c_eqr0, c_ner0, b_add, b_sub]; rfl) ⟨rfl, rfl⟩
end Lw
end
section
open PySem Pv L2
namespace Lw
theorem f_likenesses_by_ok {v k : Int} {rows : List (List Int)} (B : Board v k rows) (c : Dt) (k1 : 0 ≤ k) (k2 : k ≤ 8) : f_likenesses_by [.sh (boardD rows)] c = some (rowD (likeV k.toNat rows), c) := by
  have hline := line_val
  have hfew := B.few
  obtain ⟨r0, e0, m0, l0⟩ := board_0 (kt := ct.kt) B k1
  have l0' : r0.length = k.toNat := B.len r0 m0
  have hlotok : LotOk k (rngI 0 k.toNat) := fun x hx => by have := mem_rngI.mp hx; omega
  obtain ⟨T, hT⟩ : ∃ T, T = tallyL rows (rngI 0 k.toNat) := ⟨_, rfl⟩
  have et := f_tallied_ok B (rngI 0 k.toNat) c hlotok (by rw [rngI_len]; omega)
  have ok : TallyOk (rows.map fun r => marksL r (rngI 0 k.toNat)) T := by rw [hT]; exact tally_is _
  rw [← hT] at et
  have hfin := like_tally (k := k.toNat) B.len ok
  have hTq : ∀ q ∈ T, q.1.length = k.toNat ∧ 1 ≤ q.2 ∧ q.2 ≤ 128 := fun q hq => by
    obtain ⟨r, hr, e⟩ := List.mem_map.mp (ok.sub q hq)
    have h1 := ok.pos q hq
    have h2 := ok.le q hq
    rw [List.length_map] at h2
    refine ⟨?_, h1, by omega⟩
    rw [← e]
    show (marksL r (rngI 0 k.toNat)).length = _
    unfold marksL
    rw [List.length_map, rngI_len]
  suffices ∃ d1 c1, f_likenesses_by [.sh (boardD rows)] c = some (d1, c1) ∧ (d1 = rowD (likeV k.toNat rows) ∧ c1 = c) by
    obtain ⟨d1, c1, e, rfl, rfl⟩ := this
    exact e
  refine evF_W rfl ?_
  have hz : repD (.list [.int 0]) (.int (((r0.length : Nat) : Int) + 1)) = some (intL (accL k.toNat [])) := by
    have e : ((r0.length : Nat) : Int) + 1 = ((k.toNat + 1 : Nat) : Int) := by omega
    rw [e, accL_nil]
    exact rep_zero (by omega)
  refine W_step (ρ1 := [.sh (boardD rows), .no, .own (intL (accL k.toNat [])), .sh (tD T), .no, .no, .no, .no]) (c1 := c) (by
    have o : ownable (intL (accL k.toNat [])) = true := rfl
    have er : (PyData.tuple (rngD (0, k.toNat))) = rowD (rngI 0 k.toNat) := by rw [rng_ints]; rfl
    have e1 : rangeD [.int ((r0.length : Nat) : Int)] = some (0, k.toNat) := by
      rw [range1_ok (by omega) (by omega), Int.toNat_natCast, l0']
    simp only [evF, evSs, evS, evE, evEs, evB, evI, slotS, slotD, slotC_0, slotC_s, putTg, modS, kD, bt_int, bt_abs, bt_lenL, bt_lenT, bt_tupL, Option.map_some, Option.map_none, List.getElem?_cons_zero, List.getElem?_cons_succ, List.length_cons, List.length_nil, List.set_cons_zero, List.set_cons_succ, List.replicate, List.cons_append, List.nil_append, allSh, if_true, wipeS, tgIx, List.map_cons, List.map_nil, Nat.zero_le, line_val, Nat.reduceAdd, Nat.reduceLeDiff, Bool.false_eq_true, if_false, Bool.not_true, Bool.not_false, c_eq, c_ne, c_lt, c_le, c_gt, c_ge, c_eqr0, c_ner0, b_add, b_sub, e0, bt_lenRow, hz, o, e1, er, et, putP, List.zip_cons_cons, List.zip_nil_left, List.all_cons, List.all_nil, List.length_cons, List.length_nil]
    try rfl) ?_
  have itT := items_T T
  refine W_for (xs := T.map fun q => rowD q.1) (c1 := c) (fun i ρ c' => c' = c ∧ ∃ x1 x4 x5, ρ = [.sh (boardD rows), x1, .own (intL (accL k.toNat ((T.take i).flatMap fun q => T.map fun r => (unN q.1 r.1, q.2 * r.2)))), .sh (tD T), x4, x5, .no, .no]) (by simp only [evF, evSs, evS, evE, evEs, evB, evI, slotS, slotD, slotC_0, slotC_s, putTg, modS, kD, bt_int, bt_abs, bt_lenL, bt_lenT, bt_tupL, Option.map_some, Option.map_none, List.getElem?_cons_zero, List.getElem?_cons_succ, List.length_cons, List.length_nil, List.set_cons_zero, List.set_cons_succ, List.replicate, List.cons_append, List.nil_append, allSh, if_true, wipeS, tgIx, List.map_cons, List.map_nil, Nat.zero_le, line_val, Nat.reduceAdd, Nat.reduceLeDiff, Bool.false_eq_true, if_false, Bool.not_true, Bool.not_false, c_eq, c_ne, c_lt, c_le, c_gt, c_ge, c_eqr0, c_ner0, b_add, b_sub, itT]) ⟨rfl, _, _, _, rfl⟩ ?_ ?_
  · rintro i d ρ c' hd ⟨rfl, x1, x4, x5, rfl⟩
    obtain ⟨q, hq, rfl⟩ := t_at hd
    have hqm := List.mem_of_getElem? hq
    obtain ⟨ql, q1, q2⟩ := hTq q hqm
    obtain ⟨ps, hps⟩ : ∃ ps, ps = (T.take i).flatMap fun q => T.map fun r => (unN q.1 r.1, q.2 * r.2) := ⟨_, rfl⟩
    rw [← hps]
    refine ⟨_, rfl, ?_⟩
    refine W_for (xs := T.map fun q => rowD q.1) (c1 := c') (fun j ρ c'' => c'' = c' ∧ ∃ x4 x5, ρ = [.sh (boardD rows), .sh (rowD q.1), .own (intL (accL k.toNat (ps ++ (T.take j).map fun r => (unN q.1 r.1, q.2 * r.2)))), .sh (tD T), x4, x5, .no, .no]) (by simp only [evF, evSs, evS, evE, evEs, evB, evI, slotS, slotD, slotC_0, slotC_s, putTg, modS, kD, bt_int, bt_abs, bt_lenL, bt_lenT, bt_tupL, Option.map_some, Option.map_none, List.getElem?_cons_zero, List.getElem?_cons_succ, List.length_cons, List.length_nil, List.set_cons_zero, List.set_cons_succ, List.replicate, List.cons_append, List.nil_append, allSh, if_true, wipeS, tgIx, List.map_cons, List.map_nil, Nat.zero_le, line_val, Nat.reduceAdd, Nat.reduceLeDiff, Bool.false_eq_true, if_false, Bool.not_true, Bool.not_false, c_eq, c_ne, c_lt, c_le, c_gt, c_ge, c_eqr0, c_ner0, b_add, b_sub, itT]) ⟨rfl, _, _, by rw [List.take_zero, List.map_nil, List.append_nil]; rfl⟩ ?_ ?_
    · rintro j d ρ c'' hd ⟨rfl, y4, y5, rfl⟩
      obtain ⟨r, hr, rfl⟩ := t_at hd
      have hrm := List.mem_of_getElem? hr
      obtain ⟨rl, r1, r2⟩ := hTq r hrm
      have hu := unN_le (b := r.1) ql
      obtain ⟨u, eu⟩ : ∃ u, u = unN q.1 r.1 := ⟨_, rfl⟩
      rw [← eu] at hu
      obtain ⟨qs, hqs⟩ : ∃ qs, qs = ps ++ (T.take j).map fun r => (unN q.1 r.1, q.2 * r.2) := ⟨_, rfl⟩
      rw [← hqs]
      have hnx : ps ++ (T.take (j + 1)).map (fun r => (unN q.1 r.1, q.2 * r.2)) = qs ++ [(u, q.2 * r.2)] := by
        rw [take_snoc hr, List.map_append, hqs, eu, List.append_assoc]; rfl
      have hlen : u < (accL k.toNat qs).length := by rw [accL_len]; omega
      have hq1 : seqD (rowD q.1) = some (q.1.map .int) := rfl
      have hq2 : seqD (rowD r.1) = some (r.1.map .int) := rfl
      refine ⟨_, rfl, ?_⟩
      refine W_step (ρ1 := [.sh (boardD rows), .sh (rowD q.1), .own (intL (accL k.toNat qs)), .sh (tD T), .sh (rowD r.1), .sh (.int (u : Nat)), .no, .no]) (c1 := c'') (by
        simp only [evF, evSs, evS, evE, evEs, evB, evI, slotS, slotD, slotC_0, slotC_s, putTg, modS, kD, bt_int, bt_abs, bt_lenL, bt_lenT, bt_tupL, Option.map_some, Option.map_none, List.getElem?_cons_zero, List.getElem?_cons_succ, List.length_cons, List.length_nil, List.set_cons_zero, List.set_cons_succ, List.replicate, List.cons_append, List.nil_append, allSh, if_true, wipeS, tgIx, List.map_cons, List.map_nil, Nat.zero_le, line_val, Nat.reduceAdd, Nat.reduceLeDiff, Bool.false_eq_true, if_false, Bool.not_true, Bool.not_false, c_eq, c_ne, c_lt, c_le, c_gt, c_ge, c_eqr0, c_ner0, b_add, b_sub, hq1, hq2, zipD_ints, List.zip_cons_cons, List.zip_nil_left, List.foldl_cons, List.foldl_nil]
        rw [img_filter (p := fun z : Int × Int => !decide (z.1 = z.2)) (h := fun _ => .int 1)]
        · have e2 : btD .len [.list (((q.1.zip r.1).filter fun z => !decide (z.1 = z.2)).map fun _ => PyData.int 1)] = some (.int (u : Nat)) := by
            show some (PyData.int (List.length _ : Nat)) = _
            rw [List.length_map, eu]; rfl
          have h3 : (((q.1.zip r.1).filter fun z => !decide (z.1 = z.2)).map fun _ => PyData.int 1).length ≤ line := by
            rw [List.length_map]
            have : ((q.1.zip r.1).filter fun z => !decide (z.1 = z.2)).length = u := by rw [eu]; rfl
            omega
          simp only [evF, evSs, evS, evE, evEs, evB, evI, slotS, slotD, slotC_0, slotC_s, putTg, modS, kD, bt_int, bt_abs, bt_lenL, bt_lenT, bt_tupL, Option.map_some, Option.map_none, List.getElem?_cons_zero, List.getElem?_cons_succ, List.length_cons, List.length_nil, List.set_cons_zero, List.set_cons_succ, List.replicate, List.cons_append, List.nil_append, allSh, if_true, wipeS, tgIx, List.map_cons, List.map_nil, Nat.zero_le, line_val, Nat.reduceAdd, Nat.reduceLeDiff, Bool.false_eq_true, if_false, Bool.not_true, Bool.not_false, c_eq, c_ne, c_lt, c_le, c_gt, c_ge, c_eqr0, c_ner0, b_add, b_sub, h3, e2] <;> rfl
        · rintro ⟨x, y⟩ hxy
          simp only [evF, evSs, evS, evE, evEs, evB, evI, slotS, slotD, slotC_0, slotC_s, putTg, modS, kD, bt_int, bt_abs, bt_lenL, bt_lenT, bt_tupL, Option.map_some, Option.map_none, List.getElem?_cons_zero, List.getElem?_cons_succ, List.length_cons, List.length_nil, List.set_cons_zero, List.set_cons_succ, List.replicate, List.cons_append, List.nil_append, allSh, if_true, wipeS, tgIx, List.map_cons, List.map_nil, Nat.zero_le, line_val, Nat.reduceAdd, Nat.reduceLeDiff, Bool.false_eq_true, if_false, Bool.not_true, Bool.not_false, c_eq, c_ne, c_lt, c_le, c_gt, c_ge, c_eqr0, c_ner0, b_add, b_sub, c_ne, List.zip_cons_cons, List.zip_nil_left, List.foldl_cons, List.foldl_nil, List.length_cons, List.length_nil]
          cases decide (x = y) <;> rfl) ?_
      have i1 : ixD ct.kt (tD T) (rowD q.1) = some (.int q.2) := ix_T ok.nd hqm
      have i2 : ixD ct.kt (tD T) (rowD r.1) = some (.int r.2) := ix_T ok.nd hrm
      refine W_step (ρ1 := [.sh (boardD rows), .sh (rowD q.1), .own (intL (accL k.toNat (qs ++ [(u, q.2 * r.2)]))), .sh (tD T), .sh (rowD r.1), .sh (.int (u : Nat)), .no, .no]) (c1 := c'') (by
        rw [accL_snoc qs (q.2 * r.2) hu]
        simp only [evF, evSs, evS, evE, evEs, evB, evI, slotS, slotD, slotC_0, slotC_s, putTg, modS, kD, bt_int, bt_abs, bt_lenL, bt_lenT, bt_tupL, Option.map_some, Option.map_none, List.getElem?_cons_zero, List.getElem?_cons_succ, List.length_cons, List.length_nil, List.set_cons_zero, List.set_cons_succ, List.replicate, List.cons_append, List.nil_append, allSh, if_true, wipeS, tgIx, List.map_cons, List.map_nil, Nat.zero_le, line_val, Nat.reduceAdd, Nat.reduceLeDiff, Bool.false_eq_true, if_false, Bool.not_true, Bool.not_false, c_eq, c_ne, c_lt, c_le, c_gt, c_ge, c_eqr0, c_ner0, b_add, b_sub, intl_ix (kt := ct.kt) hlen, i1, i2, mulD_ok (i := q.2) (j := r.2) (by omega) (by omega), intl_set (kt := ct.kt) hlen]) (W_nil ⟨rfl, .sh (rowD r.1), .sh (.int (u : Nat)), by rw [hnx]⟩)
    · rintro ρ c'' ⟨rfl, y4, y5, rfl⟩
      refine W_nil ⟨rfl, .sh (rowD q.1), y4, y5, ?_⟩
      rw [List.length_map, List.take_length, take_snoc hq, List.flatMap_append, List.flatMap_cons, List.flatMap_nil, List.append_nil, hps]
  · rintro ρ c' ⟨rfl, x1, x4, x5, rfl⟩
    rw [List.length_map, List.take_length, hfin]
    have e2 : btD .tuple [intL (likeV k.toNat rows)] = some (rowD (likeV k.toNat rows)) := rfl
    exact W_rt (d := rowD (likeV k.toNat rows)) (c1 := c') (by simp only [evF, evSs, evS, evE, evEs, evB, evI, slotS, slotD, slotC_0, slotC_s, putTg, modS, kD, bt_int, bt_abs, bt_lenL, bt_lenT, bt_tupL, Option.map_some, Option.map_none, List.getElem?_cons_zero, List.getElem?_cons_succ, List.length_cons, List.length_nil, List.set_cons_zero, List.set_cons_succ, List.replicate, List.cons_append, List.nil_append, allSh, if_true, wipeS, tgIx, List.map_cons, List.map_nil, Nat.zero_le, line_val, Nat.reduceAdd, Nat.reduceLeDiff, Bool.false_eq_true, if_false, Bool.not_true, Bool.not_false, c_eq, c_ne, c_lt, c_le, c_gt, c_ge, c_eqr0, c_ner0, b_add, b_sub, e2] <;> rfl) ⟨rfl, rfl⟩
theorem f_likenesses_ok {v k : Int} {rows : List (List Int)} (B : Board v k rows) (c : Dt) (k1 : 1 ≤ k) (k2 : k ≤ 8) (v1 : 2 ≤ v) (v2 : v ≤ 5) : f_likenesses [.sh (.int v), .sh (boardD rows)] c = some (rowD (likeV k.toNat rows), c) := by
  refine evF_eq rfl ?_
  refine W_step (ρ1 := [.sh (.int v), .sh (boardD rows)]) (c1 := c) (by simp only [evF, evSs, evS, evE, evEs, evB, evI, slotS, slotD, slotC_0, slotC_s, putTg, modS, kD, bt_int, bt_abs, bt_lenL, bt_lenT, bt_tupL, Option.map_some, Option.map_none, List.getElem?_cons_zero, List.getElem?_cons_succ, List.length_cons, List.length_nil, List.set_cons_zero, List.set_cons_succ, List.replicate, List.cons_append, List.nil_append, allSh, if_true, wipeS, tgIx, List.map_cons, List.map_nil, Nat.zero_le, line_val, Nat.reduceAdd, Nat.reduceLeDiff, Bool.false_eq_true, if_false, Bool.not_true, Bool.not_false, c_eq, c_ne, c_lt, c_le, c_gt, c_ge, c_eqr0, c_ner0, b_add, b_sub, f_check_table_ok B c k1 k2 v1 v2] <;> rfl) ?_
  exact W_rt (d := rowD (likeV k.toNat rows)) (c1 := c) (by simp only [evF, evSs, evS, evE, evEs, evB, evI, slotS, slotD, slotC_0, slotC_s, putTg, modS, kD, bt_int, bt_abs, bt_lenL, bt_lenT, bt_tupL, Option.map_some, Option.map_none, List.getElem?_cons_zero, List.getElem?_cons_succ, List.length_cons, List.length_nil, List.set_cons_zero, List.set_cons_succ, List.replicate, List.cons_append, List.nil_append, allSh, if_true, wipeS, tgIx, List.map_cons, List.map_nil, Nat.zero_le, line_val, Nat.reduceAdd, Nat.reduceLeDiff, Bool.false_eq_true, if_false, Bool.not_true, Bool.not_false, c_eq, c_ne, c_lt, c_le, c_gt, c_ge, c_eqr0, c_ner0, b_add, b_sub, f_likenesses_by_ok B c (by omega) k2]) ⟨rfl, rfl⟩
end Lw
end
section
open PySem Pv L2
namespace Lw
theorem cut_ints (ns : List Int) (lo hi : Option Int) : ∃ l : List Int, cutD (ns.map .int) lo hi = l.map .int :=
  ⟨(ns.drop (HT.sIx (ns.map PyData.int).length 0 lo)).take (HT.sIx (ns.map PyData.int).length (ns.map PyData.int).length hi - HT.sIx (ns.map PyData.int).length 0 lo), by unfold cutD; rw [← List.map_drop, ← List.map_take]⟩
theorem pow16 : binD .Pow (.int 10) (.int 16) = some (.int (10 ^ 16)) := by
  simp only [binD]; rw [if_pos ⟨by decide, by decide, by decide⟩]; rfl
theorem f_law_spring_ok (ns : List Int) (t : Int) (c : Dt) (t0 : 0 ≤ t) (t1 : t ≤ 100) : ∃ d, f_law_spring [.sh (.list (ns.map .int)), .sh (.int t)] c = some (d, c) ∧ ownable d = true ∧ Spr d 0 := by
  suffices ∃ d1 c1, f_law_spring [.sh (.list (ns.map .int)), .sh (.int t)] c = some (d1, c1) ∧ (c1 = c ∧ ∃ l s : Int, d1 = SpD l s 0 ∧ 0 ≤ l ∧ 0 ≤ s ∧ s < 998244353) by
    obtain ⟨d1, c1, e, rfl, l, s, rfl, h1, h2, h3⟩ := this
    exact ⟨_, e, rfl, l, s, 0, rfl, h1, h2, by omega, by omega, by omega⟩
  refine evF_W rfl ?_
  have p1 : (0 : Int) < 998244353 := by decide
  have m1 : binD .Mult (.int 5003) (.int t) = some (.int (5003 * t)) := mulD_ok (small_lt (by omega)) (small_lt (by omega))
  obtain ⟨l, hl⟩ := cut_ints ns none (some 9)
  have hw : ∃ w : Int, evE [f_law_likenesses, f_law_pick, f_law_one_of, f_law_patterns, f_law_sums, f_law_book, f_is_whole, f_is_between, f_check_marks, f_is_row, f_wrong_in_table, f_check_rows, f_check_table, f_pattern_at, f_tallied, f_likenesses_by, f_likenesses, f_law_right] ct (.ife (.cmp .Lt (.var 1) (.bt .len (.cons (.var 0) .nil))) (.bt .int (.cons (.ix (.var 0) (.var 1)) .nil)) (.int 0)) [.sh (.list (ns.map .int)), .sh (.int t), .no, .no, .no] c = some (.int w, c) := by
    by_cases h : t < ((ns.map PyData.int).length : Nat)
    · rw [List.length_map] at h
      have hn : t.toNat < ns.length := by omega
      refine ⟨ns.getD t.toNat 0, ?_⟩
      have e1 : ixD ct.kt (.list (ns.map .int)) (.int t) = some (.int (ns.getD t.toNat 0)) := by
        refine at_int t0 ?_
        rw [List.getElem?_map, List.getElem?_eq_getElem hn, List.getD_eq_getElem?_getD, List.getElem?_eq_getElem hn]; rfl
      simp only [evF, evSs, evS, evE, evEs, evB, evI, slotS, slotD, slotC_0, slotC_s, putTg, modS, kD, bt_int, bt_abs, bt_lenL, bt_lenT, bt_tupL, Option.map_some, Option.map_none, List.getElem?_cons_zero, List.getElem?_cons_succ, List.length_cons, List.length_nil, List.set_cons_zero, List.set_cons_succ, List.replicate, List.cons_append, List.nil_append, allSh, if_true, wipeS, tgIx, List.map_cons, List.map_nil, Nat.zero_le, line_val, Nat.reduceAdd, Nat.reduceLeDiff, Bool.false_eq_true, if_false, Bool.not_true, Bool.not_false, c_eq, c_ne, c_lt, c_le, c_gt, c_ge, c_eqr0, c_ner0, b_add, b_sub, List.length_map, decide_eq_true h, e1]
    · exact ⟨0, by simp only [evF, evSs, evS, evE, evEs, evB, evI, slotS, slotD, slotC_0, slotC_s, putTg, modS, kD, bt_int, bt_abs, bt_lenL, bt_lenT, bt_tupL, Option.map_some, Option.map_none, List.getElem?_cons_zero, List.getElem?_cons_succ, List.length_cons, List.length_nil, List.set_cons_zero, List.set_cons_succ, List.replicate, List.cons_append, List.nil_append, allSh, if_true, wipeS, tgIx, List.map_cons, List.map_nil, Nat.zero_le, line_val, Nat.reduceAdd, Nat.reduceLeDiff, Bool.false_eq_true, if_false, Bool.not_true, Bool.not_false, c_eq, c_ne, c_lt, c_le, c_gt, c_ge, c_eqr0, c_ner0, b_add, b_sub, decide_eq_false h]⟩
  obtain ⟨w, hw⟩ := hw
  refine W_step (ρ1 := [.sh (.list (ns.map .int)), .sh (.int t), .sh (.int w), .no, .no]) (c1 := c) (by
    have hw' := hw
    show (match evE _ _ _ _ _ with | some (d, c1) => _ | none => none) = _
    simp only [evF, List.replicate, List.length_cons, List.length_nil, Nat.reduceAdd, Nat.reduceSub, List.cons_append, List.nil_append] at hw' ⊢
    rw [hw']; rfl) ?_
  refine W_step (ρ1 := [.sh (.list (ns.map .int)), .sh (.int t), .sh (.int w), .sh (.int (1009 + 5003 * t)), .no]) (c1 := c) (by simp only [evF, evSs, evS, evE, evEs, evB, evI, slotS, slotD, slotC_0, slotC_s, putTg, modS, kD, bt_int, bt_abs, bt_lenL, bt_lenT, bt_tupL, Option.map_some, Option.map_none, List.getElem?_cons_zero, List.getElem?_cons_succ, List.length_cons, List.length_nil, List.set_cons_zero, List.set_cons_succ, List.replicate, List.cons_append, List.nil_append, allSh, if_true, wipeS, tgIx, List.map_cons, List.map_nil, Nat.zero_le, line_val, Nat.reduceAdd, Nat.reduceLeDiff, Bool.false_eq_true, if_false, Bool.not_true, Bool.not_false, c_eq, c_ne, c_lt, c_le, c_gt, c_ge, c_eqr0, c_ner0, b_add, b_sub, m1]) ?_
  refine W_for (xs := l.map .int) (c1 := c) (fun i ρ c' => c' = c ∧ ∃ (m : Int) (x : Sl), ρ = [.sh (.list (ns.map .int)), .sh (.int t), .sh (.int w), .sh (.int m), x] ∧ 0 ≤ m ∧ m < 998244353) (by simp only [evF, evSs, evS, evE, evEs, evB, evI, slotS, slotD, slotC_0, slotC_s, putTg, modS, kD, bt_int, bt_abs, bt_lenL, bt_lenT, bt_tupL, Option.map_some, Option.map_none, List.getElem?_cons_zero, List.getElem?_cons_succ, List.length_cons, List.length_nil, List.set_cons_zero, List.set_cons_succ, List.replicate, List.cons_append, List.nil_append, allSh, if_true, wipeS, tgIx, List.map_cons, List.map_nil, Nat.zero_le, line_val, Nat.reduceAdd, Nat.reduceLeDiff, Bool.false_eq_true, if_false, Bool.not_true, Bool.not_false, c_eq, c_ne, c_lt, c_le, c_gt, c_ge, c_eqr0, c_ner0, b_add, b_sub, oneInt, slD, hl, itemsD]) ⟨rfl, _, _, rfl, by omega, by omega⟩ ?_ ?_
  · rintro i d ρ c' hd ⟨rfl, m, x, rfl, h1, h2⟩
    rw [List.getElem?_map] at hd
    obtain ⟨y, hy, rfl⟩ := Option.map_eq_some_iff.mp hd
    have q1 := Int.emod_nonneg y (b := 998244353) (by decide)
    have q2 := Int.emod_lt_of_pos y p1
    have m3 : binD .Mult (.int m) (.int 30011) = some (.int (m * 30011)) := mulD_ok (small_lt (by omega)) (small_lt (by decide))
    have m4 : binD .Mult (.int (y % 998244353)) (.int 7) = some (.int (y % 998244353 * 7)) := mulD_ok (small_lt (by omega)) (small_lt (by decide))
    refine ⟨_, rfl, W_step (ρ1 := [.sh (.list (ns.map .int)), .sh (.int t), .sh (.int w), .sh (.int ((m * 30011 + y % 998244353 * 7 + 5) % 998244353)), .sh (.int y)]) (c1 := c') (by simp only [evF, evSs, evS, evE, evEs, evB, evI, slotS, slotD, slotC_0, slotC_s, putTg, modS, kD, bt_int, bt_abs, bt_lenL, bt_lenT, bt_tupL, Option.map_some, Option.map_none, List.getElem?_cons_zero, List.getElem?_cons_succ, List.length_cons, List.length_nil, List.set_cons_zero, List.set_cons_succ, List.replicate, List.cons_append, List.nil_append, allSh, if_true, wipeS, tgIx, List.map_cons, List.map_nil, Nat.zero_le, line_val, Nat.reduceAdd, Nat.reduceLeDiff, Bool.false_eq_true, if_false, Bool.not_true, Bool.not_false, c_eq, c_ne, c_lt, c_le, c_gt, c_ge, c_eqr0, c_ner0, b_add, b_sub, m3, m4, b_mod p1]) (W_nil ⟨rfl, _, _, rfl, Int.emod_nonneg _ (by decide), Int.emod_lt_of_pos _ p1⟩)⟩
  · rintro ρ c' ⟨rfl, m, x, rfl, h1, h2⟩
    have hL : ∃ l : Int, 0 ≤ l ∧ evE [f_law_likenesses, f_law_pick, f_law_one_of, f_law_patterns, f_law_sums, f_law_book, f_is_whole, f_is_between, f_check_marks, f_is_row, f_wrong_in_table, f_check_rows, f_check_table, f_pattern_at, f_tallied, f_likenesses_by, f_likenesses, f_law_right] ct (.ife (.cmp .GtE (.bt .abs (.cons (.var 2) .nil)) (.bin .Pow (.int 10) (.int 16))) (.bt .abs (.cons (.var 2) .nil)) (.int 0)) [.sh (.list (ns.map .int)), .sh (.int t), .sh (.int w), .sh (.int m), x] c' = some (.int l, c') := by
      by_cases h : (10 ^ 16 : Int) ≤ (if w < 0 then -w else w)
      · exact ⟨if w < 0 then -w else w, by split <;> omega, by simp only [evF, evSs, evS, evE, evEs, evB, evI, slotS, slotD, slotC_0, slotC_s, putTg, modS, kD, bt_int, bt_abs, bt_lenL, bt_lenT, bt_tupL, Option.map_some, Option.map_none, List.getElem?_cons_zero, List.getElem?_cons_succ, List.length_cons, List.length_nil, List.set_cons_zero, List.set_cons_succ, List.replicate, List.cons_append, List.nil_append, allSh, if_true, wipeS, tgIx, List.map_cons, List.map_nil, Nat.zero_le, line_val, Nat.reduceAdd, Nat.reduceLeDiff, Bool.false_eq_true, if_false, Bool.not_true, Bool.not_false, c_eq, c_ne, c_lt, c_le, c_gt, c_ge, c_eqr0, c_ner0, b_add, b_sub, pow16, decide_eq_true h]⟩
      · exact ⟨0, by omega, by simp only [evF, evSs, evS, evE, evEs, evB, evI, slotS, slotD, slotC_0, slotC_s, putTg, modS, kD, bt_int, bt_abs, bt_lenL, bt_lenT, bt_tupL, Option.map_some, Option.map_none, List.getElem?_cons_zero, List.getElem?_cons_succ, List.length_cons, List.length_nil, List.set_cons_zero, List.set_cons_succ, List.replicate, List.cons_append, List.nil_append, allSh, if_true, wipeS, tgIx, List.map_cons, List.map_nil, Nat.zero_le, line_val, Nat.reduceAdd, Nat.reduceLeDiff, Bool.false_eq_true, if_false, Bool.not_true, Bool.not_false, c_eq, c_ne, c_lt, c_le, c_gt, c_ge, c_eqr0, c_ner0, b_add, b_sub, pow16, decide_eq_false h]⟩
    obtain ⟨lf, l0, hL⟩ := hL
    refine W_rt (d := SpD lf m 0) (c1 := c') ?_ ⟨rfl, _, _, rfl, l0, h1, h2⟩
    simp only [evS, evE, evEs] at hL ⊢
    simp only [hL]
    simp only [evF, evSs, evS, evE, evEs, evB, evI, slotS, slotD, slotC_0, slotC_s, putTg, modS, kD, bt_int, bt_abs, bt_lenL, bt_lenT, bt_tupL, Option.map_some, Option.map_none, List.getElem?_cons_zero, List.getElem?_cons_succ, List.length_cons, List.length_nil, List.set_cons_zero, List.set_cons_succ, List.replicate, List.cons_append, List.nil_append, allSh, if_true, wipeS, tgIx, List.map_cons, List.map_nil, Nat.zero_le, line_val, Nat.reduceAdd, Nat.reduceLeDiff, Bool.false_eq_true, if_false, Bool.not_true, Bool.not_false, c_eq, c_ne, c_lt, c_le, c_gt, c_ge, c_eqr0, c_ner0, b_add, b_sub]
    rfl
end Lw
end
section
open PySem Pv L2
namespace Lw
theorem f_law_right_ok (c : Dt) (hc : Spr c 0) : ∃ c', f_law_right [.cell] c = some (.bool true, c') := by
  suffices ∃ d1 c1, f_law_right [.cell] c = some (d1, c1) ∧ d1 = .bool true by
    obtain ⟨d1, c1, e, rfl⟩ := this
    exact ⟨_, e⟩
  refine evF_W rfl ?_
  have hline := line_val
  obtain ⟨v, c1, ev, hv, w1⟩ := f_law_one_of_ok [2, 3, 2, 4, 5, 3] c 0 hc (by omega) (by decide) (by decide)
  have v12 : 2 ≤ v ∧ v ≤ 5 := by
    simp only [List.mem_cons, List.not_mem_nil, or_false] at hv
    omega
  obtain ⟨v1, v2⟩ := v12
  obtain ⟨r, c2, er, r1, r2, w2⟩ := f_law_pick_ok c1 1 w1 (by omega) 6 (by decide) (by decide)
  obtain ⟨k, hk⟩ : ∃ k : Int, k = 1 + r := ⟨_, rfl⟩
  have k1 : 1 ≤ k := by omega
  have k2 : k ≤ 6 := by omega
  simp only [List.map_cons, List.map_nil] at ev
  refine W_step (ρ1 := [.cell, .no, .no, .sh (.int v), .sh (.int k), .no, .no, .no, .no]) (c1 := c2) (by rw [hk]; simp only [evF, evSs, evS, evE, evEs, evB, evI, slotS, slotD, slotC_0, slotC_s, putTg, modS, kD, bt_int, bt_abs, bt_lenL, bt_lenT, bt_tupL, Option.map_some, Option.map_none, List.getElem?_cons_zero, List.getElem?_cons_succ, List.length_cons, List.length_nil, List.set_cons_zero, List.set_cons_succ, List.replicate, List.cons_append, List.nil_append, allSh, if_true, wipeS, tgIx, List.map_cons, List.map_nil, Nat.zero_le, line_val, Nat.reduceAdd, Nat.reduceLeDiff, Bool.false_eq_true, if_false, Bool.not_true, Bool.not_false, c_eq, c_ne, c_lt, c_le, c_gt, c_ge, c_eqr0, c_ner0, b_add, b_sub, ev, er, putP, List.zip_cons_cons, List.zip_nil_left, List.all_cons, List.all_nil]; rfl) ?_
  obtain ⟨d1, c3, e4, rows, rfl, ne, few48, ok, w3⟩ := f_law_book_ok v1 v2 k1 (by omega) w2 (by omega)
  have B : Board v k rows := ⟨ne, by omega, fun r hr => (ok r hr).1, fun r hr => (ok r hr).2⟩
  obtain ⟨x, c4, ex, x1, x2, w4⟩ := f_law_pick_ok c3 _ w3 (by omega) k (by omega) (by omega)
  refine W_step (ρ1 := [.cell, .no, .no, .sh (.int v), .sh (.int k), .sh (boardD rows), .sh (.int x), .no, .no]) (c1 := c4) (by
    simp only [evF, evSs, evS, evE, evEs, evB, evI, slotS, slotD, slotC_0, slotC_s, putTg, modS, kD, bt_int, bt_abs, bt_lenL, bt_lenT, bt_tupL, Option.map_some, Option.map_none, List.getElem?_cons_zero, List.getElem?_cons_succ, List.length_cons, List.length_nil, List.set_cons_zero, List.set_cons_succ, List.replicate, List.cons_append, List.nil_append, allSh, if_true, wipeS, tgIx, List.map_cons, List.map_nil, Nat.zero_le, line_val, Nat.reduceAdd, Nat.reduceLeDiff, Bool.false_eq_true, if_false, Bool.not_true, Bool.not_false, c_eq, c_ne, c_lt, c_le, c_gt, c_ge, c_eqr0, c_ner0, b_add, b_sub, e4, ex, putP, List.zip_cons_cons, List.zip_nil_left, List.all_cons, List.all_nil, List.foldl_cons, List.foldl_nil, List.length_cons, List.length_nil] <;> rfl) ?_
  have t1 := f_law_likenesses_ok B c4 (by omega) (by omega)
  have t2 := f_likenesses_ok B c4 k1 (by omega) v1 v2
  have hb := like_bnd k.toNat rows
  have hN : ((rows.length : Nat) : Int) * (rows.length : Nat) ≤ 48 * 48 := Int.mul_le_mul (by omega) (by omega) (by omega) (by decide)
  have hl : (likeV k.toNat rows).length = k.toNat + 1 := accL_len _ _
  have h200 : ∀ z ∈ likeV k.toNat rows, z.natAbs < 2 ^ 200 := fun z hz => by
    have := hb z hz
    exact Nat.lt_of_le_of_lt (show z.natAbs ≤ 48 * 48 by omega) (by decide)
  refine W_step (ρ1 := [.cell, .sh (rowD (likeV k.toNat rows)), .no, .sh (.int v), .sh (.int k), .sh (boardD rows), .sh (.int x), .no, .no]) (c1 := c4) (by simp only [evF, evSs, evS, evE, evEs, evB, evI, slotS, slotD, slotC_0, slotC_s, putTg, modS, kD, bt_int, bt_abs, bt_lenL, bt_lenT, bt_tupL, Option.map_some, Option.map_none, List.getElem?_cons_zero, List.getElem?_cons_succ, List.length_cons, List.length_nil, List.set_cons_zero, List.set_cons_succ, List.replicate, List.cons_append, List.nil_append, allSh, if_true, wipeS, tgIx, List.map_cons, List.map_nil, Nat.zero_le, line_val, Nat.reduceAdd, Nat.reduceLeDiff, Bool.false_eq_true, if_false, Bool.not_true, Bool.not_false, c_eq, c_ne, c_lt, c_le, c_gt, c_ge, c_eqr0, c_ner0, b_add, b_sub, t1] <;> rfl) ?_
  have pm : ∀ a b : Sl, permute [1, 0] [a, b] = [b, a] := fun _ _ => rfl
  obtain ⟨s1, s2⟩ := repr_row h200 (by omega)
  obtain ⟨s3, s4⟩ := row_dw h200 (by omega)
  obtain ⟨u1, u2⟩ := repr_two s1 s3 s4
  refine W_ite (bv := false) (c1 := c4) (by simp only [evF, evSs, evS, evE, evEs, evB, evI, slotS, slotD, slotC_0, slotC_s, putTg, modS, kD, bt_int, bt_abs, bt_lenL, bt_lenT, bt_tupL, Option.map_some, Option.map_none, List.getElem?_cons_zero, List.getElem?_cons_succ, List.length_cons, List.length_nil, List.set_cons_zero, List.set_cons_succ, List.replicate, List.cons_append, List.nil_append, allSh, if_true, wipeS, tgIx, List.map_cons, List.map_nil, Nat.zero_le, line_val, Nat.reduceAdd, Nat.reduceLeDiff, Bool.false_eq_true, if_false, Bool.not_true, Bool.not_false, c_eq, c_ne, c_lt, c_le, c_gt, c_ge, c_eqr0, c_ner0, b_add, b_sub, pm, t2, u2, c_neS ct.kt u1, List.length_cons, List.length_nil]; try rfl) (fun z => by cases z) (fun _ => W_nil ?_)
  have hrl : rows.reverse.length = rows.length := List.length_reverse
  have D : Board v k (rows ++ rows.reverse) := ⟨by simp [ne], by rw [List.length_append]; omega, fun r hr => by
    rcases List.mem_append.mp hr with hr | hr
    · exact B.len r hr
    · exact B.len r (List.mem_reverse.mp hr), fun r hr => by
    rcases List.mem_append.mp hr with hr | hr
    · exact B.mks r hr
    · exact B.mks r (List.mem_reverse.mp hr)⟩
  have t3 := f_likenesses_ok D c4 k1 (by omega) v1 v2
  rw [like_twice] at t3
  obtain ⟨L4, hL4⟩ : ∃ L4, L4 = (likeV k.toNat rows).map fun n => 4 * n := ⟨_, rfl⟩
  rw [← hL4] at t3
  obtain ⟨y1, y2⟩ := repr_row (l := L4) (fun z hz => by
    rw [hL4] at hz
    obtain ⟨n, hn, rfl⟩ := List.mem_map.mp hz
    have := hb n hn
    exact Nat.lt_of_le_of_lt (show (4 * n).natAbs ≤ 4 * 48 * 48 by omega) (by decide)) (by rw [hL4, List.length_map]; omega)
  refine W_ite (bv := false) (c1 := c4) (by
    have eadd : binD .Add (.tuple (rows.map rowD)) (.tuple (rows.map rowD).reverse) = some (boardD (rows ++ rows.reverse)) := by
      rw [← List.map_reverse]
      exact board_add (a := rows) (b := rows.reverse) (by omega)
    have itL : itemsD (rowD (likeV k.toNat rows)) = some ((likeV k.toNat rows).map .int) := rfl
    show evE _ _ _ [.cell, .sh (rowD (likeV k.toNat rows)), .no, .sh (.int v), .sh (.int k), .sh (.tuple (rows.map rowD)), .sh (.int x), .no, .no] c4 = _
    simp only [evF, evSs, evS, evE, evEs, evB, evI, slotS, slotD, slotC_0, slotC_s, putTg, modS, kD, bt_int, bt_abs, bt_lenL, bt_lenT, bt_tupL, Option.map_some, Option.map_none, List.getElem?_cons_zero, List.getElem?_cons_succ, List.length_cons, List.length_nil, List.set_cons_zero, List.set_cons_succ, List.replicate, List.cons_append, List.nil_append, allSh, if_true, wipeS, tgIx, List.map_cons, List.map_nil, Nat.zero_le, line_val, Nat.reduceAdd, Nat.reduceLeDiff, Bool.false_eq_true, if_false, Bool.not_true, Bool.not_false, c_eq, c_ne, c_lt, c_le, c_gt, c_ge, c_eqr0, c_ner0, b_add, b_sub, eadd, t3, y2, itL]
    rw [img_map (h := fun n => .int (4 * n))]
    · have e : (likeV k.toNat rows).map (fun n => PyData.int (4 * n)) = L4.map .int := by rw [hL4, List.map_map]; rfl
      rw [e]
      have h3 : (L4.map PyData.int).length ≤ line := by rw [List.length_map, hL4, List.length_map]; omega
      have e2 : btD .tuple [.list (L4.map .int)] = some (rowD L4) := rfl
      simp only [evF, evSs, evS, evE, evEs, evB, evI, slotS, slotD, slotC_0, slotC_s, putTg, modS, kD, bt_int, bt_abs, bt_lenL, bt_lenT, bt_tupL, Option.map_some, Option.map_none, List.getElem?_cons_zero, List.getElem?_cons_succ, List.length_cons, List.length_nil, List.set_cons_zero, List.set_cons_succ, List.replicate, List.cons_append, List.nil_append, allSh, if_true, wipeS, tgIx, List.map_cons, List.map_nil, Nat.zero_le, line_val, Nat.reduceAdd, Nat.reduceLeDiff, Bool.false_eq_true, if_false, Bool.not_true, Bool.not_false, c_eq, c_ne, c_lt, c_le, c_gt, c_ge, c_eqr0, c_ner0, b_add, b_sub, h3, e2, y2, c_neS ct.kt y1]
      try rfl
    · intro n hn
      have := hb n hn
      simp only [evF, evSs, evS, evE, evEs, evB, evI, slotS, slotD, slotC_0, slotC_s, putTg, modS, kD, bt_int, bt_abs, bt_lenL, bt_lenT, bt_tupL, Option.map_some, Option.map_none, List.getElem?_cons_zero, List.getElem?_cons_succ, List.length_cons, List.length_nil, List.set_cons_zero, List.set_cons_succ, List.replicate, List.cons_append, List.nil_append, allSh, if_true, wipeS, tgIx, List.map_cons, List.map_nil, Nat.zero_le, line_val, Nat.reduceAdd, Nat.reduceLeDiff, Bool.false_eq_true, if_false, Bool.not_true, Bool.not_false, c_eq, c_ne, c_lt, c_le, c_gt, c_ge, c_eqr0, c_ner0, b_add, b_sub, mulD_ok (i := 4) (j := n) (by decide) (by omega)]) (fun z => by cases z) (fun _ => W_nil ?_)
  obtain ⟨one, hone⟩ : ∃ one, one = rows.map fun r => [r.getD x.toNat 0] := ⟨_, rfl⟩
  have O : Board v 1 one := ⟨by rw [hone]; simpa using ne, by rw [hone, List.length_map]; omega, fun r hr => by
    rw [hone] at hr
    obtain ⟨q, _, rfl⟩ := List.mem_map.mp hr
    rfl, fun r hr y hy => by
    rw [hone] at hr
    obtain ⟨q, hq, rfl⟩ := List.mem_map.mp hr
    rw [List.mem_singleton] at hy
    subst hy
    exact board_marks B (lot := [x]) (fun z hz => by rw [List.mem_singleton] at hz; omega) q hq x List.mem_cons_self⟩
  refine W_step (ρ1 := [.cell, .sh (rowD (likeV k.toNat rows)), .sh (boardD one), .sh (.int v), .sh (.int k), .sh (boardD rows), .sh (.int x), .no, .no]) (c1 := c4) (by
    have itB : itemsD (boardD rows) = some (rows.map rowD) := rfl
    simp only [evF, evSs, evS, evE, evEs, evB, evI, slotS, slotD, slotC_0, slotC_s, putTg, modS, kD, bt_int, bt_abs, bt_lenL, bt_lenT, bt_tupL, Option.map_some, Option.map_none, List.getElem?_cons_zero, List.getElem?_cons_succ, List.length_cons, List.length_nil, List.set_cons_zero, List.set_cons_succ, List.replicate, List.cons_append, List.nil_append, allSh, if_true, wipeS, tgIx, List.map_cons, List.map_nil, Nat.zero_le, line_val, Nat.reduceAdd, Nat.reduceLeDiff, Bool.false_eq_true, if_false, Bool.not_true, Bool.not_false, c_eq, c_ne, c_lt, c_le, c_gt, c_ge, c_eqr0, c_ner0, b_add, b_sub, itB]
    rw [img_map (h := fun r => rowD [r.getD x.toNat 0])]
    · have e : rows.map (fun r => rowD [r.getD x.toNat 0]) = one.map rowD := by rw [hone, List.map_map]; rfl
      rw [e]
      have h3 : (one.map rowD).length ≤ line := by rw [List.length_map, hone, List.length_map]; omega
      have e2 : btD .tuple [.list (one.map rowD)] = some (boardD one) := rfl
      simp only [evF, evSs, evS, evE, evEs, evB, evI, slotS, slotD, slotC_0, slotC_s, putTg, modS, kD, bt_int, bt_abs, bt_lenL, bt_lenT, bt_tupL, Option.map_some, Option.map_none, List.getElem?_cons_zero, List.getElem?_cons_succ, List.length_cons, List.length_nil, List.set_cons_zero, List.set_cons_succ, List.replicate, List.cons_append, List.nil_append, allSh, if_true, wipeS, tgIx, List.map_cons, List.map_nil, Nat.zero_le, line_val, Nat.reduceAdd, Nat.reduceLeDiff, Bool.false_eq_true, if_false, Bool.not_true, Bool.not_false, c_eq, c_ne, c_lt, c_le, c_gt, c_ge, c_eqr0, c_ner0, b_add, b_sub, h3, e2] <;> rfl
    · intro r hr
      simp only [evF, evSs, evS, evE, evEs, evB, evI, slotS, slotD, slotC_0, slotC_s, putTg, modS, kD, bt_int, bt_abs, bt_lenL, bt_lenT, bt_tupL, Option.map_some, Option.map_none, List.getElem?_cons_zero, List.getElem?_cons_succ, List.length_cons, List.length_nil, List.set_cons_zero, List.set_cons_succ, List.replicate, List.cons_append, List.nil_append, allSh, if_true, wipeS, tgIx, List.map_cons, List.map_nil, Nat.zero_le, line_val, Nat.reduceAdd, Nat.reduceLeDiff, Bool.false_eq_true, if_false, Bool.not_true, Bool.not_false, c_eq, c_ne, c_lt, c_le, c_gt, c_ge, c_eqr0, c_ner0, b_add, b_sub, marks_at (kt := ct.kt) (row := r) (k := k) (B.len r hr) (x := x) (by omega), List.length_cons, List.length_nil]
      rfl) ?_
  have t5 := f_law_likenesses_ok O c4 (by omega) (by omega)
  have t6 := f_likenesses_ok O c4 (by omega) (by omega) v1 v2
  have hb1 := like_bnd (1 : Int).toNat one
  have hol : one.length = rows.length := by rw [hone, List.length_map]
  have hl1 : (likeV (1 : Int).toNat one).length = 2 := accL_len _ _
  obtain ⟨z1, z2⟩ := repr_row (l := likeV (1 : Int).toNat one) (fun z hz => by
    have := hb1 z hz
    rw [hol] at this
    exact Nat.lt_of_le_of_lt (show z.natAbs ≤ 48 * 48 by omega) (by decide)) (by omega)
  exact W_rt (d := .bool true) (c1 := c4) (by simp only [evF, evSs, evS, evE, evEs, evB, evI, slotS, slotD, slotC_0, slotC_s, putTg, modS, kD, bt_int, bt_abs, bt_lenL, bt_lenT, bt_tupL, Option.map_some, Option.map_none, List.getElem?_cons_zero, List.getElem?_cons_succ, List.length_cons, List.length_nil, List.set_cons_zero, List.set_cons_succ, List.replicate, List.cons_append, List.nil_append, allSh, if_true, wipeS, tgIx, List.map_cons, List.map_nil, Nat.zero_le, line_val, Nat.reduceAdd, Nat.reduceLeDiff, Bool.false_eq_true, if_false, Bool.not_true, Bool.not_false, c_eq, c_ne, c_lt, c_le, c_gt, c_ge, c_eqr0, c_ner0, b_add, b_sub, t5, t6, z2, c_eqS ct.kt z1]; try rfl) rfl
end Lw
end
section
open PySem Pv L2
namespace Lw
theorem f_law_ok (ns : List Int) (h : ns.length ≤ 63) : f_law [.sh (.list (ns.map .int))] .none = some (.bool true, .none) := by
  refine evF_eq rfl (W_rt (d := .bool true) (c1 := .none) ?_ ⟨rfl, rfl⟩)
  obtain ⟨n, hn, en⟩ : ∃ n : Nat, n ≤ 100 ∧ evI [f_law_likenesses, f_law_pick, f_law_one_of, f_law_patterns, f_law_sums, f_law_book, f_is_whole, f_is_between, f_check_marks, f_is_row, f_wrong_in_table, f_check_rows, f_check_table, f_pattern_at, f_tallied, f_likenesses_by, f_likenesses, f_law_right, f_law_spring] ct (.range (.cons (.bt .max (.cons (.int 2) (.cons (.bt .min (.cons (.bt .len (.cons (.var 0) .nil)) (.cons (.int 4) .nil))) .nil))) .nil)) [.sh (.list (ns.map .int)), .no] .none = some (rngD (0, n), .none) := by
    refine ⟨(if (if (4 : Int) < (ns.length : Nat) then (4 : Int) else (ns.length : Nat)) > 2 then (if (4 : Int) < (ns.length : Nat) then (4 : Int) else (ns.length : Nat)) else 2).toNat, ?_, ?_⟩
    rotate_left
    · have b_law_sums : ∀ i j : Int, btD .min [.int i, .int j] = some (.int (if j < i then j else i)) := fun _ _ => rfl
      have b_law_draw : ∀ i j : Int, btD .max [.int i, .int j] = some (.int (if j > i then j else i)) := fun _ _ => rfl
      simp only [evF, evSs, evS, evE, evEs, evB, evI, slotS, slotD, slotC_0, slotC_s, putTg, modS, kD, bt_int, bt_abs, bt_lenL, bt_lenT, bt_tupL, Option.map_some, Option.map_none, List.getElem?_cons_zero, List.getElem?_cons_succ, List.length_cons, List.length_nil, List.set_cons_zero, List.set_cons_succ, List.replicate, List.cons_append, List.nil_append, allSh, if_true, wipeS, tgIx, List.map_cons, List.map_nil, Nat.zero_le, line_val, Nat.reduceAdd, Nat.reduceLeDiff, Bool.false_eq_true, if_false, Bool.not_true, Bool.not_false, c_eq, c_ne, c_lt, c_le, c_gt, c_ge, c_eqr0, c_ner0, b_add, b_sub, b_law_sums, b_law_draw, List.length_map]
      rw [range1_ok (by have := line_val; split <;> split <;> omega) (by split <;> split <;> omega)]
      rfl
    · split <;> split <;> omega
  have go : ∀ g, (∀ i : Int, 0 ≤ i → i ≤ 100 → g (.int i) .none = some ([.bool true], .none)) → compGo g (rngD (0, n)) .none = some ((rngD (0, n)).map fun _ => .bool true, .none) := fun g hg => by
    refine compGo_map fun d hd => ?_
    obtain ⟨j, hj⟩ := List.getElem?_of_mem hd
    obtain ⟨rfl, hj'⟩ := rng_at hj
    exact hg _ (by omega) (by omega)
  have all : btD .all [.list ((rngD (0, n)).map fun _ => .bool true)] = some (.bool true) := by
    rw [show (rngD (0, n)).map (fun _ => PyData.bool true) = (List.replicate n true).map .bool by
      unfold rngD; rw [List.map_map, List.map_replicate]; exact List.ext_getElem (by simp) (by simp)]
    rw [bt_all]
    congr 2
    rw [List.all_eq_true]
    intro x hx
    rw [List.eq_of_mem_replicate hx]; rfl
  change evS _ _ _ _ [.sh (.list (ns.map .int)), .no] .none = _
  simp only [evS, evE, evEs, evB]
  simp only [en]
  rw [go]
  · simp only [evF, evSs, evS, evE, evEs, evB, evI, slotS, slotD, slotC_0, slotC_s, putTg, modS, kD, bt_int, bt_abs, bt_lenL, bt_lenT, bt_tupL, Option.map_some, Option.map_none, List.getElem?_cons_zero, List.getElem?_cons_succ, List.length_cons, List.length_nil, List.set_cons_zero, List.set_cons_succ, List.replicate, List.cons_append, List.nil_append, allSh, if_true, wipeS, tgIx, List.map_cons, List.map_nil, Nat.zero_le, line_val, Nat.reduceAdd, Nat.reduceLeDiff, Bool.false_eq_true, if_false, Bool.not_true, Bool.not_false, c_eq, c_ne, c_lt, c_le, c_gt, c_ge, c_eqr0, c_ner0, b_add, b_sub, all]
  · intro i i0 i1
    obtain ⟨d, e, o, w⟩ := f_law_spring_ok ns i .none i0 i1
    obtain ⟨c', e2⟩ := f_law_right_ok d w
    simp only [evF, evSs, evS, evE, evEs, evB, evI, slotS, slotD, slotC_0, slotC_s, putTg, modS, kD, bt_int, bt_abs, bt_lenL, bt_lenT, bt_tupL, Option.map_some, Option.map_none, List.getElem?_cons_zero, List.getElem?_cons_succ, List.length_cons, List.length_nil, List.set_cons_zero, List.set_cons_succ, List.replicate, List.cons_append, List.nil_append, allSh, if_true, wipeS, tgIx, List.map_cons, List.map_nil, Nat.zero_le, line_val, Nat.reduceAdd, Nat.reduceLeDiff, Bool.false_eq_true, if_false, Bool.not_true, Bool.not_false, c_eq, c_ne, c_lt, c_le, c_gt, c_ge, c_eqr0, c_ner0, b_add, b_sub, e, o, e2]
theorem law_ok (ns : List Int) (h : ns.length ≤ 63) : ∃ c', f_law [.sh (.list (ns.map .int))] .none = some (.bool true, c') := ⟨_, f_law_ok ns h⟩
end Lw
end
section
set_option Elab.async false
set_option linter.all false
set_option maxRecDepth 100000
open PySem PySem.W PyProof.Rows in
set_option maxRecDepth 100000 in
set_option maxHeartbeats 0 in
theorem PySem.Challenge.cw_seedtables_k07_likenesses_by_own_pairs_holds : PySem.Challenge.rw_seedtables_k07_likenesses_by_own_pairs.Holds := by
  w_on; o_law; k_head; (case hw => w_witness2)
  k_fill
  refine Pv.walk_pv (l := PySem.Challenge.rw_seedtables_k07_likenesses_by_own_pairs) (n := 63) (k := 20) (x := "script") (kt := false) (f := Lw.f_law) rfl (by decide) rfl ⟨rfl, by decide, by decide⟩ (fun w h Y => PySem.W.kIn_of Y) ?F Lw.law_ok
  case F =>
    intro w mg fa h KX G hmg
    have D0 : Pv.DfOf KX "_law_likenesses" (Lw.top 31) := by
      refine' Pv.df_ex KX ?a ?l ?c ?k
      (case a => k_is)
      (case l => k_is)
      (case c => k_is)
      (case k => k_is)
    obtain ⟨a0, g0, D0⟩ := D0
    have D1 : Pv.DfOf KX "_law_pick" (Lw.top 26) := by
      refine' Pv.df_ex KX ?a ?l ?c ?k
      (case a => k_is)
      (case l => k_is)
      (case c => k_is)
      (case k => k_is)
    obtain ⟨a1, g1, D1⟩ := D1
    have D2 : Pv.DfOf KX "_law_one_of" (Lw.top 27) := by
      refine' Pv.df_ex KX ?a ?l ?c ?k
      (case a => k_is)
      (case l => k_is)
      (case c => k_is)
      (case k => k_is)
    obtain ⟨a2, g2, D2⟩ := D2
    have D3 : Pv.DfOf KX "_law_patterns" (Lw.top 28) := by
      refine' Pv.df_ex KX ?a ?l ?c ?k
      (case a => k_is)
      (case l => k_is)
      (case c => k_is)
      (case k => k_is)
    obtain ⟨a3, g3, D3⟩ := D3
    have D4 : Pv.DfOf KX "_law_sums" (Lw.top 29) := by
      refine' Pv.df_ex KX ?a ?l ?c ?k
      (case a => k_is)
      (case l => k_is)
      (case c => k_is)
      (case k => k_is)
    obtain ⟨a4, g4, D4⟩ := D4
    have D5 : Pv.DfOf KX "_law_book" (Lw.top 30) := by
      refine' Pv.df_ex KX ?a ?l ?c ?k
      (case a => k_is)
      (case l => k_is)
      (case c => k_is)
      (case k => k_is)
    obtain ⟨a5, g5, D5⟩ := D5
    have D6 : Pv.DfOf KX "is_whole" (Lw.top 5) := by
      refine' Pv.df_ex KX ?a ?l ?c ?k
      (case a => k_is)
      (case l => k_is)
      (case c => k_is)
      (case k => k_is)
    obtain ⟨a6, g6, D6⟩ := D6
    have D7 : Pv.DfOf KX "is_between" (Lw.top 6) := by
      refine' Pv.df_ex KX ?a ?l ?c ?k
      (case a => k_is)
      (case l => k_is)
      (case c => k_is)
      (case k => k_is)
    obtain ⟨a7, g7, D7⟩ := D7
    have D8 : Pv.DfOf KX "check_marks" (Lw.top 17) := by
      refine' Pv.df_ex KX ?a ?l ?c ?k
      (case a => k_is)
      (case l => k_is)
      (case c => k_is)
      (case k => k_is)
    obtain ⟨a8, g8, D8⟩ := D8
    have D9 : Pv.DfOf KX "is_row" (Lw.top 12) := by
      refine' Pv.df_ex KX ?a ?l ?c ?k
      (case a => k_is)
      (case l => k_is)
      (case c => k_is)
      (case k => k_is)
    obtain ⟨a9, g9, D9⟩ := D9
    have D10 : Pv.DfOf KX "wrong_in_table" (Lw.top 13) := by
      refine' Pv.df_ex KX ?a ?l ?c ?k
      (case a => k_is)
      (case l => k_is)
      (case c => k_is)
      (case k => k_is)
    obtain ⟨a10, g10, D10⟩ := D10
    have D11 : Pv.DfOf KX "check_rows" (Lw.top 18) := by
      refine' Pv.df_ex KX ?a ?l ?c ?k
      (case a => k_is)
      (case l => k_is)
      (case c => k_is)
      (case k => k_is)
    obtain ⟨a11, g11, D11⟩ := D11
    have D12 : Pv.DfOf KX "check_table" (Lw.top 19) := by
      refine' Pv.df_ex KX ?a ?l ?c ?k
      (case a => k_is)
      (case l => k_is)
      (case c => k_is)
      (case k => k_is)
    obtain ⟨a12, g12, D12⟩ := D12
    have D13 : Pv.DfOf KX "pattern_at" (Lw.top 14) := by
      refine' Pv.df_ex KX ?a ?l ?c ?k
      (case a => k_is)
      (case l => k_is)
      (case c => k_is)
      (case k => k_is)
    obtain ⟨a13, g13, D13⟩ := D13
    have D14 : Pv.DfOf KX "tallied" (Lw.top 15) := by
      refine' Pv.df_ex KX ?a ?l ?c ?k
      (case a => k_is)
      (case l => k_is)
      (case c => k_is)
      (case k => k_is)
    obtain ⟨a14, g14, D14⟩ := D14
    have D15 : Pv.DfOf KX "likenesses_by" (Lw.top 21) := by
      refine' Pv.df_ex KX ?a ?l ?c ?k
      (case a => k_is)
      (case l => k_is)
      (case c => k_is)
      (case k => k_is)
    obtain ⟨a15, g15, D15⟩ := D15
    have D16 : Pv.DfOf KX "likenesses" (Lw.top 23) := by
      refine' Pv.df_ex KX ?a ?l ?c ?k
      (case a => k_is)
      (case l => k_is)
      (case c => k_is)
      (case k => k_is)
    obtain ⟨a16, g16, D16⟩ := D16
    have D17 : Pv.DfOf KX "_law_right" (Lw.top 32) := by
      refine' Pv.df_ex KX ?a ?l ?c ?k
      (case a => k_is)
      (case l => k_is)
      (case c => k_is)
      (case k => k_is)
    obtain ⟨a17, g17, D17⟩ := D17
    have D18 : Pv.DfOf KX "_law_spring" (Lw.top 25) := by
      refine' Pv.df_ex KX ?a ?l ?c ?k
      (case a => k_is)
      (case l => k_is)
      (case c => k_is)
      (case k => k_is)
    obtain ⟨a18, g18, D18⟩ := D18
    have D19 : Pv.DfOf KX "law" (Lw.top 33) := by
      refine' Pv.df_ex KX ?a ?l ?c ?k
      (case a => k_is)
      (case l => k_is)
      (case c => k_is)
      (case k => k_is)
    obtain ⟨a19, g19, D19⟩ := D19
    have c_LEAST_MARKS : Pv.CiOf KX "LEAST_MARKS" (2) := by
      refine' Pv.ci_ex KX ?a
      (case a => k_is)
    have c_MOST_MARKS : Pv.CiOf KX "MOST_MARKS" (5) := by
      refine' Pv.ci_ex KX ?a
      (case a => k_is)
    have c_MOST_KEYS : Pv.CiOf KX "MOST_KEYS" (8) := by
      refine' Pv.ci_ex KX ?a
      (case a => k_is)
    have c_MOST_ROWS : Pv.CiOf KX "MOST_ROWS" (128) := by
      refine' Pv.ci_ex KX ?a
      (case a => k_is)
    have z_len : Pv.NoOf KX "len" := by
      refine' Pv.no_ex KX ?a
      (case a => k_is)
    have z_abs : Pv.NoOf KX "abs" := by
      refine' Pv.no_ex KX ?a
      (case a => k_is)
    have z_int : Pv.NoOf KX "int" := by
      refine' Pv.no_ex KX ?a
      (case a => k_is)
    have z_sum : Pv.NoOf KX "sum" := by
      refine' Pv.no_ex KX ?a
      (case a => k_is)
    have z_min : Pv.NoOf KX "min" := by
      refine' Pv.no_ex KX ?a
      (case a => k_is)
    have z_max : Pv.NoOf KX "max" := by
      refine' Pv.no_ex KX ?a
      (case a => k_is)
    have z_all : Pv.NoOf KX "all" := by
      refine' Pv.no_ex KX ?a
      (case a => k_is)
    have z_any : Pv.NoOf KX "any" := by
      refine' Pv.no_ex KX ?a
      (case a => k_is)
    have z_list : Pv.NoOf KX "list" := by
      refine' Pv.no_ex KX ?a
      (case a => k_is)
    have z_tuple : Pv.NoOf KX "tuple" := by
      refine' Pv.no_ex KX ?a
      (case a => k_is)
    have z_divmod : Pv.NoOf KX "divmod" := by
      refine' Pv.no_ex KX ?a
      (case a => k_is)
    have z_repr : Pv.NoOf KX "repr" := by
      refine' Pv.no_ex KX ?a
      (case a => k_is)
    have z_sorted : Pv.NoOf KX "sorted" := by
      refine' Pv.no_ex KX ?a
      (case a => k_is)
    have z_range : Pv.NoOf KX "range" := by
      refine' Pv.no_ex KX ?a
      (case a => k_is)
    have z_isinstance : Pv.NoOf KX "isinstance" := by
      refine' Pv.no_ex KX ?a
      (case a => k_is)
    have z_bool : Pv.NoOf KX "bool" := by
      refine' Pv.no_ex KX ?a
      (case a => k_is)
    have z_str : Pv.NoOf KX "str" := by
      refine' Pv.no_ex KX ?a
      (case a => k_is)
    have z_dict : Pv.NoOf KX "dict" := by
      refine' Pv.no_ex KX ?a
      (case a => k_is)
    have z_enumerate : Pv.NoOf KX "enumerate" := by
      refine' Pv.no_ex KX ?a
      (case a => k_is)
    have z_zip : Pv.NoOf KX "zip" := by
      refine' Pv.no_ex KX ?a
      (case a => k_is)
    have hz : Pv.NosOf KX := by
      intro n hn
      simp only [Pv.bltNames, List.mem_cons, List.not_mem_nil, or_false] at hn
      rcases hn with rfl | rfl | rfl | rfl | rfl | rfl | rfl | rfl | rfl | rfl | rfl | rfl | rfl | rfl | rfl | rfl | rfl | rfl | rfl | rfl
      · exact z_len
      · exact z_abs
      · exact z_int
      · exact z_sum
      · exact z_min
      · exact z_max
      · exact z_all
      · exact z_any
      · exact z_list
      · exact z_tuple
      · exact z_divmod
      · exact z_repr
      · exact z_sorted
      · exact z_range
      · exact z_isinstance
      · exact z_bool
      · exact z_str
      · exact z_dict
      · exact z_enumerate
      · exact z_zip
    have e := hmg.symm.trans (PySem.W.mg_of KX G D19.ns)
    cases e
    have bd : Pv.Bd g19 ["script"] := by
      obtain ⟨oc, kV, doc, pm, cdv, ctv, od, an, osl, rfl, lk, hcd⟩ := D19.fn
      exact Pv.bd_of rfl rfl rfl rfl rfl rfl (by decide)
    refine ⟨g19, bd, fun b X G => (Lw.chain X G (fun n hn => Pv.noL_ns (hz n hn)) (fun z => by cases z) (let ⟨t, q⟩ := c_LEAST_MARKS; ⟨t, Pv.noL_ns q⟩) (let ⟨t, q⟩ := c_MOST_MARKS; ⟨t, Pv.noL_ns q⟩) (let ⟨t, q⟩ := c_MOST_KEYS; ⟨t, Pv.noL_ns q⟩) (let ⟨t, q⟩ := c_MOST_ROWS; ⟨t, Pv.noL_ns q⟩) (Pv.noL_df D0) (Pv.noL_df D1) (Pv.noL_df D2) (Pv.noL_df D3) (Pv.noL_df D4) (Pv.noL_df D5) (Pv.noL_df D6) (Pv.noL_df D7) (Pv.noL_df D8) (Pv.noL_df D9) (Pv.noL_df D10) (Pv.noL_df D11) (Pv.noL_df D12) (Pv.noL_df D13) (Pv.noL_df D14) (Pv.noL_df D15) (Pv.noL_df D16) (Pv.noL_df D17) (Pv.noL_df D18) (Pv.noL_df D19)).1⟩
end
