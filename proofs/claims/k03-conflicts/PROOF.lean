import PyProof.Rows.All
import Wide.All
import OpenK.AllK
import Wide.FinOn
import HandS.ForMost
import HandS.Walk
import HandS.IsInst
import HandS.Deep
import HandS.Wide
import HandS.Flow
import HandS.TupAny
import HandS.Style
import HandS.More
import HandS.Replace
import KE.DataMinMax
import KE.SortData
import PyProof.Claim2Refuses
import HandS.Conv
import PySem.Challenge.RW_fourarms_k03_whole_conflicts
set_option Elab.async false
set_option linter.all false
set_option maxRecDepth 100000
set_option maxHeartbeats 4000000
namespace DL
open PySem PySem.Spec PyProof.Rows L2

/-! ### heaps -/
def Ex (H H' : Hp) : Prop := ∀ a o, H a = some o → H' a = some o
theorem Ex.refl {H : Hp} : Ex H H := fun _ _ h => h
theorem Ex.trans {H H1 H2 : Hp} (a : Ex H H1) (b : Ex H1 H2) : Ex H H2 := fun x o h => b x o (a x o h)
theorem Ex.new {H : Hp} {p : Addr} {o : HO} (h : H p = none) : Ex H (upd H p o) := fun a u e => by
  rw [upd_ne (ne_of_none e h)]; exact e
theorem Ex.back {H H' : Hp} {p : Addr} (e : Ex H H') (h : H' p = none) : H p = none := by
  cases q : H p with
  | none => rfl
  | some o => rw [e p o q] at h; cases h
theorem Ex.rd {H H' : Hp} {a : Addr} {u : HO} (e : Ex H H') (h : Rd H a u) : Rd H' a u := by
  rcases h with h | ⟨o, h⟩
  · exact .inl (e _ _ h)
  · exact .inr ⟨o, e _ _ h⟩
theorem Ex.sqL {K : PySem.W.Frag} {H H' : Hp} {a : Addr} {xs : List V} (e : Ex H H') (h : SqL K H a xs) : SqL K H' a xs := h.imp e.rd id
theorem Ex.sqT {K : PySem.W.Frag} {H H' : Hp} {a : Addr} {xs : List V} (e : Ex H H') (h : SqT K H a xs) : SqT K H' a xs := h.imp e.rd id
mutual
/-- data in the heap: lists are tracked (or locked) -/
inductive Dq (K : PySem.W.Frag) (H : Hp) : L2.V → PyData → Prop
  | non : Dq K H .non .none
  | bl (b : Bool) : Dq K H (.bl b) (.bool b)
  | int (i : Int) : Dq K H (.int i) (.int i)
  | str (x : Str) : Dq K H (.str x) (.str x)
  | lst {a : Addr} {xs : List L2.V} {ds : List PyData} : Rd H a (.lst xs) → DqAll K H xs ds → Dq K H (.ref a) (.list ds)
  | tup {a : Addr} {xs : List L2.V} {ds : List PyData} : SqT K H a xs → DqAll K H xs ds → Dq K H (.ref a) (.tuple ds)
  /-- a list of anyone's (the script), told apart from the others -/
  | lk {a : Addr} {xs : List L2.V} {ds : List PyData} : SqL K H a xs → DqAll K H xs ds → Dq K H (.ref a) (.dict [(.list ds, .none)])
inductive DqAll (K : PySem.W.Frag) (H : Hp) : List L2.V → List PyData → Prop
  | nil : DqAll K H [] []
  | cons {v : L2.V} {vs : List L2.V} {d : PyData} {ds : List PyData} : Dq K H v d → DqAll K H vs ds → DqAll K H (v :: vs) (d :: ds)
end
mutual
def noLk : PyData → Bool
  | .list xs => noLkAll xs
  | .tuple xs => noLkAll xs
  | .dict _ => false
  | _ => true
def noLkAll : List PyData → Bool
  | [] => true
  | x :: xs => noLk x && noLkAll xs
end
mutual
theorem noLk_of : ∀ (d : PyData), d.canLay0 = true → noLk d = true
  | .none, _ => by simp [noLk]
  | .bool _, _ => by simp [noLk]
  | .int _, _ => by simp [noLk]
  | .str _, _ => by simp [noLk]
  | .list xs, h => by
    rw [noLk]
    exact noLkAll_of xs (by simpa [PyData.canLay0] using h)
  | .tuple xs, h => by
    rw [noLk]
    exact noLkAll_of xs (by simpa [PyData.canLay0] using h)
  | .dict _, h => by simp [PyData.canLay0] at h
theorem noLkAll_of : ∀ (ds : List PyData), PyData.canLayAll0 ds = true → noLkAll ds = true
  | [], _ => by simp [noLkAll]
  | x :: xs, h => by
    rw [PyData.canLayAll0, Bool.and_eq_true] at h
    rw [noLkAll, noLk_of x h.1, noLkAll_of xs h.2]
    rfl
end
mutual
theorem Dq.dp {K : PySem.W.Frag} {H : Hp} : ∀ {v : V} {d : PyData}, Dq K H v d → noLk d = true → Dp K H v d
  | _, _, .non, _ => .non
  | _, _, .bl b, _ => .bl b
  | _, _, .int b, _ => .int b
  | _, _, .str b, _ => .str b
  | _, _, .lst s a, h => .lst (.inl s) (DqAll.dp a (by simpa [noLk] using h))
  | _, _, .tup s a, h => .tup s (DqAll.dp a (by simpa [noLk] using h))
  | _, _, .lk _ _, h => by simp [noLk] at h
theorem DqAll.dp {K : PySem.W.Frag} {H : Hp} : ∀ {v : List V} {d : List PyData}, DqAll K H v d → noLkAll d = true → DpAll K H v d
  | _, _, .nil, _ => .nil
  | _, _, .cons a b, h => by
    rw [noLkAll, Bool.and_eq_true] at h
    exact .cons (Dq.dp a h.1) (DqAll.dp b h.2)
end
mutual
theorem dp_mono {K : PySem.W.Frag} {H H' : Hp} (e : Ex H H') : ∀ {v : V} {d : PyData}, Dq K H v d → Dq K H' v d
  | _, _, .non => .non
  | _, _, .bl b => .bl b
  | _, _, .int b => .int b
  | _, _, .str b => .str b
  | _, _, .lst s a => .lst (e.rd s) (da_mono e a)
  | _, _, .tup s a => .tup (e.sqT s) (da_mono e a)
  | _, _, .lk s a => .lk (e.sqL s) (da_mono e a)
theorem da_mono {K : PySem.W.Frag} {H H' : Hp} (e : Ex H H') : ∀ {v : List V} {d : List PyData}, DqAll K H v d → DqAll K H' v d
  | _, _, .nil => .nil
  | _, _, .cons a b => .cons (dp_mono e a) (da_mono e b)
end
/-- growth: V the frozen part of H -/
structure Gr (V H V' H' : Hp) : Prop where
  v : Ex V V'
  h : Ex H H'
  sub : Ex V' H'
  nw : ∀ p, V p = none → H p ≠ none → V' p = none
theorem Gr.refl {V H : Hp} (s : Ex V H) : Gr V H V H := ⟨.refl, .refl, s, fun _ h _ => h⟩
theorem Gr.trans {V H V1 H1 V2 H2 : Hp} (a : Gr V H V1 H1) (b : Gr V1 H1 V2 H2) : Gr V H V2 H2 :=
  ⟨a.v.trans b.v, a.h.trans b.h, b.sub, fun p h1 h2 => b.nw p (a.nw p h1 h2) fun z => h2 (a.h.back z)⟩
/-- a new object, frozen at once -/
theorem Gr.laid {V H : Hp} {p : Addr} {o : HO} (s : Ex V H) (n : H p = none) : Gr V H (upd V p o) (upd H p o) where
  v := Ex.new (s.back n)
  h := Ex.new n
  sub := fun a u e => by
    by_cases q : a = p
    · subst q; rw [upd_same] at e ⊢; exact e
    · rw [upd_ne q] at e ⊢; exact s a u e
  nw := fun q h1 h2 => by rw [upd_ne (show q ≠ p from fun z => h2 (by rw [z]; exact n))]; exact h1
/-- a new object, not frozen -/
theorem Gr.held {V H : Hp} {p : Addr} {o : HO} (s : Ex V H) (n : H p = none) : Gr V H V (upd H p o) :=
  ⟨.refl, Ex.new n, s.trans (Ex.new n), fun q h1 _ => h1⟩
/-- freezing what is new -/
theorem Gr.freeze {V H V' H' : Hp} {p : Addr} {o : HO} (g : Gr V H V' H') (n : H p = none) (h : H' p = some o) (hv : V' p = none) : Gr V H (upd V' p o) H' where
  v := g.v.trans (Ex.new hv)
  h := g.h
  sub := fun a u e => by
    by_cases q : a = p
    · subst q; rw [upd_same] at e; cases e; exact h
    · rw [upd_ne q] at e; exact g.sub a u e
  nw := fun q h1 h2 => by rw [upd_ne (show q ≠ p from fun z => h2 (by rw [z]; exact n))]; exact g.nw q h1 h2

theorem da_len {K : PySem.W.Frag} {H : Hp} : ∀ {vs : List V} {ds : List PyData}, DqAll K H vs ds → vs.length = ds.length
  | _, _, .nil => rfl
  | _, _, .cons _ b => by simp [da_len b]
theorem da_get {K : PySem.W.Frag} {H : Hp} : ∀ {vs : List V} {ds : List PyData} {i : Nat} {d : PyData}, DqAll K H vs ds → ds[i]? = some d → ∃ v, vs[i]? = some v ∧ Dq K H v d
  | _, _, _, _, .nil, h => by simp at h
  | _, _, 0, _, .cons a _, h => by simp at h; subst h; exact ⟨_, rfl, a⟩
  | _, _, i + 1, _, .cons _ b, h => by
    obtain ⟨v, h1, h2⟩ := da_get (i := i) b (by simpa using h)
    exact ⟨v, by simpa using h1, h2⟩
theorem da_getv {K : PySem.W.Frag} {H : Hp} : ∀ {vs : List V} {ds : List PyData} {i : Nat} {v : V}, DqAll K H vs ds → vs[i]? = some v → ∃ d, ds[i]? = some d ∧ Dq K H v d
  | _, _, _, _, .nil, h => by simp at h
  | _, _, 0, _, .cons a _, h => by simp at h; subst h; exact ⟨_, rfl, a⟩
  | _, _, i + 1, _, .cons _ b, h => by
    obtain ⟨v, h1, h2⟩ := da_getv (i := i) b (by simpa using h)
    exact ⟨v, by simpa using h1, h2⟩
theorem da_app {K : PySem.W.Frag} {H : Hp} : ∀ {vs us : List V} {ds es : List PyData}, DqAll K H vs ds → DqAll K H us es → DqAll K H (vs ++ us) (ds ++ es)
  | _, _, _, _, .nil, h => h
  | _, _, _, _, .cons a b, h => .cons a (da_app b h)
theorem da_take {K : PySem.W.Frag} {H : Hp} : ∀ {vs : List V} {ds : List PyData} (n : Nat), DqAll K H vs ds → DqAll K H (vs.take n) (ds.take n)
  | _, _, 0, _ => .nil
  | _, _, _ + 1, .nil => .nil
  | _, _, n + 1, .cons a b => .cons a (da_take n b)
theorem da_drop {K : PySem.W.Frag} {H : Hp} : ∀ {vs : List V} {ds : List PyData} (n : Nat), DqAll K H vs ds → DqAll K H (vs.drop n) (ds.drop n)
  | _, _, 0, h => h
  | _, _, _ + 1, .nil => .nil
  | _, _, n + 1, .cons _ b => da_drop n b
theorem da_set {K : PySem.W.Frag} {H : Hp} {v : V} {d : PyData} (h : Dq K H v d) : ∀ {vs : List V} {ds : List PyData} (n : Nat), DqAll K H vs ds → DqAll K H (vs.set n v) (ds.set n d)
  | _, _, _, .nil => .nil
  | _, _, 0, .cons _ b => .cons h b
  | _, _, n + 1, .cons a b => .cons a (da_set h n b)
theorem da_ints {K : PySem.W.Frag} {H : Hp} : ∀ (ns : List Int), DqAll K H (ns.map V.int) (ns.map PyData.int)
  | [] => .nil
  | n :: r => .cons (.int n) (da_ints r)
theorem da_strs {K : PySem.W.Frag} {H : Hp} : ∀ (ns : List Str), DqAll K H (ns.map V.str) (ns.map PyData.str)
  | [] => .nil
  | n :: r => .cons (.str n) (da_strs r)
/-! ### reading data back -/
def asInts : List PyData → Option (List Int)
  | [] => some []
  | .int i :: r => (asInts r).map (i :: ·)
  | _ => none
def asStrs : List PyData → Option (List Str)
  | [] => some []
  | .str i :: r => (asStrs r).map (i :: ·)
  | _ => none
def asBools : List PyData → Option (List Bool)
  | [] => some []
  | .bool i :: r => (asBools r).map (i :: ·)
  | _ => none
theorem da_asInts {K : PySem.W.Frag} {H : Hp} : ∀ {vs : List V} {ds : List PyData} {ns : List Int}, DqAll K H vs ds → asInts ds = some ns → vs = ns.map V.int
  | _, _, _, .nil, h => by simp [asInts] at h; subst h; rfl
  | _, _, _, .cons (d := d) (ds := ds) a b, h => by
    cases a <;> simp [asInts] at h
    obtain ⟨m, h1, rfl⟩ := h
    simp [da_asInts b h1]
theorem da_asStrs {K : PySem.W.Frag} {H : Hp} : ∀ {vs : List V} {ds : List PyData} {ns : List Str}, DqAll K H vs ds → asStrs ds = some ns → vs = ns.map V.str
  | _, _, _, .nil, h => by simp [asStrs] at h; subst h; rfl
  | _, _, _, .cons (d := d) (ds := ds) a b, h => by
    cases a <;> simp [asStrs] at h
    obtain ⟨m, h1, rfl⟩ := h
    simp [da_asStrs b h1]
theorem da_asBools {K : PySem.W.Frag} {H : Hp} : ∀ {vs : List V} {ds : List PyData} {ns : List Bool}, DqAll K H vs ds → asBools ds = some ns → vs = ns.map V.bl
  | _, _, _, .nil, h => by simp [asBools] at h; subst h; rfl
  | _, _, _, .cons (d := d) (ds := ds) a b, h => by
    cases a <;> simp [asBools] at h
    obtain ⟨m, h1, rfl⟩ := h
    simp [da_asBools b h1]

/-! ### the slots as data -/
inductive Sl where
  | un
  | d (x : PyData)
  | own (xs : List PyData)
def SlOk (K : PySem.W.Frag) (B V H : Hp) : Option L2.V → Sl → Prop
  | _, .un => True
  | some v, .d x => Dq K V v x
  | some v, .own xs => ∃ p vs, v = .ref p ∧ H p = some (.lst vs) ∧ V p = none ∧ B p = none ∧ DqAll K V vs xs
  | none, _ => False
structure EnvD (K : PySem.W.Frag) (BV B V H : Hp) (σ : L2.St) (ρ : List Sl) : Prop where
  sl : ∀ (i : Nat) (s : Sl), ρ[i]? = some s → ∃ o, σ[i]? = some o ∧ SlOk K B V H o s
  gr : Gr BV B V H
  ap : ∀ (i j : Nat) (xs ys : List PyData), i ≠ j → ρ[i]? = some (.own xs) → ρ[j]? = some (.own ys) → σ[i]? ≠ σ[j]?
theorem SlOk.grow {K : PySem.W.Frag} {B V H V' H' : Hp} {o : Option L2.V} {s : Sl} (h : SlOk K B V H o s) (g : Gr V H V' H') : SlOk K B V' H' o s := by
  cases s with
  | un => cases o <;> trivial
  | d x =>
    cases o with
    | none => exact h
    | some v => exact dp_mono g.v h
  | own xs =>
    cases o with
    | none => exact h
    | some v =>
      obtain ⟨p, vs, e, h1, h2, h3, h4⟩ := h
      exact ⟨p, vs, e, g.h _ _ h1, g.nw p h2 (by rw [h1]; simp), h3, da_mono g.v h4⟩
theorem EnvD.grow {K : PySem.W.Frag} {BV B V H V' H' : Hp} {σ : L2.St} {ρ : List Sl} (E : EnvD K BV B V H σ ρ) (g : Gr V H V' H') : EnvD K BV B V' H' σ ρ :=
  ⟨fun i s h => by obtain ⟨o, h1, h2⟩ := E.sl i s h; exact ⟨o, h1, h2.grow g⟩, E.gr.trans g, E.ap⟩
theorem EnvD.sub {K : PySem.W.Frag} {BV B V H : Hp} {σ : L2.St} {ρ : List Sl} (E : EnvD K BV B V H σ ρ) : Ex V H := E.gr.sub
/-- a slot set to data -/
theorem EnvD.set {K : PySem.W.Frag} {BV B V H : Hp} {σ : L2.St} {ρ : List Sl} {v : L2.V} {d : PyData} (E : EnvD K BV B V H σ ρ) (h : Dq K V v d) (i : Nat) : EnvD K BV B V H (σ.set i (some v)) (ρ.set i (.d d)) := by
  refine ⟨fun j s e => ?_, E.gr, fun j k xs ys n e1 e2 => ?_⟩
  · by_cases q : i = j
    · subst q
      have hl : i < ρ.length := by
        rcases Nat.lt_or_ge i ρ.length with z | z
        · exact z
        · rw [List.getElem?_eq_none (by simpa using z)] at e; cases e
      rw [List.getElem?_set_self hl] at e; cases e
      obtain ⟨o, h1, h2⟩ := E.sl i _ (List.getElem?_eq_getElem hl)
      have hs : i < σ.length := by
        rcases Nat.lt_or_ge i σ.length with z | z
        · exact z
        · rw [List.getElem?_eq_none z] at h1; cases h1
      exact ⟨some v, List.getElem?_set_self hs, h⟩
    · rw [List.getElem?_set_ne q] at e
      obtain ⟨o, h1, h2⟩ := E.sl j s e
      exact ⟨o, by rw [List.getElem?_set_ne q]; exact h1, h2⟩
  · have f : ∀ (j : Nat) xs, (ρ.set i (Sl.d d))[j]? = some (.own xs) → i ≠ j ∧ ρ[j]? = some (.own xs) := fun j xs e => by
      by_cases q : i = j
      · subst q
        have hl : i < (ρ.set i (Sl.d d)).length := by
          rcases Nat.lt_or_ge i (ρ.set i (Sl.d d)).length with z | z
          · exact z
          · rw [List.getElem?_eq_none z] at e; cases e
        rw [List.getElem?_set_self (by simpa using hl)] at e; cases e
      · rw [List.getElem?_set_ne q] at e; exact ⟨q, e⟩
    obtain ⟨n1, f1⟩ := f j xs e1
    obtain ⟨n2, f2⟩ := f k ys e2
    rw [List.getElem?_set_ne n1, List.getElem?_set_ne n2]
    exact E.ap j k xs ys n f1 f2
/-- a slot forgotten -/
theorem EnvD.unset {K : PySem.W.Frag} {BV B V H : Hp} {σ : L2.St} {ρ : List Sl} (E : EnvD K BV B V H σ ρ) (o : Option L2.V) (i : Nat) : EnvD K BV B V H (σ.set i o) (ρ.set i .un) := by
  refine ⟨fun j s e => ?_, E.gr, fun j k xs ys n e1 e2 => ?_⟩
  · by_cases q : i = j
    · subst q
      have hl : i < ρ.length := by
        rcases Nat.lt_or_ge i ρ.length with z | z
        · exact z
        · rw [List.getElem?_eq_none (by simpa using z)] at e; cases e
      rw [List.getElem?_set_self hl] at e; cases e
      obtain ⟨o', h1, h2⟩ := E.sl i _ (List.getElem?_eq_getElem hl)
      have hs : i < σ.length := by
        rcases Nat.lt_or_ge i σ.length with z | z
        · exact z
        · rw [List.getElem?_eq_none z] at h1; cases h1
      exact ⟨o, List.getElem?_set_self hs, by cases o <;> trivial⟩
    · rw [List.getElem?_set_ne q] at e
      obtain ⟨o, h1, h2⟩ := E.sl j s e
      exact ⟨o, by rw [List.getElem?_set_ne q]; exact h1, h2⟩
  · have f : ∀ (j : Nat) xs, (ρ.set i Sl.un)[j]? = some (.own xs) → i ≠ j ∧ ρ[j]? = some (.own xs) := fun j xs e => by
      by_cases q : i = j
      · subst q
        have hl : i < (ρ.set i Sl.un).length := by
          rcases Nat.lt_or_ge i (ρ.set i Sl.un).length with z | z
          · exact z
          · rw [List.getElem?_eq_none z] at e; cases e
        rw [List.getElem?_set_self (by simpa using hl)] at e; cases e
      · rw [List.getElem?_set_ne q] at e; exact ⟨q, e⟩
    obtain ⟨n1, f1⟩ := f j xs e1
    obtain ⟨n2, f2⟩ := f k ys e2
    rw [List.getElem?_set_ne n1, List.getElem?_set_ne n2]
    exact E.ap j k xs ys n f1 f2
def wipeD (ρ : List Sl) : List Nat → List Sl
  | [] => ρ
  | v :: vs => (wipeD ρ vs).set v .un
theorem EnvD.wipe {K : PySem.W.Frag} {BV B V H : Hp} {σ : L2.St} {ρ : List Sl} (E : EnvD K BV B V H σ ρ) : ∀ vs : List Nat, EnvD K BV B V H (L2.wipe σ vs) (wipeD ρ vs)
  | [] => E
  | v :: vs => (E.wipe vs).unset none v
end DL

namespace DL
open PySem PySem.Spec PyProof.Rows L2

/-! ### readings by data -/
abbrev DE := List Sl → Option PyData
abbrev DB := List Sl → Option Bool
abbrev DA := List Sl → Option (List PyData)
def tD (K : PySem.W.Frag) (f : DE) : TE := fun σ H Q => ∃ BV B V ρ d, EnvD K BV B V H σ ρ ∧ f ρ = some d ∧ ∀ v V' H', Gr V H V' H' → Dq K V' v d → Q v H'
/-- a new list -/
def tN (K : PySem.W.Frag) (f : DA) : TE := fun σ H Q => ∃ BV B V ρ ds, EnvD K BV B V H σ ρ ∧ f ρ = some ds ∧ ∀ p vs V' H', Gr V H V' H' → H p = none → V' p = none → H' p = some (.lst vs) → DqAll K V' vs ds → Q (.ref p) H'
def tDT (K : PySem.W.Frag) (f : DB) : TT := fun σ H Q => ∃ BV B V ρ b, EnvD K BV B V H σ ρ ∧ f ρ = some b ∧ ∀ V' H', Gr V H V' H' → Q b H'
def tDA (K : PySem.W.Frag) (f : DA) : TA := fun σ H Q => ∃ BV B V ρ ds, EnvD K BV B V H σ ρ ∧ f ρ = some ds ∧ ∀ vs V' H', Gr V H V' H' → DqAll K V' vs ds → Q vs H'
section
variable {X : Cx} {e a b : Expr} {es : List Expr} {pos : Pos}
theorem pe_w {t t' : TE} (h : PE X e t) (i : ∀ σ H Q, t' σ H Q → t σ H Q) : PE X e t' := ⟨fun pins s σ H Q I q => h.run pins s σ H Q I (i _ _ _ q)⟩
theorem pt_w {t t' : TT} (h : PT X e t) (i : ∀ σ H Q, t' σ H Q → t σ H Q) : PT X e t' := ⟨fun pins s σ H Q I q => h.run pins s σ H Q I (i _ _ _ q)⟩
theorem pa_w {t t' : TA} (h : PA X es t) (i : ∀ σ H Q, t' σ H Q → t σ H Q) : PA X es t' := ⟨fun pos pins s σ H Q I q => h.run pos pins s σ H Q I (i _ _ _ q)⟩
theorem ps_w {st : Stmt} {t t' : TS} (h : PS X st t) (i : ∀ D σ H, t' D σ H → t D σ H) : PS X st t' := ⟨fun pins s σ H D I q => h.run pins s σ H D I (i _ _ _ q)⟩
theorem pss_w {st : List Stmt} {t t' : TS} (h : PSs X st t) (i : ∀ D σ H, t' D σ H → t D σ H) : PSs X st t' := ⟨fun pins s σ H D I q => h.run pins s σ H D I (i _ _ _ q)⟩
theorem pg_w {t t' : TG} (h : PG X e t) (i : ∀ v σ H Q, t' v σ H Q → t v σ H Q) : PG X e t' := ⟨fun pins s σ H v u Q I r q => h.run pins s σ H v u Q I r (i _ _ _ _ q)⟩
theorem pi_w {tg : Expr} {t t' : TI} (h : PI X tg e t) (i : ∀ σ H R, t' σ H R → t σ H R) : PI X tg e t' := ⟨fun pins s σ H R I q => h.run pins s σ H R I (i _ _ _ q)⟩

/-- a new list is data -/
def dL (f : DA) : DE := fun ρ => (f ρ).map PyData.list
theorem de_new {f : DA} (h : PE X e (tN X.K f)) : PE X e (tD X.K (dL f)) := pe_w h fun σ H Q ⟨BV, B, V, ρ, d, E, hf, q⟩ => by
  unfold dL at hf
  cases hg : f ρ with
  | none => rw [hg] at hf; cases hf
  | some ds =>
    rw [hg] at hf
    cases hf
    exact ⟨BV, B, V, ρ, ds, E, hg, fun p vs V' H' g n hv h' da => q _ _ _ (g.freeze n h' hv) (.lst (.inl upd_same) (da_mono (Ex.new hv) da))⟩

/-! ### names, constants -/
def dVar (i : Nat) : DE := fun ρ => match ρ[i]? with
  | some (.d x) => some x
  | _ => none
theorem var_val {K : PySem.W.Frag} {BV B V H : Hp} {σ : L2.St} {ρ : List Sl} {i : Nat} {d : PyData} (E : EnvD K BV B V H σ ρ) (h : dVar i ρ = some d) : ∃ v, σ[i]? = some (some v) ∧ Dq K V v d := by
  unfold dVar at h
  cases q : ρ[i]? with
  | none => rw [q] at h; cases h
  | some s =>
    rw [q] at h
    cases s with
    | un => cases h
    | own xs => cases h
    | d x =>
      cases h
      obtain ⟨o, h1, h2⟩ := E.sl i _ q
      cases o with
      | none => exact h2.elim
      | some v => exact ⟨v, h1, h2⟩
theorem de_var {i : Nat} (h : PE X e (tVar i)) : PE X e (tD X.K (dVar i)) := pe_w h fun σ H Q ⟨BV, B, V, ρ, d, E, hf, q⟩ => by
  obtain ⟨v, h1, h2⟩ := var_val E hf
  exact ⟨v, h1, q v V H (.refl E.sub) h2⟩
def dC (d : PyData) : DE := fun _ => some d
theorem de_c {v : V} {d : PyData} (h : PE X e (tC v)) (hd : ∀ V, Dq X.K V v d) : PE X e (tD X.K (dC d)) := pe_w h fun σ H Q ⟨BV, B, V, ρ, d', E, hf, q⟩ => by
  cases hf
  exact q v V H (.refl E.sub) (hd V)
theorem de_int {i : Int} {j pos} : PE X (.Constant (.int i) j pos) (tD X.K (dC (.int i))) := de_c pe_int fun _ => .int i
theorem de_str {i : Str} {j pos} : PE X (.Constant (.str i) j pos) (tD X.K (dC (.str i))) := de_c pe_str fun _ => .str i
theorem de_bl {i : Bool} {j pos} : PE X (.Constant (.bool i) j pos) (tD X.K (dC (.bool i))) := de_c pe_bl fun _ => .bl i
theorem de_non {j pos} : PE X (.Constant .none j pos) (tD X.K (dC .none)) := de_c pe_non fun _ => .non

/-! ### operators -/
def OpD (K : PySem.W.Frag) (r : R2) (o : PyData → PyData → Option PyData) : Prop := ∀ (V H : Hp) (x y : L2.V) (d e z : PyData) (Q : VK), Ex V H → Dq K V x d → Dq K V y e → o d e = some z → (∀ v V' H', Gr V H V' H' → Dq K V' v z → Q v H') → r x y H Q
def d2 (o : PyData → PyData → Option PyData) (f g : DE) : DE := fun ρ => (f ρ).bind fun x => (g ρ).bind fun y => o x y
theorem d2_some {o : PyData → PyData → Option PyData} {f g : DE} {ρ : List Sl} {z : PyData} (h : d2 o f g ρ = some z) : ∃ d e, f ρ = some d ∧ g ρ = some e ∧ o d e = some z := by
  unfold d2 at h
  cases h1 : f ρ with
  | none => rw [h1] at h; cases h
  | some d =>
    cases h2 : g ρ with
    | none => rw [h1, h2] at h; cases h
    | some e => rw [h1, h2] at h; exact ⟨d, e, rfl, rfl, h⟩
theorem tOp_of {K : PySem.W.Frag} {r : R2} {o : PyData → PyData → Option PyData} (h : OpD K r o) {f g : DE} (σ : L2.St) (H : Hp) (Q : VK) (t : tD K (d2 o f g) σ H Q) : tOp r (tD K f) (tD K g) σ H Q := by
  obtain ⟨BV, B, V, ρ, z, E, hz, q⟩ := t
  obtain ⟨d, e, hf, hg, ho⟩ := d2_some hz
  exact ⟨BV, B, V, ρ, d, E, hf, fun x V1 H1 G1 D1 => ⟨BV, B, V1, ρ, e, E.grow G1, hg, fun y V2 H2 G2 D2 =>
    h V2 H2 x y d e z Q G2.sub (dp_mono G2.v D1) D2 ho fun v V3 H3 G3 D3 => q v V3 H3 (G1.trans (G2.trans G3)) D3⟩⟩
theorem de_op {op : Operator} {r : R2} {o : PyData → PyData → Option PyData} {f g : DE} (ho : OpR X (binaryOp op) r) (h : OpD X.K r o) (ha : PE X a (tD X.K f)) (hb : PE X b (tD X.K g)) : PE X (.BinOp a op b pos) (tD X.K (d2 o f g)) :=
  pe_w (pe_op ho ha hb) (tOp_of h)
theorem de_cmp {op : CmpOp} {r : R2} {o : PyData → PyData → Option PyData} {f g : DE} (ho : OpR X (compareOp op) r) (h : OpD X.K r o) (ha : PE X a (tD X.K f)) (hb : PE X b (tD X.K g)) (hm : behindInMarks op b = false) : PE X (.Compare a [op] [b] pos) (tD X.K (d2 o f g)) :=
  pe_w (pe_cmpR ho ha hb hm) (tOp_of h)
theorem de_ix {r : R2} {o : PyData → PyData → Option PyData} {f g : DE} (ho : IxR X r) (h : OpD X.K r o) (ha : PE X a (tD X.K f)) (hb : PE X b (tD X.K g)) (hs : PlainIx b) : PE X (.Subscript a b pos) (tD X.K (d2 o f g)) :=
  pe_w (pe_ix ho ha hb hs) (tOp_of h)
def UnD (K : PySem.W.Frag) (r : V → Hp → VK → Prop) (o : PyData → Option PyData) : Prop := ∀ (V H : Hp) (x : L2.V) (d z : PyData) (Q : VK), Ex V H → Dq K V x d → o d = some z → (∀ v V' H', Gr V H V' H' → Dq K V' v z → Q v H') → r x H Q
def d1 (o : PyData → Option PyData) (f : DE) : DE := fun ρ => (f ρ).bind o
theorem d1_some {o : PyData → Option PyData} {f : DE} {ρ : List Sl} {z : PyData} (h : d1 o f ρ = some z) : ∃ d, f ρ = some d ∧ o d = some z := by
  unfold d1 at h
  cases h1 : f ρ with
  | none => rw [h1] at h; cases h
  | some d => rw [h1] at h; exact ⟨d, rfl, h⟩
theorem de_un {op : UnaryOp} {r : V → Hp → VK → Prop} {o : PyData → Option PyData} {f : DE} (ho : UnR X (unaryOp op) r) (h : UnD X.K r o) (ha : PE X a (tD X.K f)) : PE X (.UnaryOp op a pos) (tD X.K (d1 o f)) :=
  pe_w (pe_un ho ha) fun σ H Q ⟨BV, B, V, ρ, z, E, hz, q⟩ => by
    obtain ⟨d, hf, ho⟩ := d1_some hz
    exact ⟨BV, B, V, ρ, d, E, hf, fun x V1 H1 G1 D1 => h V1 H1 x d z Q G1.sub D1 ho fun v V3 H3 G3 D3 => q v V3 H3 (G1.trans G3) D3⟩
/-- a rule's answer that leaves the heap -/
theorem keep {K : PySem.W.Frag} {V H : Hp} {z : PyData} {v : L2.V} {Q : VK} (s : Ex V H) (q : ∀ v V' H', Gr V H V' H' → Dq K V' v z → Q v H') (h : Dq K V v z) : Q v H := q v V H (.refl s) h
/-- a new list, a new tuple -/
theorem newL {K : PySem.W.Frag} {V H : Hp} {ds : List PyData} {vs : List L2.V} {Q : VK} (s : Ex V H) (q : ∀ v V' H', Gr V H V' H' → Dq K V' v (.list ds) → Q v H') (h : DqAll K V vs ds) {p : Addr} (n : H p = none) : Q (.ref p) (upd H p (.lst vs)) :=
  q _ _ _ (Gr.laid s n) (.lst (.inl upd_same) (da_mono (Ex.new (s.back n)) h))
theorem newT {K : PySem.W.Frag} {V H : Hp} {ds : List PyData} {vs : List L2.V} {Q : VK} (s : Ex V H) (q : ∀ v V' H', Gr V H V' H' → Dq K V' v (.tuple ds) → Q v H') (h : DqAll K V vs ds) {p : Addr} (n : H p = none) : Q (.ref p) (upd H p (.tup vs)) :=
  q _ _ _ (Gr.laid s n) (.tup (.inl (.inl upd_same)) (da_mono (Ex.new (s.back n)) h))

/-! ### argument lists, displays -/
def aNil : DA := fun _ => some []
def aCons (f : DE) (r : DA) : DA := fun ρ => (f ρ).bind fun x => (r ρ).map fun xs => x :: xs
theorem aCons_some {f : DE} {r : DA} {ρ : List Sl} {zs : List PyData} (h : aCons f r ρ = some zs) : ∃ d ds, f ρ = some d ∧ r ρ = some ds ∧ zs = d :: ds := by
  unfold aCons at h
  cases h1 : f ρ with
  | none => rw [h1] at h; cases h
  | some d =>
    cases h2 : r ρ with
    | none => rw [h1, h2] at h; cases h
    | some e => rw [h1, h2] at h; cases h; exact ⟨d, e, rfl, rfl, rfl⟩
theorem da_nil : PA X [] (tDA X.K aNil) := pa_w pa_nil fun σ H Q ⟨BV, B, V, ρ, z, E, hz, q⟩ => by
  cases hz
  exact q [] V H (.refl E.sub) .nil
theorem da_cons {f : DE} {r : DA} (ha : PE X e (tD X.K f)) (hr : PA X es (tDA X.K r)) (hs : starEach (e :: es) X.env = (false, eval e X.env) :: starEach es X.env := by rfl) : PA X (e :: es) (tDA X.K (aCons f r)) :=
  pa_w (pa_cons ha hr hs) fun σ H Q ⟨BV, B, V, ρ, z, E, hz, q⟩ => by
    obtain ⟨d, ds, h1, h2, rfl⟩ := aCons_some hz
    exact ⟨BV, B, V, ρ, d, E, h1, fun x V1 H1 G1 D1 => ⟨BV, B, V1, ρ, ds, E.grow G1, h2, fun vs V2 H2 G2 D2 => q _ V2 H2 (G1.trans G2) (.cons (dp_mono G2.v D1) D2)⟩⟩
def aSmall (f : DA) : DA := fun ρ => (f ρ).bind fun xs => if xs.length ≤ 100000 then some xs else none
theorem aSmall_some {f : DA} {ρ : List Sl} {zs : List PyData} (h : aSmall f ρ = some zs) : f ρ = some zs ∧ zs.length ≤ 100000 := by
  unfold aSmall at h
  cases h1 : f ρ with
  | none => rw [h1] at h; cases h
  | some d =>
    rw [h1] at h
    by_cases q : d.length ≤ 100000
    · simp [q] at h; subst h; exact ⟨rfl, q⟩
    · simp [q] at h
theorem line_of {n : Nat} (h : n ≤ 100000) : n ≤ sizeLine := Nat.le_trans h (by decide)
theorem line_lt {n : Nat} (h : n < 100000) : n < sizeLine := Nat.lt_of_lt_of_le h (by decide)
theorem dn_lst {f : DA} (h : PA X es (tDA X.K f)) : PE X (.List es pos) (tN X.K (aSmall f)) := pe_w (pe_lst h) fun σ H Q ⟨BV, B, V, ρ, z, E, hz, q⟩ => by
  obtain ⟨h1, h2⟩ := aSmall_some hz
  exact ⟨BV, B, V, ρ, z, E, h1, fun vs V1 H1 G1 D1 => ⟨by rw [da_len D1]; exact line_of h2, fun p n => q p vs V1 _ (G1.trans (Gr.held G1.sub n)) (G1.h.back n) (G1.sub.back n) upd_same D1⟩⟩
def dTup (f : DA) : DE := fun ρ => (aSmall f ρ).map PyData.tuple
theorem de_lst {f : DA} (h : PA X es (tDA X.K f)) : PE X (.List es pos) (tD X.K (dL (aSmall f))) := de_new (dn_lst h)
theorem de_tup {f : DA} {x1} (h : PA X es (tDA X.K f)) : PE X (.Tuple es x1 pos) (tD X.K (dTup f)) := pe_w (pe_tup h) fun σ H Q ⟨BV, B, V, ρ, z, E, hz, q⟩ => by
  unfold dTup at hz
  cases h1 : aSmall f ρ with
  | none => rw [h1] at hz; cases hz
  | some ds =>
    rw [h1] at hz; cases hz
    obtain ⟨h1, h2⟩ := aSmall_some h1
    exact ⟨BV, B, V, ρ, ds, E, h1, fun vs V1 H1 G1 D1 => ⟨by rw [da_len D1]; exact line_of h2, fun p n => newT G1.sub (fun v V' H' g d => q v V' H' (G1.trans g) d) D1 n⟩⟩

/-! ### calls by values -/
def CallD (K : PySem.W.Frag) (r : List V → Hp → VK → Prop) (o : List PyData → Option PyData) : Prop := ∀ (V H : Hp) (xs : List L2.V) (ds : List PyData) (z : PyData) (Q : VK), Ex V H → DqAll K V xs ds → o ds = some z → (∀ v V' H', Gr V H V' H' → Dq K V' v z → Q v H') → r xs H Q
def dCall (o : List PyData → Option PyData) (f : DA) : DE := fun ρ => (f ρ).bind o
theorem dCall_some {o : List PyData → Option PyData} {f : DA} {ρ : List Sl} {z : PyData} (h : dCall o f ρ = some z) : ∃ d, f ρ = some d ∧ o d = some z := by
  unfold dCall at h
  cases h1 : f ρ with
  | none => rw [h1] at h; cases h
  | some d => rw [h1] at h; exact ⟨d, rfl, h⟩
theorem tCB_of {K : PySem.W.Frag} {r : List V → Hp → VK → Prop} {o : List PyData → Option PyData} (h : CallD K r o) {f : DA} (σ : L2.St) (H : Hp) (Q : VK) (t : tD K (dCall o f) σ H Q) : tCB r (tDA K f) σ H Q := by
  obtain ⟨BV, B, V, ρ, z, E, hz, q⟩ := t
  obtain ⟨d, hf, ho⟩ := dCall_some hz
  exact ⟨BV, B, V, ρ, d, E, hf, fun x V1 H1 G1 D1 => h V1 H1 x d z Q G1.sub D1 ho fun v V3 H3 G3 D3 => q v V3 H3 (G1.trans G3) D3⟩
theorem de_callB {x : Str} {id : String} {p : Pos} {r : List V → Hp → VK → Prop} {o : List PyData → Option PyData} {f : DA} (hc : CallR X (.builtin id) r) (h : CallD X.K r o) (hg : Gl X x) (hm : X.mg x = none) (hv : bootBuiltins x = some (.builtin id)) (ha : PA X (e :: es) (tDA X.K f)) (hn : x ≠ "__name__" := by decide) (hdb : (x == ("__debug__" : Str)) = false := by decide)
    (he : starEach (e :: es) X.env = (false, eval e X.env) :: starEach es X.env := by rfl) (hpl : (backTo pos (starEach es X.env)).any (·.1) = false := by rfl) : PE X (.Call (.Name x p) (e :: es) [] pos) (tD X.K (dCall o f)) :=
  pe_w (pe_callB hc hg hm hv ha hn hdb he hpl) (tCB_of h)
theorem de_callTy {x : Str} {id : String} {p : Pos} {r : List V → Hp → VK → Prop} {o : List PyData → Option PyData} {f : DA} (hc : CallR X (.type id) r) (h : CallD X.K r o) (hg : Gl X x) (hm : X.mg x = none) (hv : bootBuiltins x = some (.type id)) (ha : PA X (e :: es) (tDA X.K f)) (hn : x ≠ "__name__" := by decide) (hdb : (x == ("__debug__" : Str)) = false := by decide)
    (he : starEach (e :: es) X.env = (false, eval e X.env) :: starEach es X.env := by rfl) (hpl : (backTo pos (starEach es X.env)).any (·.1) = false := by rfl) : PE X (.Call (.Name x p) (e :: es) [] pos) (tD X.K (dCall o f)) :=
  pe_w (pe_callTy hc hg hm hv ha hn hdb he hpl) (tCB_of h)
/-- a def's promise by data -/
def spD (K : PySem.W.Frag) (n : Nat) (g : List PyData → Option PyData) : Sp := fun vs H Q _ => vs.length = n ∧ ∃ V ds d, Ex V H ∧ DqAll K V vs ds ∧ g ds = some d ∧ ∀ v V' H', Gr V H V' H' → Dq K V' v d → Q v H'
theorem de_call {k : Nat} {f : Addr} {fd : FuncData} {ps : List Str} {x : Str} {p : Pos} {g : List PyData → Option PyData} {fs : DA} (F : FnOk X.prog X.w X.K X.mg X.base CX0 k f fd ps (spD X.K ps.length g)) (hr : Room k X.A) (hg : Gl X x) (hm : X.mg x = some (.ref f)) (hk : PySem.W.keepIn X.K (.ref f) = true) (hb : Binds X.K fd ps [])
    (hlen : (e :: es).length = ps.length) (ha : PA X (e :: es) (tDA X.K fs)) (hfs : ∀ ρ ds, fs ρ = some ds → ds.length = (e :: es).length) (hdb : (x == ("__debug__" : Str)) = false := by decide)
    (he : starEach (e :: es) X.env = (false, eval e X.env) :: starEach es X.env := by rfl) (hpl : (backTo pos (starEach es X.env)).any (·.1) = false := by rfl) : PE X (.Call (.Name x p) (e :: es) [] pos) (tD X.K (dCall g fs)) :=
  pe_w (pe_call F hr hg hm hk hb .nil (E := E0) pass0 ha hdb he hpl) fun σ H Q ⟨BV, B, V, ρ, z, E, hz, q⟩ => by
    obtain ⟨ds, h1, h2⟩ := dCall_some hz
    exact ⟨BV, B, V, ρ, ds, E, h1, fun vs V1 H1 G1 D1 => by
      show spD X.K ps.length g (vs ++ []) H1 Q E0
      rw [List.append_nil]
      exact ⟨by rw [da_len D1, hfs ρ ds h1, hlen], V1, ds, z, G1.sub, D1, h2, fun v V' H' g d => q v V' H' (G1.trans g) d⟩⟩
theorem de_call0 {k : Nat} {f : Addr} {fd : FuncData} {x : Str} {p : Pos} {g : List PyData → Option PyData} (F : FnOk X.prog X.w X.K X.mg X.base CX0 k f fd [] (spD X.K 0 g)) (hr : Room k X.A) (hg : Gl X x) (hm : X.mg x = some (.ref f)) (hk : PySem.W.keepIn X.K (.ref f) = true) (hb : Binds X.K fd [] [])
    (hdb : (x == ("__debug__" : Str)) = false := by decide) : PE X (.Call (.Name x p) [] [] pos) (tD X.K (dCall g aNil)) :=
  pe_w (pe_call0 F hr hg hm hk hb .nil (E := E0) pass0 hdb) fun σ H Q ⟨BV, B, V, ρ, z, E, hz, q⟩ => by
    obtain ⟨ds, h1, h2⟩ := dCall_some hz
    cases h1
    exact ⟨rfl, V, [], z, E.sub, .nil, h2, fun v V' H' g d => q v V' H' g d⟩
theorem aNil_len (ρ : List Sl) (ds : List PyData) (h : aNil ρ = some ds) : ds.length = 0 := by cases h; rfl
theorem aCons_len {f : DE} {r : DA} {n : Nat} (hr : ∀ ρ ds, r ρ = some ds → ds.length = n) (ρ : List Sl) (ds : List PyData) (h : aCons f r ρ = some ds) : ds.length = n + 1 := by
  obtain ⟨d, ds, h1, h2, rfl⟩ := aCons_some h
  rw [List.length_cons, hr ρ _ h2]

/-! ### methods of texts -/
def MtD (K : PySem.W.Frag) (r : V → List V → Hp → VK → Prop) (o : PyData → List PyData → Option PyData) : Prop := ∀ (V H : Hp) (x : L2.V) (xs : List L2.V) (d : PyData) (ds : List PyData) (z : PyData) (Q : VK), Ex V H → Dq K V x d → DqAll K V xs ds → o d ds = some z → (∀ v V' H', Gr V H V' H' → Dq K V' v z → Q v H') → r x xs H Q
def dM (o : PyData → List PyData → Option PyData) (f : DE) (g : DA) : DE := fun ρ => (f ρ).bind fun x => (g ρ).bind fun y => o x y
theorem dM_some {o : PyData → List PyData → Option PyData} {f : DE} {g : DA} {ρ : List Sl} {z : PyData} (h : dM o f g ρ = some z) : ∃ d e, f ρ = some d ∧ g ρ = some e ∧ o d e = some z := by
  unfold dM at h
  cases h1 : f ρ with
  | none => rw [h1] at h; cases h
  | some d =>
    cases h2 : g ρ with
    | none => rw [h1, h2] at h; cases h
    | some e => rw [h1, h2] at h; exact ⟨d, e, rfl, rfl, h⟩
def tyD (T : String) : PyData → Bool
  | .str _ => T == "str"
  | .list _ => T == "list"
  | _ => false
theorem ty_of {K : PySem.W.Frag} {V H : Hp} {T : String} {x : L2.V} {d : PyData} (h : Dq K V x d) (s : Ex V H) (ht : tyD T d = true) : tyV K T x H := by
  cases h with
  | str z => exact (by simpa [tyD] using ht : T = "str")
  | lst hs _ => exact .inl ⟨(by simpa [tyD] using ht : T = "list"), _, Or.inl (s.rd hs)⟩
  | _ => simp [tyD] at ht
theorem de_bm {T id : String} {name : Str} {apos cpos : Pos} {r : V → List V → Hp → VK → Prop} {o : PyData → List PyData → Option PyData} {f : DE} {g : DA} (pa : PlainAttrs T) (slot : Slot T name id) (hty : typeOf (.builtin id) = pure (.type "method_descriptor")) (hm : MtR X id r) (h : MtD X.K r o) (hT : ∀ d ds z, o d ds = some z → tyD T d = true)
    (ho : PE X a (tD X.K f)) (ha : PA X (e :: es) (tDA X.K g)) (hbase : attributeBase a name X.env (eval a X.env) = eval a X.env := by rfl)
    (hfew : ((backTo cpos (starEach (e :: es) X.env)).all (fun x => !x.1) && (backToKw cpos (keywordEach [] X.env)).all (fun x => x.1.isSome)
      && decide ((e :: es).length + ([] : List Keyword).length + (if ([] : List Keyword).isEmpty then 0 else 1) < 30)) = true := by rfl)
    (hline : (apos.endLine == cpos.line) = true := by rfl) (hs : starEach (e :: es) X.env = (false, eval e X.env) :: starEach es X.env := by rfl) (hplain : (backTo cpos (starEach es X.env)).any (·.1) = false := by rfl) :
    PE X (.Call (.Attribute a name apos) (e :: es) [] cpos) (tD X.K (dM o f g)) :=
  pe_w (pe_bm pa slot hty hm ho ha hbase hfew hline hs hplain) fun σ H Q ⟨BV, B, V, ρ, z, E, hz, q⟩ => by
    obtain ⟨d, ds, hf, hg, ho⟩ := dM_some hz
    exact ⟨BV, B, V, ρ, d, E, hf, fun x V1 H1 G1 D1 => ⟨ty_of D1 G1.sub (hT _ _ _ ho), BV, B, V1, ρ, ds, E.grow G1, hg, fun xs V2 H2 G2 D2 =>
      h V2 H2 x xs d ds z Q G2.sub (dp_mono G2.v D1) D2 ho fun v V3 H3 G3 D3 => q v V3 H3 (G1.trans (G2.trans G3)) D3⟩⟩

/-! ### tests -/
def bOf (f : DE) : DB := fun ρ => match f ρ with
  | some (.bool b) => some b
  | _ => none
theorem bOf_some {f : DE} {ρ : List Sl} {b : Bool} (h : bOf f ρ = some b) : f ρ = some (.bool b) := by
  unfold bOf at h
  split at h
  · rename_i c e; cases h; exact e
  · cases h
theorem tB_of {K : PySem.W.Frag} {f : DE} (σ : L2.St) (H : Hp) (Q : Bool → Hp → Prop) (t : tDT K (bOf f) σ H Q) : tB (tD K f) σ H Q := by
  obtain ⟨BV, B, V, ρ, b, E, hb, q⟩ := t
  refine ⟨BV, B, V, ρ, _, E, bOf_some hb, fun v V' H' g d => ?_⟩
  cases d
  exact ⟨b, rfl, q V' H' g⟩
theorem dt_val {f : DE} (h : PE X e (tD X.K f)) (he : ∀ whole, isTrue e X.env whole = (do let v ← whole; standAt e.pos; holding [v] (truthy v)) := by intro _; rfl) : PT X e (tDT X.K (bOf f)) := pt_w (pt_val h he) tB_of
theorem dt_cmp {op : CmpOp} {r : R2} {o : PyData → PyData → Option PyData} {f g : DE} (ho : OpR X (compareOp op) r) (h : OpD X.K r o) (ha : PE X a (tD X.K f)) (hb : PE X b (tD X.K g)) (hm : behindInMarks op b = false) : PT X (.Compare a [op] [b] pos) (tDT X.K (bOf (d2 o f g))) :=
  pt_w (pt_cmpR ho ha hb hm) fun σ H Q t => by
    obtain ⟨BV, B, V, ρ, c, E, hb, q⟩ := t
    exact tOp_of h σ H _ ⟨BV, B, V, ρ, _, E, bOf_some hb, fun v V' H' g d => by cases d; exact ⟨c, rfl, q V' H' g⟩⟩
def bAnd (f g : DB) : DB := fun ρ => (f ρ).bind fun x => if x = true then g ρ else some false
def bOr (f g : DB) : DB := fun ρ => (f ρ).bind fun x => if x = true then some true else g ρ
def bNot (f : DB) : DB := fun ρ => (f ρ).map (!·)
def tAnd_of {K : PySem.W.Frag} {f g : DB} (σ : L2.St) (H : Hp) (Q : Bool → Hp → Prop) (t : tDT K (bAnd f g) σ H Q) : tAnd (tDT K f) (tDT K g) σ H Q := by
  obtain ⟨BV, B, V, ρ, b, E, hb, q⟩ := t
  unfold bAnd at hb
  cases h1 : f ρ with
  | none => rw [h1] at hb; cases hb
  | some x =>
    rw [h1] at hb
    refine ⟨BV, B, V, ρ, x, E, h1, fun V' H' g1 => ?_⟩
    cases x with
    | true => exact ⟨BV, B, V', ρ, b, E.grow g1, hb, fun V2 H2 g2 => q V2 H2 (g1.trans g2)⟩
    | false => cases hb; exact q V' H' g1
def tOr_of {K : PySem.W.Frag} {f g : DB} (σ : L2.St) (H : Hp) (Q : Bool → Hp → Prop) (t : tDT K (bOr f g) σ H Q) : tOr (tDT K f) (tDT K g) σ H Q := by
  obtain ⟨BV, B, V, ρ, b, E, hb, q⟩ := t
  unfold bOr at hb
  cases h1 : f ρ with
  | none => rw [h1] at hb; cases hb
  | some x =>
    rw [h1] at hb
    refine ⟨BV, B, V, ρ, x, E, h1, fun V' H' g1 => ?_⟩
    cases x with
    | true => cases hb; exact q V' H' g1
    | false => exact ⟨BV, B, V', ρ, b, E.grow g1, hb, fun V2 H2 g2 => q V2 H2 (g1.trans g2)⟩
theorem pw_w {t t' : TT} (h : PW X e t) (i : ∀ σ H Q, t' σ H Q → t σ H Q) : PW X e t' := ⟨fun wh pins s σ H Q I q => h.run wh pins s σ H Q I (i _ _ _ q)⟩
variable {rest : List Expr}
theorem dw_and1 {f : DB} (h : PT X a (tDT X.K f)) : PW X (.BoolOp .And [a] pos) (tDT X.K f) := pw_and1 h
theorem dw_or1 {f : DB} (h : PT X a (tDT X.K f)) : PW X (.BoolOp .Or [a] pos) (tDT X.K f) := pw_or1 h
theorem dw_and {f g : DB} (ha : PT X a (tDT X.K f)) (hb : PW X (.BoolOp .And (b :: rest) pos) (tDT X.K g)) : PW X (.BoolOp .And (a :: b :: rest) pos) (tDT X.K (bAnd f g)) := pw_w (pw_and ha hb) tAnd_of
theorem dw_or {f g : DB} (ha : PT X a (tDT X.K f)) (hb : PW X (.BoolOp .Or (b :: rest) pos) (tDT X.K g)) : PW X (.BoolOp .Or (a :: b :: rest) pos) (tDT X.K (bOr f g)) := pw_w (pw_or ha hb) tOr_of
theorem dt_not {f : DB} (h : PT X a (tDT X.K f)) : PT X (.UnaryOp .Not a pos) (tDT X.K (bNot f)) := pt_w (pt_not h) fun σ H Q ⟨BV, B, V, ρ, b, E, hb, q⟩ => by
  unfold bNot at hb
  cases h1 : f ρ with
  | none => rw [h1] at hb; cases hb
  | some x => rw [h1] at hb; cases hb; exact ⟨BV, B, V, ρ, x, E, h1, q⟩
/-- as values -/
def vAnd (f g : DE) : DE := fun ρ => (bOf f ρ).bind fun x => if x = true then g ρ else some (.bool false)
def vOr (f g : DE) : DE := fun ρ => (bOf f ρ).bind fun x => if x = true then some (.bool true) else g ρ
def vNot (f : DE) : DE := fun ρ => (bOf f ρ).map fun x => .bool (!x)
theorem de_one {op} {f : DE} (h : PE X a (tD X.K f)) : PE X (.BoolOp op [a] pos) (tD X.K f) := pe_one h
theorem de_and {f g : DE} (ha : PE X a (tD X.K f)) (hb : PE X (.BoolOp .And (b :: rest) pos) (tD X.K g)) : PE X (.BoolOp .And (a :: b :: rest) pos) (tD X.K (vAnd f g)) :=
  pe_w (pe_and ha hb) fun σ H Q ⟨BV, B, V, ρ, z, E, hz, q⟩ => by
    unfold vAnd at hz
    cases h1 : bOf f ρ with
    | none => rw [h1] at hz; cases hz
    | some x =>
      rw [h1] at hz
      refine ⟨BV, B, V, ρ, _, E, bOf_some h1, fun v V' H' g1 d1 => ?_⟩
      cases d1
      refine ⟨x, rfl, ?_⟩
      cases x with
      | true => exact ⟨BV, B, V', ρ, z, E.grow g1, hz, fun v V2 H2 g2 d2 => q v V2 H2 (g1.trans g2) d2⟩
      | false => cases hz; exact q _ V' H' g1 (.bl _)
theorem de_or {f g : DE} (ha : PE X a (tD X.K f)) (hb : PE X (.BoolOp .Or (b :: rest) pos) (tD X.K g)) : PE X (.BoolOp .Or (a :: b :: rest) pos) (tD X.K (vOr f g)) :=
  pe_w (pe_or ha hb) fun σ H Q ⟨BV, B, V, ρ, z, E, hz, q⟩ => by
    unfold vOr at hz
    cases h1 : bOf f ρ with
    | none => rw [h1] at hz; cases hz
    | some x =>
      rw [h1] at hz
      refine ⟨BV, B, V, ρ, _, E, bOf_some h1, fun v V' H' g1 d1 => ?_⟩
      cases d1
      refine ⟨x, rfl, ?_⟩
      cases x with
      | false => exact ⟨BV, B, V', ρ, z, E.grow g1, hz, fun v V2 H2 g2 d2 => q v V2 H2 (g1.trans g2) d2⟩
      | true => cases hz; exact q _ V' H' g1 (.bl _)
theorem de_not {f : DE} (ha : PE X a (tD X.K f)) : PE X (.UnaryOp .Not a pos) (tD X.K (vNot f)) :=
  pe_w (pe_not ha) fun σ H Q ⟨BV, B, V, ρ, z, E, hz, q⟩ => by
    unfold vNot at hz
    cases h1 : bOf f ρ with
    | none => rw [h1] at hz; cases hz
    | some x =>
      rw [h1] at hz; cases hz
      refine ⟨BV, B, V, ρ, _, E, bOf_some h1, fun v V' H' g1 d1 => ?_⟩
      cases d1
      exact ⟨x, rfl, q _ V' H' g1 (.bl _)⟩
def dIf (t : DB) (f g : DE) : DE := fun ρ => (t ρ).bind fun x => if x = true then f ρ else g ρ
theorem de_if {c : Expr} {t : DB} {f g : DE} (hc : PT X c (tDT X.K t)) (ha : PE X a (tD X.K f)) (hb : PE X b (tD X.K g)) : PE X (.IfExp c a b pos) (tD X.K (dIf t f g)) :=
  pe_w (pe_ifExp hc ha hb) fun σ H Q ⟨BV, B, V, ρ, z, E, hz, q⟩ => by
    unfold dIf at hz
    cases h1 : t ρ with
    | none => rw [h1] at hz; cases hz
    | some x =>
      rw [h1] at hz
      refine ⟨BV, B, V, ρ, x, E, h1, fun V' H' g1 => ?_⟩
      cases x with
      | true => exact ⟨BV, B, V', ρ, z, E.grow g1, hz, fun v V2 H2 g2 d2 => q v V2 H2 (g1.trans g2) d2⟩
      | false => exact ⟨BV, B, V', ρ, z, E.grow g1, hz, fun v V2 H2 g2 d2 => q v V2 H2 (g1.trans g2) d2⟩
end
end DL

namespace DL
open PySem PySem.Spec PyProof.Rows L2

/-! ### statements by data -/
inductive Fl where
  | nx (ρ : List Sl)
  | rt (d : PyData)
  | bk (ρ : List Sl)
  | ct (ρ : List Sl)
abbrev DS := List Sl → Option Fl
def FlOk (K : PySem.W.Frag) (BV B : Hp) (D : Ends) : Fl → Prop
  | .nx ρ' => ∀ σ' V' H', EnvD K BV B V' H' σ' ρ' → D.nx σ' H'
  | .rt d => ∀ v V' H', Gr BV B V' H' → Dq K V' v d → D.rt v H'
  | .bk ρ' => ∀ σ' V' H', EnvD K BV B V' H' σ' ρ' → D.bk σ' H'
  | .ct ρ' => ∀ σ' V' H', EnvD K BV B V' H' σ' ρ' → D.ct σ' H'
def sD (K : PySem.W.Frag) (F : DS) : TS := fun D σ H => ∃ BV B V ρ r, EnvD K BV B V H σ ρ ∧ F ρ = some r ∧ FlOk K BV B D r
section
variable {X : Cx} {e a b : Expr} {es : List Expr} {pos : Pos} {st : Stmt} {rest : List Stmt}
/-- what is not served -/
def sNo : DS := fun _ => none
theorem ds_no : PS X st (sD X.K sNo) := ⟨fun _ _ _ _ _ _ ⟨_, _, _, _, _, _, h, _⟩ => by cases h⟩
def sSkip : DS := fun ρ => some (.nx ρ)
def sSeq (F G : DS) : DS := fun ρ => (F ρ).bind fun r => match r with
  | .nx ρ' => G ρ'
  | r => some r
theorem dss_nil : PSs X [] (sD X.K sSkip) := pss_w pss_nil fun D σ H ⟨BV, B, V, ρ, r, E, h, q⟩ => by
  cases h
  exact q σ V H E
theorem dss_cons {F G : DS} (h1 : PS X st (sD X.K F)) (h2 : PSs X rest (sD X.K G)) : PSs X (st :: rest) (sD X.K (sSeq F G)) := pss_w (pss_cons h1 h2) fun D σ H ⟨BV, B, V, ρ, r, E, h, q⟩ => by
  unfold sSeq at h
  cases h1 : F ρ with
  | none => rw [h1] at h; cases h
  | some x =>
    rw [h1] at h
    refine ⟨BV, B, V, ρ, x, E, h1, ?_⟩
    cases x with
    | nx ρ' => exact fun σ' V' H' E' => ⟨BV, B, V', ρ', r, E', h, q⟩
    | rt d => cases h; exact q
    | bk d => cases h; exact q
    | ct d => cases h; exact q
theorem dss_one {F : DS} (h1 : PS X st (sD X.K F)) : PSs X [st] (sD X.K F) := pss_one h1
/-- an expression alone -/
def sExpr (f : DE) : DS := fun ρ => (f ρ).map fun _ => .nx ρ
theorem ds_expr {f : DE} (h : PE X e (tD X.K f)) (hs : swapsWith e none pos.line X.env = pure false := by rfl) : PS X (.Expr e pos) (sD X.K (sExpr f)) := ps_w (ps_expr h hs) fun D σ H ⟨BV, B, V, ρ, r, E, h, q⟩ => by
  unfold sExpr at h
  cases h1 : f ρ with
  | none => rw [h1] at h; cases h
  | some x => rw [h1] at h; cases h; exact ⟨BV, B, V, ρ, x, E, h1, fun v V' H' g d => q σ V' H' (E.grow g)⟩
def sRet (f : DE) : DS := fun ρ => (f ρ).map .rt
theorem ds_ret {f : DE} (h : PE X e (tD X.K f)) : PS X (.Return (some e) pos) (sD X.K (sRet f)) := ps_w (ps_ret h) fun D σ H ⟨BV, B, V, ρ, r, E, h, q⟩ => by
  unfold sRet at h
  cases h1 : f ρ with
  | none => rw [h1] at h; cases h
  | some x => rw [h1] at h; cases h; exact ⟨BV, B, V, ρ, x, E, h1, fun v V' H' g d => q v V' H' (E.gr.trans g) d⟩
def sIf (t : DB) (F G : DS) : DS := fun ρ => (t ρ).bind fun x => if x = true then F ρ else G ρ
theorem ds_if {t : DB} {F G : DS} {st1 st2 : List Stmt} (ht : PT X e (tDT X.K t)) (h1 : PSs X st1 (sD X.K F)) (h2 : PSs X st2 (sD X.K G)) : PS X (.If e st1 st2 pos) (sD X.K (sIf t F G)) := ps_w (ps_if ht h1 h2) fun D σ H ⟨BV, B, V, ρ, r, E, h, q⟩ => by
  unfold sIf at h
  cases h1 : t ρ with
  | none => rw [h1] at h; cases h
  | some x =>
    rw [h1] at h
    refine ⟨BV, B, V, ρ, x, E, h1, fun V' H' g => ?_⟩
    cases x with
    | true => exact ⟨BV, B, V', ρ, r, E.grow g, h, q⟩
    | false => exact ⟨BV, B, V', ρ, r, E.grow g, h, q⟩
def sSet (i : Nat) (f : DE) : DS := fun ρ => (f ρ).map fun d => .nx (ρ.set i (.d d))
theorem tAsg_of {K : PySem.W.Frag} {i : Nat} {f : DE} (D : Ends) (σ : L2.St) (H : Hp) (t : sD K (sSet i f) D σ H) : tAsg (tD K f) (gName i) D σ H := by
  obtain ⟨BV, B, V, ρ, r, E, h, q⟩ := t
  unfold sSet at h
  cases h1 : f ρ with
  | none => rw [h1] at h; cases h
  | some x => rw [h1] at h; cases h; exact ⟨BV, B, V, ρ, x, E, h1, fun v V' H' g d => q _ V' H' ((E.grow g).set d i)⟩
theorem ds_set {i : Nat} {x : Str} {f : DE} {pos' : Pos} (hN : X.N.Nodup) (hi : X.N[i]? = some x) (hx : Loc X.env.scope x) (he : PE X e (tD X.K f)) (hs : swapsWith e (some (.Name x pos')) pos.line X.env = pure false := by rfl) (hf : X.fn x = true ∨ X.env.scope.names.lookup x = some .local := by first | exact .inl rfl | exact .inr rfl | assumption) :
    PS X (.Assign [.Name x pos'] e pos) (sD X.K (sSet i f)) := ps_w (ps_set hN hi hx he hs hf) tAsg_of
/-- an own slot -/
theorem getN {α : Type} {l : List α} {i : Nat} {x : α} (h : l[i]? = some x) : i < l.length := by
  rcases Nat.lt_or_ge i l.length with z | z
  · exact z
  · rw [List.getElem?_eq_none z] at h; cases h
theorem get_set {α : Type} {l : List α} {i j : Nat} {x y : α} (h : (l.set i x)[j]? = some y) : (i = j ∧ i < l.length ∧ y = x) ∨ (i ≠ j ∧ l[j]? = some y) := by
  by_cases q : i = j
  · subst q
    have hl := getN h
    rw [List.length_set] at hl
    rw [List.getElem?_set_self hl] at h
    cases h
    exact .inl ⟨rfl, hl, rfl⟩
  · rw [List.getElem?_set_ne q] at h; exact .inr ⟨q, h⟩
theorem EnvD.lt {K : PySem.W.Frag} {BV B V H : Hp} {σ : L2.St} {ρ : List Sl} (E : EnvD K BV B V H σ ρ) {i : Nat} (h : i < ρ.length) : i < σ.length := by
  obtain ⟨o, h1, _⟩ := E.sl i _ (List.getElem?_eq_getElem h)
  exact getN h1
/-- a slot becomes an own list; new: no other slot owns it -/
theorem EnvD.setOwn {K : PySem.W.Frag} {BV B V H : Hp} {σ : L2.St} {ρ : List Sl} {p : Addr} {vs : List L2.V} {ds : List PyData} (E : EnvD K BV B V H σ ρ) (h1 : H p = some (.lst vs)) (h2 : V p = none) (h3 : B p = none) (h4 : DqAll K V vs ds)
    (i : Nat) (hn : ∀ (j : Nat) ys, j ≠ i → ρ[j]? = some (.own ys) → σ[j]? ≠ some (some (.ref p))) : EnvD K BV B V H (σ.set i (some (.ref p))) (ρ.set i (.own ds)) := by
  refine ⟨fun j s e => ?_, E.gr, fun j k xs ys n e1 e2 => ?_⟩
  · rcases get_set e with ⟨rfl, hl, rfl⟩ | ⟨q, e⟩
    · exact ⟨_, List.getElem?_set_self (E.lt hl), p, vs, rfl, h1, h2, h3, h4⟩
    · obtain ⟨o, q1, q2⟩ := E.sl j s e
      exact ⟨o, by rw [List.getElem?_set_ne q]; exact q1, q2⟩
  · rcases get_set e1 with ⟨rfl, hl, e1'⟩ | ⟨q, e1⟩
    · rcases get_set e2 with ⟨z, _, _⟩ | ⟨q, e2⟩
      · exact absurd z n
      · rw [List.getElem?_set_self (E.lt hl), List.getElem?_set_ne q]
        exact fun z => hn k ys (Ne.symm q) e2 z.symm
    · rcases get_set e2 with ⟨rfl, hl, _⟩ | ⟨q', e2⟩
      · rw [List.getElem?_set_self (E.lt hl), List.getElem?_set_ne q]
        exact hn j xs (Ne.symm q) e1
      · rw [List.getElem?_set_ne q, List.getElem?_set_ne q']
        exact E.ap j k xs ys n e1 e2
theorem EnvD.notNew {K : PySem.W.Frag} {BV B V H : Hp} {σ : L2.St} {ρ : List Sl} (E : EnvD K BV B V H σ ρ) {p : Addr} (n : H p = none) (j : Nat) (ys : List PyData) (h : ρ[j]? = some (.own ys)) : σ[j]? ≠ some (some (.ref p)) := fun z => by
  obtain ⟨o, q1, q2⟩ := E.sl j _ h
  rw [z] at q1; cases q1
  obtain ⟨q, vs, e, h1, _⟩ := q2
  cases e
  rw [n] at h1; cases h1
def sOwn (i : Nat) (f : DA) : DS := fun ρ => (f ρ).map fun d => .nx (ρ.set i (.own d))
theorem ds_own {i : Nat} {x : Str} {f : DA} {pos' : Pos} (hN : X.N.Nodup) (hi : X.N[i]? = some x) (hx : Loc X.env.scope x) (he : PE X e (tN X.K f)) (hs : swapsWith e (some (.Name x pos')) pos.line X.env = pure false := by rfl) (hf : X.fn x = true ∨ X.env.scope.names.lookup x = some .local := by first | exact .inl rfl | exact .inr rfl | assumption) :
    PS X (.Assign [.Name x pos'] e pos) (sD X.K (sOwn i f)) := ps_w (ps_set hN hi hx he hs hf) fun D σ H ⟨BV, B, V, ρ, r, E, h, q⟩ => by
  unfold sOwn at h
  cases h1 : f ρ with
  | none => rw [h1] at h; cases h
  | some x => rw [h1] at h; cases h; exact ⟨BV, B, V, ρ, x, E, h1, fun p vs V' H' g n hv h' da => q _ V' H' ((E.grow g).setOwn h' hv (E.gr.h.back n) da i fun j ys _ h => E.notNew n j ys h)⟩
/-- freezing a slot -/
def freeze (i : Nat) (ρ : List Sl) : List Sl := match ρ[i]? with
  | some (.own xs) => ρ.set i (.d (.list xs))
  | _ => ρ
theorem EnvD.freeze {K : PySem.W.Frag} {BV B V H : Hp} {σ : L2.St} {ρ : List Sl} (E : EnvD K BV B V H σ ρ) (i : Nat) : ∃ V', EnvD K BV B V' H σ (freeze i ρ) := by
  unfold DL.freeze
  split
  · rename_i xs e
    obtain ⟨o, q1, q2⟩ := E.sl i _ e
    cases o with
    | none => exact q2.elim
    | some v =>
      obtain ⟨p, vs, rfl, h1, h2, h3, h4⟩ := q2
      have hx : Ex V (upd V p (.lst vs)) := Ex.new h2
      refine ⟨upd V p (.lst vs), fun j s es => ?_, ⟨E.gr.v.trans hx, E.gr.h, ?_, ?_⟩, fun j k ys zs n e1 e2 => ?_⟩
      · rcases get_set es with ⟨rfl, hl, rfl⟩ | ⟨q, es⟩
        · exact ⟨_, q1, .lst (.inl upd_same) (da_mono hx h4)⟩
        · obtain ⟨o, r1, r2⟩ := E.sl j s es
          refine ⟨o, r1, ?_⟩
          cases s with
          | un => cases o <;> trivial
          | d x =>
            cases o with
            | none => exact r2
            | some v => exact dp_mono hx r2
          | own ys =>
            cases o with
            | none => exact r2
            | some v =>
              obtain ⟨p', vs', rfl, k1, k2, k3, k4⟩ := r2
              have np : p' ≠ p := fun z => by
                subst z
                exact E.ap i j xs ys q e es (q1.trans r1.symm)
              exact ⟨p', vs', rfl, k1, by rw [upd_ne np]; exact k2, k3, da_mono hx k4⟩
      · intro a u z
        by_cases q : a = p
        · subst q; rw [upd_same] at z; cases z; exact h1
        · rw [upd_ne q] at z; exact E.sub a u z
      · intro a z1 z2
        rw [upd_ne (show a ≠ p from fun z => z2 (by rw [z]; exact h3))]
        exact E.gr.nw a z1 z2
      · rcases get_set e1 with ⟨_, _, z⟩ | ⟨_, e1⟩
        · cases z
        · rcases get_set e2 with ⟨_, _, z⟩ | ⟨_, e2⟩
          · cases z
          · exact E.ap j k ys zs n e1 e2
  · exact ⟨V, E⟩
def sFr (i : Nat) (F : DS) : DS := fun ρ => F (freeze i ρ)
theorem ds_fr (i : Nat) {F : DS} (h : PS X st (sD X.K F)) : PS X st (sD X.K (sFr i F)) := ps_w h fun D σ H ⟨BV, B, V, ρ, r, E, h, q⟩ => by
  obtain ⟨V', E'⟩ := E.freeze i
  exact ⟨BV, B, V', _, r, E', h, q⟩
theorem dss_fr (i : Nat) {F : DS} (h : PSs X rest (sD X.K F)) : PSs X rest (sD X.K (sFr i F)) := pss_w h fun D σ H ⟨BV, B, V, ρ, r, E, h, q⟩ => by
  obtain ⟨V', E'⟩ := E.freeze i
  exact ⟨BV, B, V', _, r, E', h, q⟩
/-- forgetting a slot -/
def sUn (i : Nat) (F : DS) : DS := fun ρ => F (ρ.set i .un)
/-- the own list changes -/
theorem EnvD.write {K : PySem.W.Frag} {BV B V H : Hp} {σ : L2.St} {ρ : List Sl} {i : Nat} {xs ds : List PyData} {p : Addr} {vs us : List L2.V} (E : EnvD K BV B V H σ ρ) (e : ρ[i]? = some (.own xs)) (es : σ[i]? = some (some (.ref p))) (h4 : DqAll K V us ds) :
    EnvD K BV B V (upd H p (.lst us)) σ (ρ.set i (.own ds)) := by
  obtain ⟨o, q1, q2⟩ := E.sl i _ e
  rw [es] at q1; cases q1
  obtain ⟨p', vs', e', h1, h2, h3, _⟩ := q2
  cases e'
  have np : ∀ a u, V a = some u → a ≠ p := fun a u z w => by subst w; rw [h2] at z; cases z
  refine ⟨fun j s z => ?_, ⟨E.gr.v, fun a u z => ?_, fun a u z => ?_, E.gr.nw⟩, fun j k ys zs n e1 e2 => ?_⟩
  · rcases get_set z with ⟨rfl, hl, rfl⟩ | ⟨q, z⟩
    · exact ⟨_, es, p, us, rfl, upd_same, h2, h3, h4⟩
    · obtain ⟨o, r1, r2⟩ := E.sl j s z
      refine ⟨o, r1, ?_⟩
      cases s with
      | un => cases o <;> trivial
      | d x => cases o <;> exact r2
      | own ys =>
        cases o with
        | none => exact r2
        | some v =>
          obtain ⟨p', vs', rfl, k1, k2, k3, k4⟩ := r2
          have np : p' ≠ p := fun w => by
            subst w
            exact E.ap i j xs ys q e z (es.trans r1.symm)
          exact ⟨p', vs', rfl, by rw [upd_ne np]; exact k1, k2, k3, k4⟩
  · have : a ≠ p := fun w => by subst w; rw [h3] at z; cases z
    rw [upd_ne this]; exact E.gr.h a u z
  · rw [upd_ne (np a u z)]; exact E.sub a u z
  · have f : ∀ (j : Nat) ys, (ρ.set i (Sl.own ds))[j]? = some (.own ys) → ∃ ys', ρ[j]? = some (.own ys') := fun j ys h => by
      rcases get_set h with ⟨rfl, _, _⟩ | ⟨_, h⟩
      · exact ⟨xs, e⟩
      · exact ⟨ys, h⟩
    obtain ⟨y1, f1⟩ := f j ys e1
    obtain ⟨y2, f2⟩ := f k zs e2
    exact E.ap j k y1 y2 n f1 f2
def ownAt (i : Nat) (ρ : List Sl) : Option (List PyData) := match ρ[i]? with
  | some (.own xs) => some xs
  | _ => none
theorem ownAt_some {i : Nat} {ρ : List Sl} {xs : List PyData} (h : ownAt i ρ = some xs) : ρ[i]? = some (.own xs) := by
  unfold ownAt at h
  split at h
  · rename_i e; cases h; exact e
  · cases h
theorem own_val {K : PySem.W.Frag} {BV B V H : Hp} {σ : L2.St} {ρ : List Sl} {i : Nat} {xs : List PyData} (E : EnvD K BV B V H σ ρ) (e : ρ[i]? = some (.own xs)) : ∃ p vs, σ[i]? = some (some (.ref p)) ∧ H p = some (.lst vs) ∧ V p = none ∧ DqAll K V vs xs := by
  obtain ⟨o, q1, q2⟩ := E.sl i _ e
  cases o with
  | none => exact q2.elim
  | some v =>
    obtain ⟨p, vs, rfl, h1, h2, h3, h4⟩ := q2
    exact ⟨p, vs, q1, h1, h2, h4⟩
/-- x.append(e), x own -/
def sApp (i : Nat) (f : DE) : DS := fun ρ => (ownAt i ρ).bind fun xs => (f ρ).bind fun d => if xs.length < 100000 then some (.nx (ρ.set i (.own (xs ++ [d])))) else none
theorem ds_app {i : Nat} {f : DE} {o : Expr} {apos cpos : Pos} (ho : PE X o (tVar i)) (he : PE X e (tD X.K f)) (hbase : attributeBase o "append" X.env (eval o X.env) = eval o X.env := by rfl)
    (hfew : ((backTo cpos (starEach [e] X.env)).all (fun x => !x.1) && (backToKw cpos (keywordEach [] X.env)).all (fun x => x.1.isSome)
      && decide (([e] : List Expr).length + ([] : List Keyword).length + (if ([] : List Keyword).isEmpty then 0 else 1) < 30)) = true := by rfl)
    (hline : (apos.endLine == cpos.line) = true := by rfl) (hs : starEach [e] X.env = [(false, eval e X.env)] := by rfl) :
    PS X (.Expr (.Call (.Attribute o "append" apos) [e] [] cpos) pos) (sD X.K (sApp i f)) :=
  ps_w (ps_expr (pe_bm PySem.F.plainAttrs_list PySem.F.slot_list_append PySem.F.type_list_append mt_append ho (pa_cons he pa_nil hs) hbase hfew hline hs rfl)) fun D σ H ⟨BV, B, V, ρ, r, E, h, q⟩ => by
    unfold sApp at h
    cases h1 : ownAt i ρ with
    | none => rw [h1] at h; cases h
    | some xs =>
      cases h2 : f ρ with
      | none => rw [h1, h2] at h; cases h
      | some d =>
        rw [h1, h2] at h
        by_cases hz : xs.length < 100000
        · simp [hz] at h
          subst h
          obtain ⟨p, vs, es, k1, k2, k4⟩ := own_val E (ownAt_some h1)
          refine ⟨.ref p, es, .inl ⟨rfl, _, .inl (.inl k1)⟩, BV, B, V, ρ, d, E, h2, fun v V' H' g dd => ?_⟩
          have k1' := g.h _ _ k1
          refine ⟨p, vs, v, rfl, rfl, k1', by rw [da_len k4]; exact line_lt hz, ?_⟩
          exact q σ V' _ ((E.grow g).write (vs := vs) (ownAt_some h1) es (da_app (da_mono g.v k4) (.cons dd .nil)))
        · simp [hz] at h
end
end DL

namespace DL
open PySem PySem.Spec PyProof.Rows L2

/-! ### targets -/
/-- only the slots is differ -/
def Only (is : List Nat) (σ σ' : L2.St) : Prop := σ'.length = σ.length ∧ ∀ j, j ∉ is → σ'[j]? = σ[j]?
theorem Only.refl {is : List Nat} {σ : L2.St} : Only is σ σ := ⟨rfl, fun _ _ => rfl⟩
theorem Only.set {σ : L2.St} {i : Nat} {o : Option L2.V} : Only [i] σ (σ.set i o) := ⟨List.length_set, fun j h => by
  rw [List.getElem?_set_ne (fun z => h (by simp [z]))]⟩
theorem Only.mono {is js : List Nat} {σ σ' : L2.St} (h : Only is σ σ') (s : ∀ i ∈ is, i ∈ js) : Only js σ σ' := ⟨h.1, fun j n => h.2 j fun z => n (s j z)⟩
theorem Only.trans {is : List Nat} {σ σ1 σ2 : L2.St} (a : Only is σ σ1) (b : Only is σ1 σ2) : Only is σ σ2 := ⟨b.1.trans a.1, fun j n => (b.2 j n).trans (a.2 j n)⟩
theorem wipe_in {σ : L2.St} : ∀ {vs : List Nat} {j : Nat}, j ∈ vs → j < σ.length → (wipe σ vs)[j]? = some none
  | v :: vs, j, h, hl => by
    unfold wipe
    by_cases q : v = j
    · subst q
      rw [List.getElem?_set_self (by rw [wipe_length]; exact hl)]
    · rw [List.getElem?_set_ne q]
      rcases List.mem_cons.mp h with z | z
      · exact absurd z.symm q
      · exact wipe_in z hl
theorem wipe_out {σ : L2.St} : ∀ {vs : List Nat} {j : Nat}, j ∉ vs → (wipe σ vs)[j]? = σ[j]?
  | [], _, _ => rfl
  | v :: vs, j, h => by
    unfold wipe
    rw [List.getElem?_set_ne (fun z => h (by simp [z]))]
    exact wipe_out fun z => h (List.mem_cons_of_mem _ z)
theorem Only.wipe {is vs : List Nat} {σ σ' : L2.St} (h : Only is σ σ') (s : ∀ i ∈ is, i ∈ vs) : wipe σ' vs = wipe σ vs := by
  apply List.ext_getElem?
  intro j
  by_cases q : j ∈ vs
  · by_cases l : j < σ.length
    · rw [wipe_in q l, wipe_in q (by rw [h.1]; exact l)]
    · rw [List.getElem?_eq_none (by rw [wipe_length, h.1]; omega), List.getElem?_eq_none (by rw [wipe_length]; omega)]
  · rw [wipe_out q, wipe_out q, h.2 j fun z => q (s j z)]
abbrev DG := PyData → List Sl → Option (List Sl)
def gD (K : PySem.W.Frag) (is : List Nat) (g : DG) : TG := fun v σ H Q => ∃ BV B V ρ d ρ', EnvD K BV B V H σ ρ ∧ Dq K V v d ∧ g d ρ = some ρ' ∧ ∀ σ' V', Gr V H V' H → EnvD K BV B V' H σ' ρ' → Only is σ σ' → Q σ' H
abbrev DGs := List PyData → List Sl → Option (List Sl)
def gsD (K : PySem.W.Frag) (is : List Nat) (g : DGs) : TGs := fun vs σ H Q => ∃ BV B V ρ ds ρ', EnvD K BV B V H σ ρ ∧ DqAll K V vs ds ∧ g ds ρ = some ρ' ∧ ∀ σ' V', Gr V H V' H → EnvD K BV B V' H σ' ρ' → Only is σ σ' → Q σ' H
section
variable {X : Cx} {e a b : Expr} {es : List Expr} {pos : Pos} {st : Stmt} {rest : List Stmt}
def gN (i : Nat) : DG := fun d ρ => some (ρ.set i (.d d))
theorem dg_name {i : Nat} {x : Str} (hN : X.N.Nodup) (hi : X.N[i]? = some x) (hx : Loc X.env.scope x) (hf : X.fn x = true ∨ X.env.scope.names.lookup x = some .local := by first | exact .inl rfl | exact .inr rfl | assumption) : PG X (.Name x pos) (gD X.K [i] (gN i)) :=
  pg_w (pg_name hN hi hx hf) fun v σ H Q ⟨BV, B, V, ρ, d, ρ', E, dd, h, q⟩ => by
    cases h
    exact q _ V (.refl E.sub) (E.set dd i) Only.set
def gsNil : DGs := fun ds ρ => match ds with
  | [] => some ρ
  | _ => none
def gsCons (g : DG) (r : DGs) : DGs := fun ds ρ => match ds with
  | d :: ds => (g d ρ).bind fun ρ' => r ds ρ'
  | [] => none
theorem pgs_w {ts : List Expr} {t t' : TGs} (h : PGs X ts t) (i : ∀ v σ H Q, t' v σ H Q → t v σ H Q) : PGs X ts t' := ⟨fun pins s σ H v u Q I r q => h.run pins s σ H v u Q I r (i _ _ _ _ q)⟩
theorem dgs_nil {is : List Nat} : PGs X [] (gsD X.K is gsNil) := pgs_w pgs_nil fun v σ H Q ⟨BV, B, V, ρ, d, ρ', E, dd, h, q⟩ => by
  cases d with
  | cons _ _ => cases h
  | nil => cases h; cases dd; exact ⟨rfl, q σ V (.refl E.sub) E .refl⟩
theorem dgs_cons {is js : List Nat} {g : DG} {r : DGs} (h1 : PG X e (gD X.K is g)) (h2 : PGs X es (gsD X.K js r)) (hs : (assignEach (e :: es) X.env).map (·.2) = assign e X.env :: (assignEach es X.env).map (·.2) := by rfl) : PGs X (e :: es) (gsD X.K (is ++ js) (gsCons g r)) :=
  pgs_w (pgs_cons h1 h2 hs) fun v σ H Q ⟨BV, B, V, ρ, d, ρ', E, dd, h, q⟩ => by
    cases d with
    | nil => cases h
    | cons d ds =>
      cases dd with
      | cons d1 dr =>
        unfold gsCons at h
        cases k : g d ρ with
        | none => simp [k] at h
        | some ρ1 =>
          simp [k] at h
          refine ⟨_, _, rfl, BV, B, V, ρ, d, ρ1, E, d1, k, fun σ1 V1 G1 E1 o1 => ⟨BV, B, V1, ρ1, ds, ρ', E1, da_mono G1.v dr, h, fun σ2 V2 G2 E2 o2 => ?_⟩⟩
          exact q σ2 V2 (G1.trans G2) E2 ((o1.mono fun i h => List.mem_append_left _ h).trans (o2.mono fun i h => List.mem_append_right _ h))
def gT (n : Nat) (r : DGs) : DG := fun d ρ => match d with
  | .tuple ds => if ds.length = n then r ds ρ else none
  | _ => none
theorem dg_tup {is : List Nat} {k : Nat} {r : DGs} {n : Nat} (hc : X.calm = true) (h : PGs X es (gsD X.K is r)) (hn : (assignEach es X.env).length = n := by rfl) (hst : (assignEach es X.env).findIdx? (·.1) = none := by rfl) : PG X (.Tuple es k pos) (gD X.K is (gT n r)) :=
  pg_w (pg_tup hc h hn hst) fun v σ H Q ⟨BV, B, V, ρ, d, ρ', E, dd, h, q⟩ => by
    cases dd with
    | @tup a xs ds hs da =>
      unfold gT at h
      by_cases hl : ds.length = n
      · simp [hl] at h
        exact ⟨a, xs, rfl, E.sub.sqT hs, by rw [da_len da]; exact hl, BV, B, V, ρ, ds, ρ', E, da, h, q⟩
      · simp [hl] at h
    | _ => cases h
/-! ### what is walked -/
/-- over any heaps that hold V: it goes, it gives ds, it stops -/
structure WalkD (K : PySem.W.Frag) (V : Hp) (J : It) (ds : List PyData) : Prop where
  go : ∀ i V1 H1, i < ds.length → Ex V V1 → Ex V1 H1 → J.go i H1
  stop : ∀ V1 H1, Ex V V1 → Ex V1 H1 → J.stop ds.length H1
  yld : ∀ i V1 H1 x H2 d, ds[i]? = some d → Ex V V1 → Ex V1 H1 → J.yld i H1 x H2 → ∃ V2, Gr V1 H1 V2 H2 ∧ Dq K V2 x d
theorem WalkD.mono {K : PySem.W.Frag} {V V' : Hp} {J : It} {ds : List PyData} (w : WalkD K V J ds) (e : Ex V V') : WalkD K V' J ds :=
  ⟨fun i V1 H1 h a b => w.go i V1 H1 h (e.trans a) b, fun V1 H1 a b => w.stop V1 H1 (e.trans a) b, fun i V1 H1 x H2 d h a b => w.yld i V1 H1 x H2 d h (e.trans a) b⟩
def iD (K : PySem.W.Frag) (f : DA) : TI := fun σ H R => ∃ BV B V ρ ds, EnvD K BV B V H σ ρ ∧ f ρ = some ds ∧ ∀ J V' H', Gr V H V' H' → WalkD K V' J ds → R J H'
/-- a list -/
def aList (f : DE) : DA := fun ρ => match f ρ with
  | some (.list ds) => some ds
  | _ => none
theorem walkD_list {K : PySem.W.Frag} {V : Hp} {a : Addr} {xs : List L2.V} {ds : List PyData} (h0 : Rd V a (.lst xs)) (da : DqAll K V xs ds) : WalkD K V (Itl K a) ds :=
  have h : SqL K V a xs := .inl h0
  ⟨fun i V1 H1 hi e1 e2 => ⟨xs, _, e2.sqL (e1.sqL h), List.getElem?_eq_getElem (by rw [da_len da]; exact hi)⟩, fun V1 H1 e1 e2 => ⟨xs, e2.sqL (e1.sqL h), by rw [da_len da]; exact Nat.le_refl _⟩,
    fun i V1 H1 x H2 d hd e1 e2 y => by
      obtain ⟨rfl, y⟩ := y
      have hx := y xs (e2.sqL (e1.sqL h))
      obtain ⟨v, h1, h2⟩ := da_get da hd
      rw [hx] at h1; cases h1
      exact ⟨V1, .refl e2, dp_mono e1 h2⟩⟩
theorem walkD_tup {K : PySem.W.Frag} {V : Hp} {a : Addr} {xs : List L2.V} {ds : List PyData} (h : SqT K V a xs) (da : DqAll K V xs ds) : WalkD K V (Itt K a) ds :=
  ⟨fun i V1 H1 hi e1 e2 => ⟨xs, _, e2.sqT (e1.sqT h), List.getElem?_eq_getElem (by rw [da_len da]; exact hi)⟩, fun V1 H1 e1 e2 => ⟨xs, e2.sqT (e1.sqT h), by rw [da_len da]; exact Nat.le_refl _⟩,
    fun i V1 H1 x H2 d hd e1 e2 y => by
      obtain ⟨rfl, y⟩ := y
      have hx := y xs (e2.sqT (e1.sqT h))
      obtain ⟨v, h1, h2⟩ := da_get da hd
      rw [hx] at h1; cases h1
      exact ⟨V1, .refl e2, dp_mono e1 h2⟩⟩
theorem di_list {tg : Expr} {f : DE} (h : PE X e (tD X.K f)) : PI X tg e (iD X.K (aList f)) := pi_w (pi_list h) fun σ H R ⟨BV, B, V, ρ, ds, E, hf, q⟩ => by
  unfold aList at hf
  split at hf
  · rename_i ds' e'
    cases hf
    refine ⟨BV, B, V, ρ, _, E, e', fun v V' H' g d => ?_⟩
    cases d with
    | @lst a xs _ hs da => exact ⟨a, rfl, ⟨xs, Or.inl (g.sub.rd hs)⟩, q _ V' H' g (walkD_list hs da)⟩
  · cases hf
def aTup (f : DE) : DA := fun ρ => match f ρ with
  | some (.tuple ds) => some ds
  | _ => none
theorem di_tup {tg : Expr} {f : DE} (h : PE X e (tD X.K f)) : PI X tg e (iD X.K (aTup f)) := pi_w (pi_tup h) fun σ H R ⟨BV, B, V, ρ, ds, E, hf, q⟩ => by
  unfold aTup at hf
  split at hf
  · rename_i ds' e'
    cases hf
    refine ⟨BV, B, V, ρ, _, E, e', fun v V' H' g d => ?_⟩
    cases d with
    | @tup a xs _ hs da => exact ⟨a, rfl, ⟨xs, g.sub.sqT hs⟩, q _ V' H' g (walkD_tup hs da)⟩
  · cases hf
def signs (z : Str) : List PyData := z.cps.toList.map fun c => .str ⟨#[c]⟩
def aStr (f : DE) : DA := fun ρ => match f ρ with
  | some (.str z) => some (signs z)
  | _ => none
theorem signs_len (z : Str) : (signs z).length = z.cps.size := by simp [signs]
theorem walkD_str {K : PySem.W.Frag} {V : Hp} {z : Str} : WalkD K V (Its z) (signs z) :=
  ⟨fun i V1 H1 hi _ _ => by rw [signs_len] at hi; exact hi, fun V1 H1 _ _ => by rw [signs_len]; exact Nat.le_refl _,
    fun i V1 H1 x H2 d hd e1 e2 y => by
      obtain ⟨rfl, c, hc, rfl⟩ := y
      unfold signs at hd
      rw [List.getElem?_map, Array.getElem?_toList, hc] at hd
      cases hd
      exact ⟨V1, .refl e2, .str _⟩⟩
theorem di_str {tg : Expr} {f : DE} (h : PE X e (tD X.K f)) : PI X tg e (iD X.K (aStr f)) := pi_w (pi_str h) fun σ H R ⟨BV, B, V, ρ, ds, E, hf, q⟩ => by
  unfold aStr at hf
  split at hf
  · rename_i ds' e'
    cases hf
    refine ⟨BV, B, V, ρ, _, E, e', fun v V' H' g d => ?_⟩
    cases d
    exact ⟨_, rfl, q _ V' H' g walkD_str⟩
  · cases hf
def rangeD (lo : Int) (n : Nat) : List PyData := (List.range n).map fun i => .int (lo + (i : Nat))
theorem walkD_range {K : PySem.W.Frag} {V : Hp} {lo : Int} {n : Nat} : WalkD K V (Itr lo n) (rangeD lo n) :=
  ⟨fun i V1 H1 hi _ _ => by simpa [rangeD, Itr] using hi, fun V1 H1 _ _ => by simp [rangeD, Itr],
    fun i V1 H1 x H2 d hd e1 e2 y => by
      obtain ⟨rfl, rfl⟩ := y
      unfold rangeD at hd
      rw [List.getElem?_map] at hd
      by_cases hi : i < n
      · rw [List.getElem?_range hi] at hd; cases hd
        exact ⟨V1, .refl e2, .int _⟩
      · rw [List.getElem?_eq_none (by simpa using hi)] at hd; cases hd⟩
/-- range(n), range(a, b) by their arguments -/
def rangeA : List PyData → Option (List PyData)
  | [.int j] => if -100000 ≤ j ∧ j ≤ 100000 then some (rangeD 0 j.toNat) else none
  | [.int i, .int j] => if (-100000 ≤ i ∧ i ≤ 100000) ∧ -100000 ≤ j ∧ j ≤ 100000 then some (rangeD i (j - i).toNat) else none
  | _ => none
def aRange (f : DA) : DA := fun ρ => (f ρ).bind rangeA
theorem di_range1 {tg : Expr} {f : DE} {pn : Pos} (hg : Gl X "range") (hm : X.mg "range" = none) (ha : PE X e (tD X.K f)) (hs : starEach [e] X.env = [(false, eval e X.env)] := by rfl) : PI X tg (.Call (.Name "range" pn) [e] [] pos) (iD X.K (aRange (aCons f aNil))) :=
  pi_w (pi_range1 hg hm (da_cons ha da_nil hs) hs) fun σ H R ⟨BV, B, V, ρ, ds, E, hf, q⟩ => by
    unfold aRange at hf
    cases h1 : aCons f aNil ρ with
    | none => rw [h1] at hf; cases hf
    | some xs =>
      rw [h1] at hf
      refine ⟨BV, B, V, ρ, _, E, h1, fun vs V' H' g d => ?_⟩
      obtain ⟨d0, dr, k1, k2, rfl⟩ := aCons_some h1
      cases k2
      cases d with
      | cons da dn =>
        cases dn
        cases da with
        | int j =>
          simp only [Option.bind_some, rangeA] at hf
          by_cases hj : -100000 ≤ j ∧ j ≤ 100000
          · simp [hj] at hf; subst hf
            exact ⟨j, rfl, by omega, by omega, q _ V' H' g walkD_range⟩
          · rw [if_neg hj] at hf; cases hf
        | _ => cases hf
theorem di_range2 {tg : Expr} {f1 f2 : DE} {pn : Pos} (hg : Gl X "range") (hm : X.mg "range" = none) (ha : PE X a (tD X.K f1)) (hb : PE X b (tD X.K f2)) (hs : starEach [a, b] X.env = (false, eval a X.env) :: starEach [b] X.env := by rfl) (hs2 : starEach [b] X.env = [(false, eval b X.env)] := by rfl) :
    PI X tg (.Call (.Name "range" pn) [a, b] [] pos) (iD X.K (aRange (aCons f1 (aCons f2 aNil)))) :=
  pi_w (pi_range2 hg hm (da_cons ha (da_cons hb da_nil hs2) hs) (by rw [hs, hs2]) hs2) fun σ H R ⟨BV, B, V, ρ, ds, E, hf, q⟩ => by
    unfold aRange at hf
    cases h1 : aCons f1 (aCons f2 aNil) ρ with
    | none => rw [h1] at hf; cases hf
    | some xs =>
      rw [h1] at hf
      refine ⟨BV, B, V, ρ, _, E, h1, fun vs V' H' g d => ?_⟩
      obtain ⟨d0, dr, k1, k2, rfl⟩ := aCons_some h1
      obtain ⟨d1, dr, k3, k4, rfl⟩ := aCons_some k2
      cases k4
      cases d with
      | cons da dn =>
        cases dn with
        | cons db dn =>
          cases dn
          cases da with
          | int i =>
            cases db with
            | int j =>
              simp only [Option.bind_some, rangeA] at hf
              by_cases hj : (-100000 ≤ i ∧ i ≤ 100000) ∧ -100000 ≤ j ∧ j ≤ 100000
              · rw [if_pos hj] at hf; cases hf
                exact ⟨i, j, rfl, by omega, q _ V' H' g walkD_range⟩
              · rw [if_neg hj] at hf; cases hf
            | _ => cases hf
          | _ => cases hf

/-! ### for -/
theorem Gr.rebase {BV B V H V' H' : Hp} (g : Gr BV B V H) (g' : Gr V B V' H') : Gr BV B V' H' := ⟨g.v.trans g'.v, g'.h, g'.sub, fun p h1 h2 => g'.nw p (g.nw p h1 h2) h2⟩
theorem EnvD.rebase {K : PySem.W.Frag} {BV B V H : Hp} {σ : L2.St} {ρ : List Sl} (E : EnvD K BV B V H σ ρ) : EnvD K V B V H σ ρ := ⟨E.sl, ⟨.refl, E.gr.h, E.gr.sub, fun _ h _ => h⟩, E.ap⟩
theorem EnvD.unbase {K : PySem.W.Frag} {BV B V H V' H' : Hp} {σ : L2.St} {ρ : List Sl} (g : Gr BV B V H) (E : EnvD K V B V' H' σ ρ) : EnvD K BV B V' H' σ ρ := ⟨E.sl, g.rebase E.gr, E.ap⟩
theorem FlOk.rebase {K : PySem.W.Frag} {BV B V H : Hp} {D : Ends} {r : Fl} (g : Gr BV B V H) (q : FlOk K BV B D r) : FlOk K V B D r := by
  cases r with
  | nx ρ => exact fun σ' V' H' E => q σ' V' H' (.unbase g E)
  | bk ρ => exact fun σ' V' H' E => q σ' V' H' (.unbase g E)
  | ct ρ => exact fun σ' V' H' E => q σ' V' H' (.unbase g E)
  | rt d => exact fun v V' H' E dd => q v V' H' (g.rebase E) dd
def forGo (g : DG) (F : DS) : List PyData → DS
  | [], ρ => some (.nx ρ)
  | d :: ds, ρ => (g d ρ).bind fun ρ1 => (F ρ1).bind fun r => match r with
    | .nx ρ2 => forGo g F ds ρ2
    | .ct ρ2 => forGo g F ds ρ2
    | .bk ρ2 => some (.nx ρ2)
    | .rt d => some (.rt d)
def sFor (it : DA) (g : DG) (F : DS) : DS := fun ρ => (it ρ).bind fun ds => forGo g F ds ρ
theorem for_go {K : PySem.W.Frag} {J : It} {V : Hp} {ds : List PyData} (w : WalkD K V J ds) {is : List Nat} {g : DG} {F : DS} {D : Ends} {BV B : Hp} {r : Fl} (q : FlOk K BV B D r) {σ : L2.St} {H : Hp} {ρ : List Sl} (E : EnvD K BV B V H σ ρ) (h : forGo g F ds ρ = some r) :
    ∃ W : Nat → Nat → L2.St → Hp → Prop, (∃ m, W 0 m σ H) ∧ ∀ i m σ H, W i m σ H →
      (J.stop i H ∧ D.nx σ H) ∨ (J.go i H ∧ ∃ N : L2.St → Hp → Prop, (∀ σ' H', N σ' H' → ∃ m', m' < m ∧ W (i + 1) m' σ' H') ∧ ∀ x H', J.yld i H x H' → gD K is g x σ H' fun σ2 H2 => sD K F { D with nx := N, ct := N, bk := D.nx } σ2 H2) := by
  replace q := q.rebase E.gr
  replace E := E.rebase
  refine ⟨fun i m σ H => m = ds.length - i ∧ i ≤ ds.length ∧ ∃ V1 ρ1, EnvD K V B V1 H σ ρ1 ∧ forGo g F (ds.drop i) ρ1 = some r, ⟨ds.length, by simp, Nat.zero_le _, V, ρ, E, h⟩, ?_⟩
  rintro i m σ H ⟨rfl, hi, V1, ρ1, E1, h1⟩
  by_cases hlt : i < ds.length
  · rw [List.drop_eq_getElem_cons hlt] at h1
    unfold forGo at h1
    cases k1 : g ds[i] ρ1 with
    | none => rw [k1] at h1; cases h1
    | some ρ2 =>
      rw [k1] at h1
      simp only [Option.bind_some] at h1
      cases k2 : F ρ2 with
      | none => rw [k2] at h1; cases h1
      | some rr =>
        rw [k2] at h1
        simp only [Option.bind_some] at h1
        refine .inr ⟨w.go i V1 H hlt E1.gr.v E1.sub, fun σ' H' => ∃ V' ρ', EnvD K V B V' H' σ' ρ' ∧ forGo g F (ds.drop (i + 1)) ρ' = some r, fun σ' H' n => ⟨_, by omega, rfl, hlt, n⟩, fun x H' y => ?_⟩
        obtain ⟨V2, g2, d2⟩ := w.yld i V1 H x H' _ (List.getElem?_eq_getElem hlt) E1.gr.v E1.sub y
        refine ⟨V, B, V2, ρ1, ds[i], ρ2, E1.grow g2, d2, k1, fun σ' V' g3 E3 _ => ⟨V, B, V', ρ2, rr, E3, k2, ?_⟩⟩
        cases rr with
        | nx ρ3 => exact fun σ4 V4 H4 E4 => ⟨V4, ρ3, E4, h1⟩
        | ct ρ3 => exact fun σ4 V4 H4 E4 => ⟨V4, ρ3, E4, h1⟩
        | bk ρ3 => cases h1; exact q
        | rt d => cases h1; exact q
  · have ei : i = ds.length := by omega
    subst ei
    rw [List.drop_length] at h1
    cases h1
    exact .inl ⟨w.stop V1 H E1.gr.v E1.sub, q σ V1 H E1⟩
theorem ds_for {tg iter : Expr} {body : List Stmt} {it : DA} {is : List Nat} {g : DG} {F : DS} (hp : PassesOwn (model X.prog X.w) X.A X.env X.xe) (hc : X.calm = true) (hi : PI X tg iter (iD X.K it)) (hg : PG X tg (gD X.K is g)) (hb : PSs X body (sD X.K F))
    (hs : ∀ x, foldedSetIterable iter X.env x = pure x := by intro _; rfl) : PS X (.For tg iter body [] pos) (sD X.K (sFor it g F)) := ps_w (ps_for hp hc hi hg hb hs) fun D σ H ⟨BV, B, V, ρ, r, E, h, q⟩ => by
  unfold sFor at h
  cases h1 : it ρ with
  | none => rw [h1] at h; cases h
  | some ds =>
    rw [h1] at h
    exact ⟨BV, B, V, ρ, ds, E, h1, fun J V' H' g w => for_go w q (E.grow g) h⟩

/-! ### while, by a number of turns -/
def whileGo (t : DB) (F : DS) : Nat → DS
  | 0, _ => none
  | n + 1, ρ => (t ρ).bind fun x => if x = true then (F ρ).bind fun r => match r with
      | .nx ρ2 => whileGo t F n ρ2
      | .ct ρ2 => whileGo t F n ρ2
      | .bk ρ2 => some (.nx ρ2)
      | .rt d => some (.rt d)
    else some (.nx ρ)
def sWhile (n : Nat) (t : DB) (F : DS) : DS := whileGo t F n
theorem ds_while (n : Nat) {c : Expr} {body : List Stmt} {t : DB} {F : DS} (hp : PassesOwn (model X.prog X.w) X.A X.env X.xe) (hc : PT X c (tDT X.K t)) (hb : PSs X body (sD X.K F)) : PS X (.While c body [] pos) (sD X.K (sWhile n t F)) := ps_w (ps_while hp hc hb) fun D σ H ⟨BV, B, V, ρ, r, E, h, q⟩ => by
  refine ⟨fun m σ H => ∃ V ρ, EnvD X.K BV B V H σ ρ ∧ whileGo t F m ρ = some r, ⟨n, V, ρ, E, h⟩, ?_⟩
  rintro m σ H ⟨V1, ρ1, E1, h1⟩
  cases m with
  | zero => cases h1
  | succ m =>
    unfold whileGo at h1
    cases k1 : t ρ1 with
    | none => rw [k1] at h1; cases h1
    | some x =>
      rw [k1] at h1
      refine ⟨BV, B, V1, ρ1, x, E1, k1, fun V' H' g => ?_⟩
      cases x with
      | false =>
        cases h1
        exact q σ V' H' (E1.grow g)
      | true =>
        simp only [Option.bind_some, if_true] at h1
        cases k2 : F ρ1 with
        | none => rw [k2] at h1; cases h1
        | some rr =>
          rw [k2] at h1
          simp only [Option.bind_some] at h1
          refine ⟨fun σ' H' => ∃ V ρ, EnvD X.K BV B V H' σ' ρ ∧ whileGo t F m ρ = some r, fun σ' H' n => ⟨m, by omega, n⟩, BV, B, V', ρ1, rr, E1.grow g, k2, ?_⟩
          cases rr with
          | nx ρ3 => exact fun σ4 V4 H4 E4 => ⟨V4, ρ3, E4, h1⟩
          | ct ρ3 => exact fun σ4 V4 H4 E4 => ⟨V4, ρ3, E4, h1⟩
          | bk ρ3 => cases h1; exact q
          | rt d => cases h1; exact q

/-! ### comprehensions -/
def lcGo (g : DG) (t : DB) (f : DE) (ρ : List Sl) : List PyData → Option (List PyData)
  | [] => some []
  | d :: ds => (g d ρ).bind fun ρ1 => (t ρ1).bind fun b => if b = true then (f ρ1).bind fun y => (lcGo g t f ρ ds).map fun ys => y :: ys else lcGo g t f ρ ds
def nLc (it : DA) (g : DG) (t : DB) (f : DE) (vs : List Nat) : DA := fun ρ => (it ρ).bind fun ds => if ds.length ≤ 90000 then lcGo g t f (wipeD ρ vs) ds else none
def tYesD : DB := fun _ => some true
theorem pts_w {es : List Expr} {t t' : TT} (h : PTs X es t) (i : ∀ σ H Q, t' σ H Q → t σ H Q) : PTs X es t' := ⟨fun pins s σ H Q I q => h.run pins s σ H Q I (i _ _ _ q)⟩
end
end DL

namespace DL
open PySem PySem.Spec PyProof.Rows L2
section
variable {X : Cx} {e a b : Expr} {es : List Expr} {pos : Pos} {st : Stmt} {rest : List Stmt}
theorem dts_nil : PTs X [] (tDT X.K tYesD) := pts_w pts_nil fun σ H Q ⟨BV, B, V, ρ, b, E, h, q⟩ => by
  cases h
  exact q V H (.refl E.sub)
theorem dts_one {c : Expr} {t : DB} (h : PT X c (tDT X.K t)) : PTs X [c] (tDT X.K t) := pts_one h
/-- the reading of a comprehension -/
theorem tLc_of {K : PySem.W.Frag} {it : DA} {is : List Nat} {g : DG} {t : DB} {f : DE} {vs : List Nat} (hv : ∀ i ∈ is, i ∈ vs) (σ : L2.St) (H : Hp) (Q : VK) (h : tN K (nLc it g t f vs) σ H Q) :
    tLc (iD K it) (gD K is g) (tDT K t) (tD K f) vs σ H Q := by
  obtain ⟨BV, B, V, ρ, ys, E, h, q⟩ := h
  unfold nLc at h
  cases h1 : it ρ with
  | none => rw [h1] at h; cases h
  | some ds =>
    rw [h1] at h
    simp only [Option.bind_some] at h
    by_cases hz : ds.length ≤ 90000
    · rw [if_pos hz] at h
      refine ⟨BV, B, V, ρ, ds, E, h1, fun J V1 H1 g1 w D hD => ?_⟩
      have E1 := E.grow g1
      have hBD : B D = none := E1.gr.h.back hD
      refine ⟨fun i m H => m = ds.length - i ∧ i ≤ ds.length ∧ ∃ V2 acc xs zs, EnvD K V1 B V2 H σ ρ ∧ V2 D = none ∧ H D = some (.lst acc) ∧ DqAll K V2 acc xs ∧ Gr V1 H1 V2 H ∧ acc.length ≤ i ∧ lcGo g t f (wipeD ρ vs) (ds.drop i) = some zs ∧ ys = xs ++ zs,
        ⟨ds.length, by simp, Nat.zero_le _, V1, [], [], ys, E1.rebase.grow (Gr.held E1.sub hD), E1.sub.back hD, upd_same, .nil, Gr.held E1.sub hD, Nat.le_refl _, h, rfl⟩, ?_⟩
      rintro i m H2 ⟨rfl, hi, V2, acc, xs, zs, E2, hV, hD2, da, g2, hal, hl, rfl⟩
      by_cases hlt : i < ds.length
      · refine .inr ⟨w.go i V2 H2 hlt g2.v g2.sub, fun H' => ∃ V2 acc xs zs', EnvD K V1 B V2 H' σ ρ ∧ V2 D = none ∧ H' D = some (.lst acc) ∧ DqAll K V2 acc xs ∧ Gr V1 H1 V2 H' ∧ acc.length ≤ i + 1 ∧ lcGo g t f (wipeD ρ vs) (ds.drop (i + 1)) = some zs' ∧ _ = xs ++ zs', fun H' n => ⟨_, by omega, rfl, hlt, n⟩, fun x H3 y => ?_⟩
        obtain ⟨V3, g3, d3⟩ := w.yld i V2 H2 x H3 _ (List.getElem?_eq_getElem hlt) g2.v g2.sub y
        rw [List.drop_eq_getElem_cons hlt] at hl
        unfold lcGo at hl
        cases k1 : g ds[i] (wipeD ρ vs) with
        | none => rw [k1] at hl; cases hl
        | some ρ1 =>
          rw [k1] at hl
          simp only [Option.bind_some] at hl
          cases k2 : t ρ1 with
          | none => rw [k2] at hl; cases hl
          | some bb =>
            rw [k2] at hl
            simp only [Option.bind_some] at hl
            refine ⟨V1, B, V3, wipeD ρ vs, ds[i], ρ1, (E2.grow g3).wipe vs, d3, k1, fun σ4 V4 g4 E4 o4 => ⟨?_, V1, B, V4, ρ1, bb, E4, k2, fun V5 H5 g5 => ?_⟩⟩
            · have z := o4.wipe (vs := vs) hv
              rw [z]
              exact Only.wipe (is := vs) ⟨wipe_length σ vs, fun j hj => wipe_out hj⟩ fun _ h => h
            · have g35 := g3.trans (g4.trans g5)
              have hV5 : V5 D = none := g35.nw D hV (by rw [hD2]; simp)
              have hD5 := g35.h _ _ hD2
              cases bb with
              | false =>
                simp only [Bool.false_eq_true, if_false] at hl
                exact ⟨V5, acc, xs, zs, E2.grow g35, hV5, hD5, da_mono g35.v da, g2.trans g35, by omega, hl, rfl⟩
              | true =>
                simp only [if_true] at hl
                cases k3 : f ρ1 with
                | none => rw [k3] at hl; cases hl
                | some yv =>
                  rw [k3] at hl
                  simp only [Option.bind_some] at hl
                  cases k4 : lcGo g t f (wipeD ρ vs) (ds.drop (i + 1)) with
                  | none => rw [k4] at hl; cases hl
                  | some zr =>
                    rw [k4] at hl
                    cases hl
                    refine ⟨V1, B, V5, ρ1, yv, E4.grow g5, k3, fun v V6 H6 g6 d6 => ?_⟩
                    have g36 := g35.trans g6
                    have hV6 : V6 D = none := g36.nw D hV (by rw [hD2]; simp)
                    have hD6 := g36.h _ _ hD2
                    have nD : ∀ a u, V6 a = some u → a ≠ D := fun a u z w => by subst w; rw [hV6] at z; cases z
                    have E6 := E2.grow g36
                    refine ⟨acc, hD6, by have := line_lt (n := acc.length) (by omega); exact this, V6, acc ++ [v], xs ++ [yv], zr, ?_, hV6, upd_same, da_app (da_mono g36.v da) (.cons d6 .nil), ?_, by rw [List.length_append, List.length_singleton]; omega, rfl, by rw [List.append_assoc]; rfl⟩
                    · refine ⟨fun j s hs => ?_, ⟨E6.gr.v, fun a u z => ?_, fun a u z => ?_, E6.gr.nw⟩, E6.ap⟩
                      · obtain ⟨o, q1, q2⟩ := E6.sl j s hs
                        refine ⟨o, q1, ?_⟩
                        cases s with
                        | un => cases o <;> trivial
                        | d x => cases o <;> exact q2
                        | own xs' =>
                          cases o with
                          | none => exact q2
                          | some v' =>
                            obtain ⟨p', vs', rfl, r1, r2, r3, r4⟩ := q2
                            have np : p' ≠ D := fun w => by
                              subst w
                              exact E1.notNew hD j xs' hs q1
                            exact ⟨p', vs', rfl, by rw [upd_ne np]; exact r1, r2, r3, r4⟩
                      · have : a ≠ D := fun w => by subst w; rw [hBD] at z; cases z
                        rw [upd_ne this]; exact E6.gr.h a u z
                      · rw [upd_ne (nD a u z)]; exact E6.sub a u z
                    · have gg := g2.trans g36
                      refine ⟨gg.v, fun a u z => ?_, fun a u z => ?_, gg.nw⟩
                      · rw [upd_ne (ne_of_none z hD)]; exact gg.h a u z
                      · rw [upd_ne (nD a u z)]; exact gg.sub a u z
      · have ei : i = ds.length := by omega
        subst ei
        rw [List.drop_length] at hl
        cases hl
        rw [List.append_nil]  at q
        exact .inl ⟨w.stop V2 H2 g2.v g2.sub, q D acc V2 H2 (g1.trans g2) (g1.h.back hD) hV hD2 da⟩
    · rw [if_neg hz] at h; cases h
theorem dn_lc {elt tg iter : Expr} {ifs : List Expr} {scope : Scope} {own : List (Str × Nat)} {it : DA} {is : List Nat} {g : DG} {t : DB} {f : DE} (hc : X.calm = true) (hN : X.N.Nodup) (hi : PI X tg iter (iD X.K it)) (ok : BlkOk X.N X.env.scope scope own) (hv : ∀ i ∈ is, i ∈ own.map (·.2))
    (hg : ∀ (s : Shared) (H : Hp) (C : Addr) (cl : List (Str × Addr)) (fp : List Addr), PG (X.blk s H scope (compEnvC scope cl C X.env) fp) tg (gD X.K is g)) (ht : ∀ (s : Shared) (H : Hp) (C : Addr) (cl : List (Str × Addr)) (fp : List Addr), PTs (X.blk s H scope (compEnvC scope cl C X.env) fp) ifs (tDT X.K t))
    (he : ∀ (s : Shared) (H : Hp) (C : Addr) (cl : List (Str × Addr)) (fp : List Addr), PE (X.blk s H scope (compEnvC scope cl C X.env) fp) elt (tD X.K f)) (hs : ∀ x, foldedSetIterable iter X.env x = pure x := by intro _; rfl) :
    PE X (.ListComp elt [⟨tg, iter, ifs, 0⟩] scope pos) (tN X.K (nLc it g t f (own.map (·.2)))) := pe_w (pe_lc hc hN hi ok hg ht he hs) (tLc_of hv)
theorem de_lc {elt tg iter : Expr} {ifs : List Expr} {scope : Scope} {own : List (Str × Nat)} {it : DA} {is : List Nat} {g : DG} {t : DB} {f : DE} (hc : X.calm = true) (hN : X.N.Nodup) (hi : PI X tg iter (iD X.K it)) (ok : BlkOk X.N X.env.scope scope own) (hv : ∀ i ∈ is, i ∈ own.map (·.2))
    (hg : ∀ (s : Shared) (H : Hp) (C : Addr) (cl : List (Str × Addr)) (fp : List Addr), PG (X.blk s H scope (compEnvC scope cl C X.env) fp) tg (gD X.K is g)) (ht : ∀ (s : Shared) (H : Hp) (C : Addr) (cl : List (Str × Addr)) (fp : List Addr), PTs (X.blk s H scope (compEnvC scope cl C X.env) fp) ifs (tDT X.K t))
    (he : ∀ (s : Shared) (H : Hp) (C : Addr) (cl : List (Str × Addr)) (fp : List Addr), PE (X.blk s H scope (compEnvC scope cl C X.env) fp) elt (tD X.K f)) (hs : ∀ x, foldedSetIterable iter X.env x = pure x := by intro _; rfl) :
    PE X (.ListComp elt [⟨tg, iter, ifs, 0⟩] scope pos) (tD X.K (dL (nLc it g t f (own.map (·.2))))) := de_new (dn_lc hc hN hi ok hv hg ht he hs)
/-- name = [..] -/
theorem ds_setLc {i : Nat} {y : Str} {py : Pos} {elt tg iter : Expr} {ifs : List Expr} {scope : Scope} {own : List (Str × Nat)} {spos : Pos} {it : DA} {is : List Nat} {g : DG} {t : DB} {f : DE} (hc : X.calm = true) (hN : X.N.Nodup) (hy : X.N[i]? = some y) (hyl : X.env.scope.names.lookup y = some .local)
    (hsw : swapsWith (.ListComp elt [⟨tg, iter, ifs, 0⟩] scope pos) (some (.Name y py)) spos.line X.env = pure true) (hi : PI X tg iter (iD X.K it)) (ok : BlkOk X.N X.env.scope scope own) (hv : ∀ i ∈ is, i ∈ own.map (·.2))
    (hg : ∀ (s : Shared) (H : Hp) (C : Addr) (cl : List (Str × Addr)) (fp : List Addr), PG (X.blk s H scope (compEnvC scope cl C X.env) fp) tg (gD X.K is g)) (ht : ∀ (s : Shared) (H : Hp) (C : Addr) (cl : List (Str × Addr)) (fp : List Addr), PTs (X.blk s H scope (compEnvC scope cl C X.env) fp) ifs (tDT X.K t))
    (he : ∀ (s : Shared) (H : Hp) (C : Addr) (cl : List (Str × Addr)) (fp : List Addr), PE (X.blk s H scope (compEnvC scope cl C X.env) fp) elt (tD X.K f)) (hs : ∀ x, foldedSetIterable iter X.env x = pure x := by intro _; rfl) :
    PS X (.Assign [.Name y py] (.ListComp elt [⟨tg, iter, ifs, 0⟩] scope pos) spos) (sD X.K (sSet i (dL (nLc it g t f (own.map (·.2)))))) :=
  ps_w (ps_setLc hc hN hy hyl hsw hi ok hg ht he hs) fun D σ H ⟨BV, B, V, ρ, r, E, h, q⟩ => by
    unfold sSet dL at h
    cases h1 : nLc it g t f (own.map (·.2)) ρ with
    | none => rw [h1] at h; cases h
    | some ds =>
      rw [h1] at h
      cases h
      exact tLc_of hv σ H _ ⟨BV, B, V, ρ, ds, E, h1, fun p vs V' H' g n hv h' da => q _ _ _ ((E.grow (g.freeze n h' hv)).set (.lst (.inl upd_same) (da_mono (Ex.new hv) da)) i)⟩

/-! ### a def -/
def startD (N : Nat) (ds : List PyData) : List Sl := ds.map Sl.d ++ List.replicate (N - ds.length) .un
def fnDen (N : Nat) (F : DS) : List PyData → Option PyData := fun ds => (F (startD N ds)).bind fun r => match r with
  | .rt d => some d
  | .nx _ => some .none
  | _ => none
theorem fnDen_some {N : Nat} {F : DS} {ds : List PyData} {d : PyData} (h : fnDen N F ds = some d) : F (startD N ds) = some (.rt d) ∨ ∃ ρ, F (startD N ds) = some (.nx ρ) ∧ d = .none := by
  unfold fnDen at h
  cases k : F (startD N ds) with
  | none => rw [k] at h; cases h
  | some r =>
    rw [k] at h
    cases r with
    | rt x => cases h; exact .inl rfl
    | nx ρ => cases h; exact .inr ⟨ρ, rfl, rfl⟩
    | bk ρ => cases h
    | ct ρ => cases h
theorem start_ok {K : PySem.W.Frag} {V H : Hp} {N : List Str} {vs : List L2.V} {ds : List PyData} (s : Ex V H) (da : DqAll K V vs ds) : EnvD K V H V H (L2.start N vs) (startD N.length ds) := by
  have hl := da_len da
  refine ⟨fun i x h => ?_, .refl s, fun i j xs ys _ h _ => ?_⟩
  · unfold startD at h
    unfold L2.start
    by_cases hi : i < ds.length
    · rw [List.getElem?_append_left (by simpa using hi), List.getElem?_map] at h
      rw [List.getElem?_append_left (by rw [List.length_map, hl]; exact hi), List.getElem?_map]
      cases k : ds[i]? with
      | none => rw [k] at h; cases h
      | some d =>
        rw [k] at h
        cases h
        obtain ⟨v, h1, h2⟩ := da_get da k
        exact ⟨some v, by rw [h1]; rfl, h2⟩
    · have hn : i < N.length := by
        have := getN h
        simp at this
        omega
      rw [List.getElem?_append_right (by simpa using hi)] at h
      rw [List.getElem?_append_right (by rw [List.length_map, hl]; omega)]
      rw [List.getElem?_replicate] at h ⊢
      rw [List.length_map] at h ⊢
      rw [if_pos (by omega)] at h
      cases h
      exact ⟨none, by rw [if_pos (by omega)], trivial⟩
  · unfold startD at h
    by_cases hi : i < ds.length
    · rw [List.getElem?_append_left (by simpa using hi), List.getElem?_map] at h
      cases k : ds[i]? with
      | none => rw [k] at h; cases h
      | some d => rw [k] at h; cases h
    · rw [List.getElem?_append_right (by simpa using hi), List.getElem?_replicate] at h
      split at h <;> cases h
theorem fnD {P : Program} {w : World} {K : PySem.W.Frag} {mg : Str → Option Value} {base : Heap} {x qual : Str} {st : Stmt} {f : Addr} {fd : FuncData} {N ps : List Str} {k : Nat} {F : DS} (Fu : Fun K x qual st f fd) (S : FnScope N ps (defScope st))
    (hb : ∀ (cdv : Value) (A : Around) (outer : List Env) (s : Shared) (H : Hp) (E : XK), Room k (A.deeper (envOfC qual (defScope st) s.heap.objs.size f cdv)) → PSs (cxOf CX0 P w K mg base N qual (defScope st) f cdv A outer s H E).nox (defBody st) (sD K F)) :
    FnOk P w K mg base CX0 (k + 1) f fd ps (spD K ps.length (fnDen N.length F)) := by
  refine Fu.ok S (fun vs H Q E h => h.1) fun cdv A outer s H vs Q E hr h => ⟨_, hb cdv A outer s H E hr, ?_⟩
  obtain ⟨_, V, ds, d, s', da, hg, q⟩ := h
  have E0' := start_ok (N := N) s' da
  rcases fnDen_some hg with k | ⟨ρ, k, rfl⟩
  · exact ⟨V, H, V, _, _, E0', k, fun v V' H' g d => q v V' H' g d⟩
  · exact ⟨V, H, V, _, _, E0', k, fun σ' V' H' E' => q _ V' H' E'.gr .non⟩
end
end DL

namespace DL
open PySem PySem.Spec PyProof.Rows L2
section
variable {X : Cx}
theorem op_or2 {f : Value → Value → Sem Value} {r1 r2 : R2} (h1 : OpR X f r1) (h2 : OpR X f r2) : OpR X f (fun x y H Q => r1 x y H Q ∨ r2 x y H Q) := fun pins s σ H x y v u Q I rx ry h => h.elim (h1 pins s σ H x y v u Q I rx ry) (h2 pins s σ H x y v u Q I rx ry)
theorem call_or2 {f : Value} {r1 r2 : List V → Hp → VK → Prop} (h1 : CallR X f r1) (h2 : CallR X f r2) : CallR X f (fun x H Q => r1 x H Q ∨ r2 x H Q) := fun pins s σ H xs us Q I r h => h.elim (h1 pins s σ H xs us Q I r) (h2 pins s σ H xs us Q I r)
theorem mt_or2 {id : String} {r1 r2 : V → List V → Hp → VK → Prop} (h1 : MtR X id r1) (h2 : MtR X id r2) : MtR X id (fun x xs H Q => r1 x xs H Q ∨ r2 x xs H Q) := fun pins s σ H x xs v us Q I rx rs h => h.elim (h1 pins s σ H x xs v us Q I rx rs) (h2 pins s σ H x xs v us Q I rx rs)
theorem lstR {pins : List (Addr × Obj)} {σ : L2.St} {H : Hp} {s : Shared} {l : Addr} {xs : List L2.V} (I : Inv X pins σ H s) (hH : Rd H l (.lst xs)) : xs.length ≤ sizeLine ∧ ∃ (its : List Value) (n : Nat), Vals xs its ∧ xs.length = its.length ∧ s.heap.get? l = some { cls := .type "list", data := .seq its.toArray n } := by
  obtain ⟨z, its, n, r, e⟩ := hH.ok I.hok
  exact ⟨z, its, n, r, r.length, e⟩
/-! ### + -/
def rCatR : R2 := fun x y H Q => ∃ l b xs zs, x = .ref l ∧ y = .ref b ∧ Rd H l (.lst xs) ∧ Rd H b (.lst zs) ∧ xs.length + zs.length ≤ sizeLine ∧ ∀ p, H p = none → Q (.ref p) (upd H p (.lst (xs ++ zs)))
theorem op_catR : OpR X (binaryOp .Add) rCatR := by
  intro pins s σ H x y v u Q I rx ry h
  obtain ⟨l, b, xs, zs, rfl, rfl, hH, hB, hz, q⟩ := h
  cases rx
  cases ry
  obtain ⟨z, its, n, r, hl, e⟩ := lstR I hH
  obtain ⟨z2, its2, n2, r2, hl2, e2⟩ := lstR I hB
  refine PySem.P.add_list e e2 ?_ (by rw [List.size_toArray, List.size_toArray]; omega)
  have ea : its.toArray ++ its2.toArray = (its ++ its2).toArray := by simp
  rw [ea]
  exact ⟨.ref _, _, I.lnew (t' := s.toks) (r.append r2) (by rw [List.length_append]; omega), rfl, q _ I.fresh⟩
def addP : PyData → PyData → Option PyData
  | .int i, .int j => some (.int (i + j))
  | .int i, .bool k => some (.int (i + b2i k))
  | .str a, .str b => if a.length + b.length ≤ 100000 then some (.str (a ++ b)) else none
  | .list a, .list b => if a.length + b.length ≤ 100000 then some (.list (a ++ b)) else none
  | .tuple a, .tuple b => if a.length + b.length ≤ 100000 then some (.tuple (a ++ b)) else none
  | _, _ => none
def rAddP (K : PySem.W.Frag) : R2 := fun x y H Q => rI0 (fun i j => .int (i + j)) x y H Q ∨ ((∃ i k, x = .int i ∧ y = .bl k ∧ Q (.int (i + b2i k)) H) ∨ ((∃ i j, x = .str i ∧ y = .str j ∧ i.length + j.length ≤ sizeLine ∧ Q (.str (i ++ j)) H) ∨ (rCatR x y H Q ∨ rCatA K x y H Q)))
theorem op_addP : OpR X (binaryOp .Add) (rAddP X.K) := op_or2 op_add (op_or2 op_add_ib (op_or2 op_add_str (op_or2 op_catR op_catA)))
theorem od_add {K : PySem.W.Frag} : OpD K (rAddP K) addP := by
  intro V H x y d e z Q s hx hy ho q
  cases hx with
  | non => cases hy <;> cases ho
  | bl _ => cases hy <;> cases ho
  | lk _ _ => cases hy <;> cases ho
  | int i =>
    cases hy with
    | int j => cases ho; exact .inl ⟨i, j, rfl, rfl, keep s q (.int _)⟩
    | bl k => cases ho; exact .inr (.inl ⟨i, k, rfl, rfl, keep s q (.int _)⟩)
    | _ => cases ho
  | str a =>
    cases hy with
    | str b =>
      simp only [addP] at ho
      split at ho
      · rename_i hl; cases ho
        exact .inr (.inr (.inl ⟨a, b, rfl, rfl, line_of hl, keep s q (.str _)⟩))
      · cases ho
    | _ => cases ho
  | lst h1 d1 =>
    cases hy with
    | lst h2 d2 =>
      simp only [addP] at ho
      split at ho
      · rename_i hl; cases ho
        exact .inr (.inr (.inr (.inl ⟨_, _, _, _, rfl, rfl, s.rd h1, s.rd h2, by rw [da_len d1, da_len d2]; exact line_of hl, fun p n => newL s q (da_app d1 d2) n⟩)))
      · cases ho
    | _ => cases ho
  | tup h1 d1 =>
    cases hy with
    | tup h2 d2 =>
      simp only [addP] at ho
      split at ho
      · rename_i hl; cases ho
        refine .inr (.inr (.inr (.inr ⟨_, _, _, _, rfl, rfl, s.sqT h1, s.sqT h2, by rw [da_len d1, da_len d2]; exact line_of hl, fun z => ?_, fun _ z => ?_, fun _ _ p n => newT s q (da_app d1 d2) n⟩)))
        · subst z; cases d1; exact keep s q (.tup h2 d2)
        · subst z; cases d2
          rw [List.append_nil] at q
          exact keep s q (.tup h1 d1)
      · cases ho
    | _ => cases ho
/-! ### - * // % ** -/
def subP : PyData → PyData → Option PyData
  | .int i, .int j => some (.int (i - j))
  | _, _ => none
theorem od_sub {K : PySem.W.Frag} : OpD K (rI0 fun i j => .int (i - j)) subP := by
  intro V H x y d e z Q s hx hy ho q
  cases hx <;> cases hy <;> cases ho
  exact ⟨_, _, rfl, rfl, keep s q (.int _)⟩
def smallI (i : Int) : Bool := decide (-(2 ^ 64) < i) && decide (i < 2 ^ 64)
def mulP : PyData → PyData → Option PyData
  | .int i, .int j => if (smallI i || smallI j) = true then some (.int (i * j)) else none
  | _, _ => none
theorem od_mul {K : PySem.W.Frag} : OpD K (rI CMul fun i j => .int (i * j)) mulP := by
  intro V H x y d e z Q s hx hy ho q
  cases hx <;> cases hy <;> try cases ho
  rename_i i j
  simp only [mulP] at ho
  split at ho
  · rename_i h
    cases ho
    refine ⟨_, _, rfl, rfl, ?_, keep s q (.int _)⟩
    simp only [smallI, Bool.or_eq_true, Bool.and_eq_true, decide_eq_true_eq] at h
    exact h
  · cases ho
def smallD (j : Int) : Bool := decide (0 < j) && decide (j < 2 ^ 64)
def fdivP : PyData → PyData → Option PyData
  | .int i, .int j => if smallD j = true then some (.int (i / j)) else none
  | _, _ => none
theorem od_fdiv {K : PySem.W.Frag} : OpD K (rI CDivW fun i j => .int (i / j)) fdivP := by
  intro V H x y d e z Q s hx hy ho q
  cases hx <;> cases hy <;> try cases ho
  rename_i i j
  simp only [fdivP] at ho
  split at ho
  · rename_i h
    cases ho
    simp only [smallD, Bool.and_eq_true, decide_eq_true_eq] at h
    exact ⟨_, _, rfl, rfl, wide_div (b := 64) h.1 (by omega) (by decide) (by decide), keep s q (.int _)⟩
  · cases ho
def modP : PyData → PyData → Option PyData
  | .int i, .int j => if 0 < j then some (.int (i % j)) else none
  | _, _ => none
theorem od_mod {K : PySem.W.Frag} : OpD K (rI (fun _ j => 0 < j) fun i j => .int (i % j)) modP := by
  intro V H x y d e z Q s hx hy ho q
  cases hx <;> cases hy <;> try cases ho
  rename_i i j
  simp only [modP] at ho
  split at ho
  · rename_i h
    cases ho
    exact ⟨_, _, rfl, rfl, h, keep s q (.int _)⟩
  · cases ho
def powP : PyData → PyData → Option PyData
  | .int i, .int j => if 0 ≤ j ∧ j ≤ 1000 ∧ i.natAbs < 1000 then some (.int (i ^ j.toNat)) else none
  | _, _ => none
theorem od_pow {K : PySem.W.Frag} : OpD K (rI CPow fun i j => .int (i ^ j.toNat)) powP := by
  intro V H x y d e z Q s hx hy ho q
  cases hx <;> cases hy <;> try cases ho
  rename_i i j
  simp only [powP] at ho
  split at ho
  · rename_i h
    cases ho
    exact ⟨_, _, rfl, rfl, ⟨h.1, by omega, by omega⟩, keep s q (.int _)⟩
  · cases ho
def negP : PyData → Option PyData
  | .int i => some (.int (-i))
  | _ => none
theorem ud_neg {K : PySem.W.Frag} : UnD K (rU fun i => .int (-i)) negP := by
  intro V H x d z Q s hx ho q
  cases hx <;> cases ho
  exact ⟨_, rfl, keep s q (.int _)⟩
/-! ### == != -/
def eqP (x y : PyData) : Option PyData := if (SeqAt.shaped x && SeqAt.shaped y) = true then some (.bool (PyData.eqv x y)) else none
def neP (x y : PyData) : Option PyData := if (SeqAt.shaped x && SeqAt.shaped y) = true then some (.bool (!PyData.eqv x y)) else none
/-- the script against [] -/
def nePS : PyData → PyData → Option PyData
  | .dict [(.list ds, .none)], .list [] => if (SeqAt.shaped (.list ds)) = true then some (.bool (!ds.isEmpty)) else none
  | x, y => neP x y
theorem od_eq {K : PySem.W.Frag} : OpD K (rEqD K) eqP := by
  intro V H x y d e z Q s hx hy ho q
  unfold eqP at ho
  split at ho
  · rename_i h
    cases ho
    rw [Bool.and_eq_true] at h
    exact ⟨d, e, (dp_mono s hx).dp (noLk_of _ (SeqAt.canLay_of_shaped h.1)), (dp_mono s hy).dp (noLk_of _ (SeqAt.canLay_of_shaped h.2)), h.1, h.2, keep s q (.bl _)⟩
  · cases ho
theorem od_ne {K : PySem.W.Frag} : OpD K (rNeD K) neP := by
  intro V H x y d e z Q s hx hy ho q
  unfold neP at ho
  split at ho
  · rename_i h
    cases ho
    rw [Bool.and_eq_true] at h
    exact ⟨d, e, (dp_mono s hx).dp (noLk_of _ (SeqAt.canLay_of_shaped h.1)), (dp_mono s hy).dp (noLk_of _ (SeqAt.canLay_of_shaped h.2)), h.1, h.2, keep s q (.bl _)⟩
  · cases ho
theorem nePS_other {x y : PyData} (h : ∀ ds, x ≠ .dict [(.list ds, .none)]) : nePS x y = neP x y := by
  unfold nePS
  split
  · rename_i ds; exact absurd rfl (h ds)
  · rfl
theorem od_neS {K : PySem.W.Frag} : OpD K (rNeD K) nePS := by
  intro V H x y d e z Q s hx hy ho q
  cases hx with
  | @lk a xs ds hs da =>
    cases hy with
    | @lst b ys es hb db =>
      cases db with
      | nil =>
        simp only [nePS] at ho
        split at ho
        · rename_i h
          cases ho
          refine ⟨.list ds, .list [], .lst (s.sqL hs) (DqAll.dp (da_mono s da) ?_), .lst (.inl (s.rd hb)) .nil, h, by decide, ?_⟩
          · have := noLk_of _ (SeqAt.canLay_of_shaped h)
            rwa [noLk] at this
          · have e : (!PyData.eqv (.list ds) (.list [])) = !ds.isEmpty := by cases ds <;> simp [PyData.eqv, PyData.eqvAll]
            rw [e]
            exact keep s q (.bl _)
        · cases ho
      | cons _ _ => simp [nePS, neP, SeqAt.shaped, PyData.canLay0] at ho
    | _ => simp [nePS, neP, SeqAt.shaped, PyData.canLay0] at ho
  | non => exact od_ne V H _ y _ e z Q s .non hy ho q
  | bl b => exact od_ne V H _ y _ e z Q s (.bl b) hy ho q
  | int b => exact od_ne V H _ y _ e z Q s (.int b) hy ho q
  | str b => exact od_ne V H _ y _ e z Q s (.str b) hy ho q
  | lst h1 d1 => exact od_ne V H _ y _ e z Q s (.lst h1 d1) hy (by rw [← nePS_other (fun _ h => by cases h)]; exact ho) q
  | tup h1 d1 => exact od_ne V H _ y _ e z Q s (.tup h1 d1) hy (by rw [← nePS_other (fun _ h => by cases h)]; exact ho) q
/-! ### < <= > >= -/
def ltP : PyData → PyData → Option PyData
  | .int i, .int j => some (.bool (decide (i < j)))
  | .str i, .str j => some (.bool (decide (i.cps.toList < j.cps.toList)))
  | _, _ => none
def rLtP : R2 := fun x y H Q => rI0 (fun i j => .bl (decide (i < j))) x y H Q ∨ ∃ i j, x = .str i ∧ y = .str j ∧ Q (.bl (decide (i.cps.toList < j.cps.toList))) H
theorem op_ltP : OpR X (compareOp .Lt) rLtP := op_or2 op_lt op_lt_str
theorem od_lt {K : PySem.W.Frag} : OpD K rLtP ltP := by
  intro V H x y d e z Q s hx hy ho q
  cases hx <;> cases hy <;> cases ho
  · exact .inl ⟨_, _, rfl, rfl, keep s q (.bl _)⟩
  · exact .inr ⟨_, _, rfl, rfl, keep s q (.bl _)⟩
def leP : PyData → PyData → Option PyData
  | .int i, .int j => some (.bool (decide (i ≤ j)))
  | _, _ => none
theorem od_le {K : PySem.W.Frag} : OpD K (rI0 fun i j => .bl (decide (i ≤ j))) leP := by
  intro V H x y d e z Q s hx hy ho q
  cases hx <;> cases hy <;> cases ho
  exact ⟨_, _, rfl, rfl, keep s q (.bl _)⟩
def gtP : PyData → PyData → Option PyData
  | .int i, .int j => some (.bool (decide (j < i)))
  | _, _ => none
theorem od_gt {K : PySem.W.Frag} : OpD K (rI0 fun i j => .bl (decide (j < i))) gtP := by
  intro V H x y d e z Q s hx hy ho q
  cases hx <;> cases hy <;> cases ho
  exact ⟨_, _, rfl, rfl, keep s q (.bl _)⟩
def geP : PyData → PyData → Option PyData
  | .int i, .int j => some (.bool (decide (j ≤ i)))
  | _, _ => none
theorem od_ge {K : PySem.W.Frag} : OpD K (rI0 fun i j => .bl (decide (j ≤ i))) geP := by
  intro V H x y d e z Q s hx hy ho q
  cases hx <;> cases hy <;> cases ho
  exact ⟨_, _, rfl, rfl, keep s q (.bl _)⟩
/-! ### in -/
def flatD : PyData → Bool
  | .none | .bool _ | .int _ | .str _ => true
  | _ => false
theorem flat_of {K : PySem.W.Frag} {V : Hp} {v : L2.V} {d : PyData} (h : Dq K V v d) (f : flatD d = true) : flatV v = true := by
  cases h <;> first | rfl | cases f
theorem flats_of {K : PySem.W.Frag} {V : Hp} : ∀ {vs : List L2.V} {ds : List PyData}, DqAll K V vs ds → ds.all flatD = true → vs.all flatV = true
  | _, _, .nil, _ => rfl
  | _, _, .cons a b, f => by
    rw [List.all_cons, Bool.and_eq_true] at f ⊢
    exact ⟨flat_of a f.1, flats_of b f.2⟩
theorem eqV_of {K : PySem.W.Frag} {V : Hp} {v u : L2.V} {d e : PyData} (h : Dq K V v d) (k : Dq K V u e) (f : flatD d = true) (g : flatD e = true) : eqV v u = PyData.eqv d e := by
  cases h <;> cases k <;> first | cases f | cases g | rfl | skip
  all_goals simp [eqV, PyData.eqv, Bool.beq_eq_decide_eq]
theorem inV_of {K : PySem.W.Frag} {V : Hp} {v : L2.V} {d : PyData} (h : Dq K V v d) (f : flatD d = true) : ∀ {vs : List L2.V} {ds : List PyData}, DqAll K V vs ds → ds.all flatD = true → inV v vs = ds.any fun z => PyData.eqv z d
  | _, _, .nil, _ => rfl
  | _, _, .cons a b, g => by
    rw [List.all_cons, Bool.and_eq_true] at g
    show (eqV _ v || inV v _) = _
    rw [eqV_of a h g.1 f, inV_of h f b g.2]
    rfl
def inDs (x : PyData) (ds : List PyData) : Option Bool := if (flatD x && ds.all flatD) = true then some (ds.any fun z => PyData.eqv z x) else none
def inB : PyData → PyData → Option Bool
  | .str i, .str j => some (!(Builtin.Str.occurrences j i 0 j.length 1).isEmpty)
  | x, .list ds => inDs x ds
  | x, .tuple ds => inDs x ds
  | _, _ => none
def inP (x y : PyData) : Option PyData := (inB x y).map .bool
def notInP (x y : PyData) : Option PyData := (inB x y).map fun b => .bool (!b)
def rInP (K : PySem.W.Frag) (neg : Bool) : R2 := fun x y H Q => (∃ i j, x = .str i ∧ y = .str j ∧ Q (.bl (if neg then !(!(Builtin.Str.occurrences j i 0 j.length 1).isEmpty) else !(Builtin.Str.occurrences j i 0 j.length 1).isEmpty)) H) ∨ rIn K neg x y H Q
theorem op_inP : OpR X (compareOp .In) (rInP X.K false) := op_or2 op_in_str op_in_seq
theorem op_notInP : OpR X (compareOp .NotIn) (rInP X.K true) := op_or2 op_notIn_str op_notIn_seq
theorem in_core {K : PySem.W.Frag} {neg : Bool} {V H : Hp} {x y : L2.V} {d e : PyData} {b : Bool} {Q : VK} (s : Ex V H) (hx : Dq K V x d) (hy : Dq K V y e) (ho : inB d e = some b) (q : ∀ v V' H', Gr V H V' H' → Dq K V' v (.bool (if neg then !b else b)) → Q v H') : rInP K neg x y H Q := by
  have seq : ∀ {ds : List PyData} {p : Addr} {xs : List L2.V}, DqAll K V xs ds → (SqL K H p xs ∨ SqT K H p xs) → inDs d ds = some b → rIn K neg x (.ref p) H Q := fun {ds p xs} da hs h => by
    unfold inDs at h
    split at h
    · rename_i f
      cases h
      rw [Bool.and_eq_true] at f
      refine ⟨p, xs, rfl, hs, flat_of hx f.1, flats_of da f.2, ?_⟩
      rw [inV_of hx f.1 da f.2]
      exact keep s q (.bl _)
    · cases h
  cases hy with
  | lst h1 d1 => exact .inr (seq d1 (.inl (.inl (s.rd h1))) (by cases hx <;> exact ho))
  | tup h1 d1 => exact .inr (seq d1 (.inr (s.sqT h1)) (by cases hx <;> exact ho))
  | str j =>
    cases hx with
    | str i => cases ho; exact .inl ⟨_, _, rfl, rfl, keep s q (.bl _)⟩
    | _ => cases ho
  | _ => cases hx <;> cases ho
theorem od_in {K : PySem.W.Frag} : OpD K (rInP K false) inP := by
  intro V H x y d e z Q s hx hy ho q
  unfold inP at ho
  cases h : inB d e with
  | none => rw [h] at ho; cases ho
  | some b => rw [h] at ho; cases ho; exact in_core s hx hy h q
theorem od_notIn {K : PySem.W.Frag} : OpD K (rInP K true) notInP := by
  intro V H x y d e z Q s hx hy ho q
  unfold notInP at ho
  cases h : inB d e with
  | none => rw [h] at ho; cases ho
  | some b => rw [h] at ho; cases ho; exact in_core s hx hy h q
/-! ### is -/
def isNoneD : PyData → Bool
  | .none => true
  | _ => false
def isB : PyData → PyData → Option Bool
  | .bool a, .bool b => some (decide (a = b))
  | x, .none => some (isNoneD x)
  | _, _ => none
def isP (x y : PyData) : Option PyData := (isB x y).map .bool
def isNotP (x y : PyData) : Option PyData := (isB x y).map fun b => .bool (!b)
def rIsP : R2 := fun x y H Q => rIsB x y H Q ∨ (y = .non ∧ Q (.bl (decide (x = .non))) H)
def rIsNotP : R2 := fun x y H Q => rNotB x y H Q ∨ (y = .non ∧ Q (.bl (!decide (x = .non))) H)
theorem op_isP : OpR X (compareOp .Is) rIsP := op_or2 op_isBl op_isN
theorem op_isNotP : OpR X (compareOp .IsNot) rIsNotP := op_or2 op_notBl op_notN
theorem od_is {K : PySem.W.Frag} : OpD K rIsP isP := by
  intro V H x y d e z Q s hx hy ho q
  cases hy with
  | non => cases hx <;> cases ho <;> exact .inr ⟨rfl, keep s q (.bl _)⟩
  | bl b => cases hx <;> cases ho; exact .inl ⟨_, _, rfl, rfl, keep s q (.bl _)⟩
  | _ => cases hx <;> cases ho
theorem od_isNot {K : PySem.W.Frag} : OpD K rIsNotP isNotP := by
  intro V H x y d e z Q s hx hy ho q
  cases hy with
  | non => cases hx <;> cases ho <;> exact .inr ⟨rfl, keep s q (.bl _)⟩
  | bl b => cases hx <;> cases ho; exact .inl ⟨_, _, rfl, rfl, keep s q (.bl _)⟩
  | _ => cases hx <;> cases ho
/-! ### x[i] -/
def ixP : PyData → PyData → Option PyData
  | .list ds, .int i => atI ds i
  | .tuple ds, .int i => atI ds i
  | .dict [(.list ds, .none)], .int i => atI ds i
  | .str z, .int i => if z.length ≤ 100000 then (atI z.cps.toList i).map fun c => .str ⟨#[c]⟩ else none
  | _, _ => none
theorem at_of {K : PySem.W.Frag} {V : Hp} {vs : List L2.V} {ds : List PyData} {i : Int} {d : PyData} (h : DqAll K V vs ds) (e : atI ds i = some d) : ∃ v, atI vs i = some v ∧ Dq K V v d := by
  unfold atI at e ⊢
  rw [da_len h]
  cases k : ixN ds.length i with
  | none => rw [k] at e; cases e
  | some j => rw [k] at e; exact da_get h e
theorem od_ix {K : PySem.W.Frag} : OpD K (rIx K) ixP := by
  intro V H x y d e z Q s hx hy ho q
  cases hx with
  | lst h1 d1 =>
    cases hy <;> try cases ho
    obtain ⟨v, h2, h3⟩ := at_of d1 ho
    exact .inl ⟨_, _, _, v, rfl, rfl, .inl (s.rd h1), h2, keep s q h3⟩
  | tup h1 d1 =>
    cases hy <;> try cases ho
    obtain ⟨v, h2, h3⟩ := at_of d1 ho
    exact .inr (.inl ⟨_, _, _, v, rfl, rfl, s.sqT h1, h2, keep s q h3⟩)
  | lk h1 d1 =>
    cases hy <;> try cases ho
    obtain ⟨v, h2, h3⟩ := at_of d1 ho
    exact .inl ⟨_, _, _, v, rfl, rfl, s.sqL h1, h2, keep s q h3⟩
  | str w =>
    cases hy <;> try cases ho
    simp only [ixP] at ho
    split at ho
    · rename_i hl
      cases k : atI w.cps.toList ‹Int› with
      | none => rw [k] at ho; cases ho
      | some c => rw [k] at ho; cases ho; exact .inr (.inr ⟨_, _, c, rfl, rfl, line_of hl, k, keep s q (.str _)⟩)
    · cases ho
  | _ => cases hy <;> cases ho
/-! ### len, max, all, any, list, tuple -/
def lenP : List PyData → Option PyData
  | [.str z] => if z.length ≤ 100000 then some (.int z.length) else none
  | [.list ds] => some (.int ds.length)
  | [.tuple ds] => some (.int ds.length)
  | [.dict [(.list ds, .none)]] => some (.int ds.length)
  | _ => none
def rLenP (K : PySem.W.Frag) : List V → Hp → VK → Prop := fun xs H Q => (∃ p ys, xs = [.ref p] ∧ (SqL K H p ys ∨ SqT K H p ys) ∧ Q (.int ys.length) H) ∨ ∃ z, xs = [.str z] ∧ z.length ≤ sizeLine ∧ Q (.int z.length) H
theorem call_lenP : CallR X (.builtin "len") (rLenP X.K) := call_or2 call_len_seq call_len_str
theorem cd_len {K : PySem.W.Frag} : CallD K (rLenP K) lenP := by
  intro V H xs ds z Q s da ho q
  cases da with
  | nil => cases ho
  | cons a r =>
    cases r with
    | cons _ _ => cases a <;> cases ho
    | nil =>
      cases a with
      | str w =>
        simp only [lenP] at ho
        split at ho
        · rename_i hl; cases ho; exact .inr ⟨_, rfl, line_of hl, keep s q (.int _)⟩
        · cases ho
      | lst h1 d1 => cases ho; exact .inl ⟨_, _, rfl, .inl (.inl (s.rd h1)), by rw [da_len d1]; exact keep s q (.int _)⟩
      | tup h1 d1 => cases ho; exact .inl ⟨_, _, rfl, .inr (s.sqT h1), by rw [da_len d1]; exact keep s q (.int _)⟩
      | lk h1 d1 => cases ho; exact .inl ⟨_, _, rfl, .inl (s.sqL h1), by rw [da_len d1]; exact keep s q (.int _)⟩
      | _ => cases ho
def max2P : List PyData → Option PyData
  | [.int i, .int j] => some (.int (if j > i then j else i))
  | _ => none
theorem cd_max2 {K : PySem.W.Frag} : CallD K (fun xs H Q => ∃ i j, xs = [.int i, .int j] ∧ Q (.int (if j > i then j else i)) H) max2P := by
  intro V H xs ds z Q s da ho q
  cases da with
  | nil => cases ho
  | cons a r =>
    cases r with
    | nil => cases a <;> cases ho
    | cons b r =>
      cases r with
      | cons _ _ => cases a <;> cases b <;> cases ho
      | nil => cases a <;> cases b <;> cases ho; exact ⟨_, _, rfl, keep s q (.int _)⟩
def allP : List PyData → Option PyData
  | [.list ds] => (asBools ds).map fun bs => .bool (bs.all id)
  | _ => none
def anyP : List PyData → Option PyData
  | [.list ds] => (asBools ds).map fun bs => .bool (bs.any id)
  | _ => none
theorem cd_all {K : PySem.W.Frag} : CallD K (rAll K) allP := by
  intro V H xs ds z Q s da ho q
  cases da with
  | nil => cases ho
  | cons a r =>
    cases r with
    | cons _ _ => cases a <;> cases ho
    | nil =>
      cases a with
      | @lst p xs ds h1 d1 =>
        simp only [allP] at ho
        cases k : asBools ds with
        | none => rw [k] at ho; cases ho
        | some bs =>
          rw [k] at ho; cases ho
          exact ⟨p, bs, rfl, by rw [← da_asBools d1 k]; exact .inl (s.rd h1), keep s q (.bl _)⟩
      | _ => cases ho
theorem cd_any {K : PySem.W.Frag} : CallD K (rAny K) anyP := by
  intro V H xs ds z Q s da ho q
  cases da with
  | nil => cases ho
  | cons a r =>
    cases r with
    | cons _ _ => cases a <;> cases ho
    | nil =>
      cases a with
      | @lst p xs ds h1 d1 =>
        simp only [anyP] at ho
        cases k : asBools ds with
        | none => rw [k] at ho; cases ho
        | some bs =>
          rw [k] at ho; cases ho
          exact ⟨p, bs, rfl, by rw [← da_asBools d1 k]; exact .inl (s.rd h1), keep s q (.bl _)⟩
      | _ => cases ho
def listP : List PyData → Option PyData
  | [.list ds] => some (.list ds)
  | [.tuple ds] => some (.list ds)
  | _ => none
theorem cd_list {K : PySem.W.Frag} : CallD K (fun xs H Q => ∃ p ys, xs = [.ref p] ∧ (SqL K H p ys ∨ SqT K H p ys) ∧ ∀ l, H l = none → Q (.ref l) (upd H l (.lst ys))) listP := by
  intro V H xs ds z Q s da ho q
  cases da with
  | nil => cases ho
  | cons a r =>
    cases r with
    | cons _ _ => cases a <;> cases ho
    | nil =>
      cases a with
      | lst h1 d1 => cases ho; exact ⟨_, _, rfl, .inl (.inl (s.rd h1)), fun l n => newL s q d1 n⟩
      | tup h1 d1 => cases ho; exact ⟨_, _, rfl, .inr (s.sqT h1), fun l n => newL s q d1 n⟩
      | _ => cases ho
def tupleP : List PyData → Option PyData
  | [.list ds] => some (.tuple ds)
  | [.tuple ds] => some (.tuple ds)
  | _ => none
theorem cd_tuple {K : PySem.W.Frag} : CallD K (fun xs H Q => ∃ p ys, xs = [.ref p] ∧ ((SqL K H p ys ∧ ∀ l, H l = none → Q (.ref l) (upd H l (.tup ys))) ∨ (SqT K H p ys ∧ Q (.ref p) H))) tupleP := by
  intro V H xs ds z Q s da ho q
  cases da with
  | nil => cases ho
  | cons a r =>
    cases r with
    | cons _ _ => cases a <;> cases ho
    | nil =>
      cases a with
      | lst h1 d1 => cases ho; exact ⟨_, _, rfl, .inl ⟨.inl (s.rd h1), fun l n => newT s q d1 n⟩⟩
      | tup h1 d1 => cases ho; exact ⟨_, _, rfl, .inr ⟨s.sqT h1, keep s q (.tup h1 d1)⟩⟩
      | _ => cases ho
/-! ### methods of texts -/
def joinP : PyData → List PyData → Option PyData
  | .str a, [.list ds] => (asStrs ds).bind fun ys => if (ys.map (·.length)).sum + ys.length * a.length ≤ 100000 then some (.str (Txt.join a ys)) else none
  | _, _ => none
theorem md_join {K : PySem.W.Frag} : MtD K (fun x xs H Q => ∃ a p, ∃ ys : List Str, x = .str a ∧ xs = [.ref p] ∧ (SqL K H p (ys.map V.str) ∨ SqT K H p (ys.map V.str)) ∧
    (ys.map (·.length)).sum + ys.length * a.length ≤ 16777216 ∧ Q (.str (Txt.join a ys)) H) joinP := by
  intro V H x xs d ds z Q s hx da ho q
  cases hx with
  | str a =>
    cases da with
    | nil => cases ho
    | cons b r =>
      cases r with
      | cons _ _ => cases b <;> cases ho
      | nil =>
        cases b with
        | @lst p xs ds h1 d1 =>
          simp only [joinP] at ho
          cases k : asStrs ds with
          | none => rw [k] at ho; cases ho
          | some ys =>
            rw [k] at ho
            simp only [Option.bind_some] at ho
            split at ho
            · rename_i hl
              cases ho
              exact ⟨a, p, ys, rfl, rfl, .inl (by rw [← da_asStrs d1 k]; exact .inl (s.rd h1)), by omega, keep s q (.str _)⟩
            · cases ho
        | _ => cases ho
  | _ => cases ho
theorem join_ty (d : PyData) (ds : List PyData) (z : PyData) (h : joinP d ds = some z) : tyD "str" d = true := by
  cases d <;> first | rfl | (simp [joinP] at h)
def sindexP : PyData → List PyData → Option PyData
  | .str a, [.str b] => match Builtin.Str.occurrences a b 0 a.length 1 with
    | i :: _ => some (.int (i : Nat))
    | [] => none
  | _, _ => none
theorem md_sindex {K : PySem.W.Frag} : MtD K (fun x xs H Q => ∃ a b i rest, x = .str a ∧ xs = [.str b] ∧ Builtin.Str.occurrences a b 0 a.length 1 = i :: rest ∧ Q (.int (i : Nat)) H) sindexP := by
  intro V H x xs d ds z Q s hx da ho q
  cases hx with
  | str a =>
    cases da with
    | nil => cases ho
    | cons b r =>
      cases r with
      | cons _ _ => cases b <;> cases ho
      | nil =>
        cases b with
        | str b =>
          simp only [sindexP] at ho
          split at ho
          · rename_i i rest e
            cases ho
            exact ⟨a, b, i, rest, rfl, rfl, e, keep s q (.int _)⟩
          · cases ho
        | _ => cases ho
  | _ => cases ho
theorem sindex_ty (d : PyData) (ds : List PyData) (z : PyData) (h : sindexP d ds = some z) : tyD "str" d = true := by
  cases d <;> first | rfl | (simp [sindexP] at h)
end
end DL

namespace DL
open PySem PySem.Spec PyProof.Rows L2
/-! ### a stable sort that the kernel runs -/
def insD (x : PyData) : List PyData → List PyData
  | [] => [x]
  | y :: ys => if W.dataLt y x = true then y :: insD x ys else x :: y :: ys
def isortD : List PyData → List PyData
  | [] => []
  | x :: xs => insD x (isortD xs)
abbrev leD : PyData → PyData → Bool := W.dataLe false id
theorem leD_eq (a b : PyData) : leD a b = !W.dataLt b a := rfl
theorem leD_total : W.TotalLe leD := W.sortLe_total _ _ _
theorem insD_mem {x z : PyData} : ∀ {ys : List PyData}, z ∈ insD x ys ↔ z = x ∨ z ∈ ys
  | [] => by simp [insD]
  | y :: ys => by
    unfold insD
    split
    · rw [List.mem_cons, insD_mem, List.mem_cons]
      constructor
      · rintro (h | h | h)
        · exact .inr (.inl h)
        · exact .inl h
        · exact .inr (.inr h)
      · rintro (h | h | h)
        · exact .inr (.inl h)
        · exact .inl h
        · exact .inr (.inr h)
    · simp [List.mem_cons]
theorem insD_sorted {x : PyData} : ∀ {ys : List PyData}, ys.Pairwise (fun a b => leD a b = true) → (insD x ys).Pairwise (fun a b => leD a b = true)
  | [], _ => by simp [insD]
  | y :: ys, h => by
    rw [List.pairwise_cons] at h
    unfold insD
    split
    · rename_i q
      rw [List.pairwise_cons]
      refine ⟨fun z hz => ?_, insD_sorted h.2⟩
      rcases insD_mem.mp hz with rfl | hz
      · rcases leD_total.total y z with k | k
        · exact k
        · rw [leD_eq, q] at k; cases k
      · exact h.1 z hz
    · rename_i q
      have hxy : leD x y = true := by rw [leD_eq]; simpa using q
      rw [List.pairwise_cons]
      refine ⟨fun z hz => ?_, List.pairwise_cons.mpr h⟩
      rcases List.mem_cons.mp hz with rfl | hz
      · exact hxy
      · exact leD_total.trans _ _ _ hxy (h.1 z hz)
theorem insD_filter {x c : PyData} : ∀ {ys : List PyData}, ys.Pairwise (fun a b => leD a b = true) → (insD x ys).filter (W.sameRank leD c) = (x :: ys).filter (W.sameRank leD c)
  | [], _ => rfl
  | y :: ys, h => by
    rw [List.pairwise_cons] at h
    unfold insD
    split
    · rename_i q
      rw [List.filter_cons, insD_filter h.2]
      by_cases hx : W.sameRank leD c x = true
      · have hy : W.sameRank leD c y = false := by
          cases k : W.sameRank leD c y with
          | false => rfl
          | true =>
            exfalso
            unfold W.sameRank at k hx
            rw [Bool.and_eq_true] at k hx
            have : leD x y = true := leD_total.trans _ _ _ hx.2 k.1
            rw [leD_eq, q] at this
            cases this
        rw [List.filter_cons_of_pos hx, List.filter_cons_of_pos hx, List.filter_cons_of_neg (by rw [hy]; decide)]
        simp [hy]
      · rw [List.filter_cons_of_neg hx, List.filter_cons_of_neg hx]
        by_cases hy : W.sameRank leD c y = true
        · rw [if_pos hy, List.filter_cons_of_pos hy]
        · rw [if_neg hy, List.filter_cons_of_neg hy]
    · rfl
theorem isortD_sorted : ∀ l : List PyData, (isortD l).Pairwise (fun a b => leD a b = true)
  | [] => by simp [isortD]
  | x :: xs => insD_sorted (isortD_sorted xs)
theorem isortD_filter (c : PyData) : ∀ l : List PyData, (isortD l).filter (W.sameRank leD c) = l.filter (W.sameRank leD c)
  | [] => rfl
  | x :: xs => by
    show (insD x (isortD xs)).filter _ = _
    rw [insD_filter (isortD_sorted xs), List.filter_cons, List.filter_cons, isortD_filter c xs]
theorem isortD_is (l : List PyData) : isortD l = l.mergeSort leD := W.sort_unique leD_total (isortD_sorted l) fun c => isortD_filter c l
/-! ### sorted -/
def sortOk (ds : List PyData) : Bool := (ds.all fun d => ds.all fun e => W.alike d e) && (ds.all fun d => decide (d.depth ≤ 50)) && ((ds.all fun d => match d with | .tuple (_ :: _) => true | _ => false) || (ds.all fun d => match d with | .none => false | .tuple _ => false | _ => true)) && decide (ds.length ≤ 100000) && noLkAll ds
def sortP : List PyData → Option PyData
  | [.list ds] => if sortOk ds = true then some (.list (isortD ds)) else none
  | _ => none
theorem sortOk_1 {ds : List PyData} (h : sortOk ds = true) : W.AllAlike ds ∧ W.Sortable ds ∧ (∀ d ∈ ds, d.depth ≤ 50) ∧ ds.length ≤ 100000 ∧ noLkAll ds = true := by
  unfold sortOk at h
  simp only [Bool.and_eq_true, List.all_eq_true, decide_eq_true_eq, Bool.or_eq_true] at h
  obtain ⟨⟨⟨⟨h1, h2⟩, h3⟩, h4⟩, h5⟩ := h
  refine ⟨fun d hd e he => h1 d hd e he, ?_, h2, h4, h5⟩
  rcases h3 with h3 | h3
  · refine .inl fun d hd => ?_
    have := h3 d hd
    split at this
    · rename_i x r; exact ⟨x, r, rfl⟩
    · cases this
  · refine .inr fun d hd => ?_
    have := h3 d hd
    refine ⟨fun e => ?_, fun xs e => ?_⟩
    · subst e; cases this
    · subst e; cases this
theorem each_of {K : PySem.W.Frag} {V : Hp} {R : Value → PyData → Prop} (f : ∀ x u d, RelV x u → Dq K V x d → R u d) : ∀ {vs : List L2.V} {us : List Value} {ds : List PyData}, Vals vs us → DqAll K V vs ds → W.EachIs R us ds
  | _, _, _, .nil, .nil => .nil
  | _, _, _, .cons r t, .cons a b => .cons (f _ _ _ r a) (each_of f t b)
theorem each_ofP {K : PySem.W.Frag} {V : Hp} {R : Value → PyData → Prop} (f : ∀ x u d, RelV x u → Dp K V x d → R u d) : ∀ {vs : List L2.V} {us : List Value} {ds : List PyData}, Vals vs us → DpAll K V vs ds → W.EachIs R us ds
  | _, _, _, .nil, .nil => .nil
  | _, _, _, .cons r t, .cons a b => .cons (f _ _ _ r a) (each_ofP f t b)
theorem of_each {K : PySem.W.Frag} {V : Hp} : ∀ {us : List Value} {ds : List PyData}, W.EachIs (fun u d => ∃ x, RelV x u ∧ Dq K V x d) us ds → ∃ vs, Vals vs us ∧ DqAll K V vs ds
  | _, _, .nil => ⟨[], .nil, .nil⟩
  | _, _, .cons ⟨x, r, d⟩ t => by
    obtain ⟨vs, h1, h2⟩ := of_each t
    exact ⟨x :: vs, .cons r h1, .cons d h2⟩
def rSortP (K : PySem.W.Frag) : List V → Hp → VK → Prop := fun xs H Q => ∃ V a vs ds, xs = [.ref a] ∧ Ex V H ∧ Rd H a (.lst vs) ∧ DqAll K V vs ds ∧ sortOk ds = true ∧ ∀ p ys, H p = none → DqAll K V ys (isortD ds) → Q (.ref p) (upd H p (.lst ys))
section
variable {X : Cx}
theorem cr_sortP (hu : X.A.units + 64 < cLine) : CallR X (.builtin "sorted") (rSortP X.K) := by
  intro pins s σ H xs us Q I r h
  obtain ⟨V, a, vs, ds, rfl, hx, hs, da, ok, q⟩ := h
  obtain ⟨al, so, dep, len, nl⟩ := sortOk_1 ok
  obtain ⟨z, its, n, rv, hl, e⟩ := lstR I hs
  rw [Vals.ref1 r]
  have ea : W.EachIs (fun u d => ∃ x, RelV x u ∧ Dq X.K V x d) its ds := each_of (fun x u d r d' => ⟨x, r, d'⟩) rv da
  have er : W.EachIs (fun u d => ∃ as, Reads s.heap u (id d) as) its ds := each_ofP (fun x u d r d' => Dp.reads I d x u d' r) rv ((da_mono hx da).dp nl)
  refine W.sorted_data (enc := id) (bs := ds) (R := fun u d => ∃ x, RelV x u ∧ Dq X.K V x d) ⟨_, e, rfl, _, rfl⟩ ea er (by rw [List.map_id]; exact al) (by rw [List.map_id]; exact so) (line_of len) (fun d hd => by have := dep d hd; show X.A.units + 2 + d.depth < _; omega) fun out hlen hout => ?_
  rw [show ds.mergeSort (W.dataLe false id) = isortD ds from (isortD_is ds).symm] at hout
  obtain ⟨ys, k1, k2⟩ := of_each hout
  obtain ⟨ep, he'⟩ := PyProof.Rows.sortedAll_at s.heap its out.toArray
  have hys : ys.length ≤ sizeLine := by
    rw [k1.length, hlen]; exact line_of len
  exact ⟨.ref _, upd H (s.heap.objs.size + 1) (.lst ys), I.laid (t' := s.toks) (fun _ _ => PyProof.Rows.sortedAll_old) (Nat.le_succ _) ⟨hys, out, ep, k1, he'⟩, rfl, q _ _ (I.hok.fresh (Nat.le_succ _)) k2⟩
theorem cd_sort {K : PySem.W.Frag} : CallD K (rSortP K) sortP := by
  intro V H xs ds z Q s da ho q
  cases da with
  | nil => cases ho
  | cons a r =>
    cases r with
    | cons _ _ => cases a <;> cases ho
    | nil =>
      cases a with
      | @lst p vs ds h1 d1 =>
        simp only [sortP] at ho
        split at ho
        · rename_i ok
          cases ho
          exact ⟨V, p, vs, ds, rfl, s, s.rd h1, d1, ok, fun p ys n dy => newL s q dy n⟩
        · cases ho
      | _ => cases ho
/-! ### min, max of a list -/
def mmOk (ds : List PyData) : Bool := (ds.all fun d => ds.all fun e => W.alike d e) && (ds.all fun d => match d with | .none => false | _ => true) && decide (PyData.depthAll ds ≤ 50) && noLkAll ds
theorem mmOk_1 {ds : List PyData} (h : mmOk ds = true) : W.AlikeAll ds ∧ PyData.depthAll ds ≤ 50 ∧ noLkAll ds = true := by
  unfold mmOk at h
  simp only [Bool.and_eq_true, List.all_eq_true, decide_eq_true_eq] at h
  obtain ⟨⟨⟨h1, h2⟩, h3⟩, h4⟩ := h
  exact ⟨⟨fun x hx y hy => h1 x hx y hy, fun x hx e => by have := h2 x hx; subst e; cases this⟩, h3, h4⟩
theorem minD_mem : ∀ (xs : List PyData) (x : PyData), W.minD x xs ∈ x :: xs
  | [], x => by simp [W.minD]
  | y :: ys, x => by
    show (y :: ys).foldl _ x ∈ _
    rw [List.foldl_cons]
    have h := minD_mem ys (if W.dataLt y x = true then y else x)
    show List.foldl _ _ ys ∈ _
    rcases List.mem_cons.mp h with h | h
    · unfold W.minD at h
      rw [h]
      split
      · simp
      · simp
    · exact List.mem_cons_of_mem _ (List.mem_cons_of_mem _ h)
theorem maxD_mem : ∀ (xs : List PyData) (x : PyData), W.maxD x xs ∈ x :: xs
  | [], x => by simp [W.maxD]
  | y :: ys, x => by
    show (y :: ys).foldl _ x ∈ _
    rw [List.foldl_cons]
    have h := maxD_mem ys (if W.dataLt x y = true then y else x)
    show List.foldl _ _ ys ∈ _
    rcases List.mem_cons.mp h with h | h
    · unfold W.maxD at h
      rw [h]
      split
      · simp
      · simp
    · exact List.mem_cons_of_mem _ (List.mem_cons_of_mem _ h)
def mmD (m : PyData → List PyData → PyData) : List PyData → Option PyData
  | [] => none
  | x :: xs => if mmOk (x :: xs) = true then some (m x xs) else none
def minP : List PyData → Option PyData
  | [.list ds] => mmD W.minD ds
  | _ => none
def maxP : List PyData → Option PyData
  | [.list ds] => mmD W.maxD ds
  | [.int i, .int j] => some (.int (if j > i then j else i))
  | _ => none
theorem noLk_mem : ∀ {ds : List PyData} {d : PyData}, noLkAll ds = true → d ∈ ds → noLk d = true
  | x :: xs, d, h, hd => by
    rw [noLkAll, Bool.and_eq_true] at h
    rcases List.mem_cons.mp hd with rfl | hd
    · exact h.1
    · exact noLk_mem h.2 hd
def rMmP (K : PySem.W.Frag) (m : PyData → List PyData → PyData) : List V → Hp → VK → Prop := fun xs H Q => ∃ V a vs x ds, xs = [.ref a] ∧ Ex V H ∧ Rd H a (.lst vs) ∧ DqAll K V vs (x :: ds) ∧ mmOk (x :: ds) = true ∧ ∀ y, Dq K V y (m x ds) → Q y H
theorem mm_end {pins : List (Addr × Obj)} {σ : L2.St} {H V : Hp} {s : Shared} {Q : VK} {vs : List L2.V} {ds : List PyData} {its : List Value} {m : PyData} (I : Inv X pins σ H s) (hx : Ex V H) (rv : Vals vs its) (da : DqAll X.K V vs ds) (al : W.AlikeAll ds) (nl : noLkAll ds = true) (hm : m ∈ ds) (q : ∀ y, Dq X.K V y m → Q y H)
    {i : Nat} {v : Value} {h' : Heap} {tk : Tok} {bs : List Addr} (hi : its.toArray[i]? = some v) (hr : Reads h' v m bs) (hk : ∀ b o, s.heap.get? b = some o → h'.get? b = some o) : EP X pins σ Q v { s with heap := h', toks := tk } := by
  have hl := rv.length
  rw [List.getElem?_toArray] at hi
  have hi' : i < its.length := getN hi
  obtain ⟨y, hy⟩ : ∃ y, vs[i]? = some y := ⟨_, List.getElem?_eq_getElem (by omega)⟩
  obtain ⟨u, hu, ru⟩ := rv.get hy
  rw [hi] at hu; cases hu
  obtain ⟨d, hd, dy⟩ := da_getv da hy
  obtain ⟨as, rd⟩ := Dp.reads I d y v ((dp_mono hx dy).dp (noLk_mem nl (List.mem_of_getElem? hd))) ru
  have e := W.alike_unique d m v as bs (al.1 d (List.mem_of_getElem? hd) m hm) (W.reads_keeps hk rd) hr
  subst e
  exact ⟨y, H, I.kept hk, ru, q y dy⟩
theorem cr_minP (hc : X.calm = true) (hu : X.A.units + 64 < cLine) : CallR X (.builtin "min") (rMmP X.K W.minD) := by
  intro pins s σ H xs us Q I r h
  obtain ⟨V, a, vs, x, ds, rfl, hx, hs, da, ok, q⟩ := h
  obtain ⟨al, dep, nl⟩ := mmOk_1 ok
  obtain ⟨z, its, n, rv, hl, e⟩ := lstR I hs
  rw [Vals.ref1 r]
  obtain ⟨as, ra⟩ := Dp.readsAll I (x :: ds) vs its ((da_mono hx da).dp nl) rv
  refine W.min_list_data (I.ok.hd hc) ⟨_, e, rfl, _, rfl⟩ ra al (by omega) fun i v h' tk bs hi hr hk => ?_
  exact mm_end I hx rv da al nl (minD_mem ds x) q hi hr hk
theorem cr_maxP (hc : X.calm = true) (hu : X.A.units + 64 < cLine) : CallR X (.builtin "max") (rMmP X.K W.maxD) := by
  intro pins s σ H xs us Q I r h
  obtain ⟨V, a, vs, x, ds, rfl, hx, hs, da, ok, q⟩ := h
  obtain ⟨al, dep, nl⟩ := mmOk_1 ok
  obtain ⟨z, its, n, rv, hl, e⟩ := lstR I hs
  rw [Vals.ref1 r]
  obtain ⟨as, ra⟩ := Dp.readsAll I (x :: ds) vs its ((da_mono hx da).dp nl) rv
  refine W.max_list_data (I.ok.hd hc) ⟨_, e, rfl, _, rfl⟩ ra al (by omega) fun i v h' tk bs hi hr hk => ?_
  exact mm_end I hx rv da al nl (maxD_mem ds x) q hi hr hk
theorem cd_min {K : PySem.W.Frag} : CallD K (rMmP K W.minD) minP := by
  intro V H xs ds z Q s da ho q
  cases da with
  | nil => cases ho
  | cons a r =>
    cases r with
    | cons _ _ => cases a <;> cases ho
    | nil =>
      cases a with
      | @lst p vs ds h1 d1 =>
        cases ds with
        | nil => cases ho
        | cons x ds =>
          simp only [minP, mmD] at ho
          split at ho
          · rename_i ok
            cases ho
            exact ⟨V, p, vs, x, ds, rfl, s, s.rd h1, d1, ok, fun y dy => keep s q dy⟩
          · cases ho
      | _ => cases ho
def rMaxP (K : PySem.W.Frag) : List V → Hp → VK → Prop := fun xs H Q => rMmP K W.maxD xs H Q ∨ ∃ i j, xs = [.int i, .int j] ∧ Q (.int (if j > i then j else i)) H
theorem cr_maxA (hc : X.calm = true) (hu : X.A.units + 64 < cLine) : CallR X (.builtin "max") (rMaxP X.K) := call_or2 (cr_maxP hc hu) (call_max2 hc)
theorem cd_max {K : PySem.W.Frag} : CallD K (rMaxP K) maxP := by
  intro V H xs ds z Q s da ho q
  cases da with
  | nil => cases ho
  | cons a r =>
    cases r with
    | cons b r =>
      cases r with
      | nil => cases a <;> cases b <;> cases ho; exact .inr ⟨_, _, rfl, keep s q (.int _)⟩
      | cons _ _ => cases a <;> cases b <;> cases ho
    | nil =>
      cases a with
      | @lst p vs ds h1 d1 =>
        cases ds with
        | nil => cases ho
        | cons x ds =>
          simp only [maxP, mmD] at ho
          split at ho
          · rename_i ok
            cases ho
            exact .inl ⟨V, p, vs, x, ds, rfl, s, s.rd h1, d1, ok, fun y dy => keep s q dy⟩
          · cases ho
      | _ => cases ho
/-! ### isinstance -/
def tyName : PyData → String
  | .none => "NoneType"
  | .bool _ => "bool"
  | .int _ => "int"
  | .str _ => "str"
  | .list _ => "list"
  | .tuple _ => "tuple"
  | .dict _ => "dict"
def isiB (T : String) (d : PyData) : Bool := tyName d == T || (T == "int" && tyName d == "bool")
def isiP (T : String) : PyData → Option PyData
  | .dict _ => none
  | d => some (.bool (isiB T d))
theorem isiP_some {T : String} {d z : PyData} (h : isiP T d = some z) : z = .bool (isiB T d) ∧ ∀ l, d ≠ .dict l := by
  unfold isiP at h
  split at h
  · cases h
  · rename_i n
    cases h
    exact ⟨rfl, fun l e => n l e⟩
theorem kit_all (T : String) (hT : T = "str" ∨ T = "int" ∨ T = "bool" ∨ T = "list" ∨ T = "tuple") {K : PySem.W.Frag} {V : Hp} {v : L2.V} {d : PyData} (h : Dq K V v d) (hn : ∀ l, d ≠ .dict l) : kitB (tyName d) T = some (isiB T d) := by
  have e : ∀ n : String, (n = "NoneType" ∨ n = "bool" ∨ n = "int" ∨ n = "str" ∨ n = "list" ∨ n = "tuple") → kitB n T = some (n == T || (T == "int" && n == "bool")) := by
    intro n hn
    rcases hT with rfl | rfl | rfl | rfl | rfl <;> rcases hn with rfl | rfl | rfl | rfl | rfl | rfl <;> decide +kernel
  exact e (tyName d) (by cases h <;> first | exact absurd rfl (hn _) | simp [tyName])
theorem tyX_of {K : PySem.W.Frag} {V H : Hp} {v : L2.V} {d : PyData} (h : Dq K V v d) (s : Ex V H) (hn : ∀ l, d ≠ .dict l) : TyX K H v (.type (tyName d)) := by
  cases h with
  | lk _ _ => exact absurd rfl (hn _)
  | non => exact .base .non
  | bl b => exact .base (.bl b)
  | int b => exact .base (.int b)
  | str b => exact .base (.str b)
  | lst h1 _ =>
    rcases s.rd h1 with h1 | ⟨o, h1⟩
    · exact .base (.lst h1)
    · exact .base (.frz h1)
  | tup h1 _ =>
    rcases s.sqT h1 with (h1 | ⟨o, h1⟩) | ⟨o, its, n, h1, h2, _⟩
    · exact .base (.tup h1)
    · exact .fTuple h1
    · exact .kTuple h1 h2
theorem de_isi {e : Expr} {f : DE} {T : String} {t : Str} {p p2 pos : Pos} (hT : T = "str" ∨ T = "int" ∨ T = "bool" ∨ T = "list" ∨ T = "tuple") (hg : Gl X "isinstance") (hm : X.mg "isinstance" = none) (hv : bootBuiltins "isinstance" = some (.builtin "isinstance")) (he : PE X e (tD X.K f)) (ht : PE X (.Name t p2) (tC (.ty T)))
    (hs : starEach [e, .Name t p2] X.env = (false, eval e X.env) :: starEach [.Name t p2] X.env := by rfl) (hs2 : starEach [.Name t p2] X.env = [(false, eval (.Name t p2) X.env)] := by rfl) (hpl : (backTo pos (starEach [.Name t p2] X.env)).any (·.1) = false := by rfl) :
    PE X (.Call (.Name "isinstance" p) [e, .Name t p2] [] pos) (tD X.K (d1 (isiP T) f)) :=
  pe_w (pe_callB call_isi hg hm hv (pa_cons he (pa_cons ht pa_nil hs2) hs) (by decide) (by decide) hs hpl) fun σ H Q ⟨BV, B, V, ρ, z, E, hz, q⟩ => by
    obtain ⟨d, hf, ho⟩ := d1_some hz
    obtain ⟨rfl, hn⟩ := isiP_some ho
    exact ⟨BV, B, V, ρ, d, E, hf, fun x V1 H1 G1 D1 => ⟨x, .ty T, _, .type T, isiB T d, rfl, .ty T, tyX_of D1 G1.sub hn, kit_ty (kit_all T hT D1 hn), q _ V1 H1 G1 (.bl _)⟩⟩
/-! ### a dict of the module -/
def tblP (l : List (Str × PyData)) : PyData → Option PyData
  | .str z => l.lookup z
  | _ => none
theorem de_dict {e : Expr} {f : DE} {p : Addr} {x : Str} {px pos : Pos} (l : List (Str × PyData)) (hx : PE X (.Name x px) (tC (.ref p))) (he : PE X e (tD X.K f)) (hs : PlainIx e) (hl : ∀ z d, l.lookup z = some d → ∃ v, KDct X.K X.w p z v ∧ ∀ V, Dq X.K V v d) :
    PE X (.Subscript (.Name x px) e pos) (tD X.K (d1 (tblP l) f)) :=
  pe_w (pe_ix ix_kdict hx he hs) fun σ H Q ⟨BV, B, V, ρ, z, E, hz, q⟩ => by
    obtain ⟨d, hf, ho⟩ := d1_some hz
    refine ⟨BV, B, V, ρ, d, E, hf, fun y V1 H1 G1 D1 => ?_⟩
    cases D1 with
    | str w =>
      obtain ⟨v, h1, h2⟩ := hl w z ho
      exact ⟨p, w, v, rfl, rfl, h1, q v V1 H1 G1 (h2 V1)⟩
    | _ => cases ho
/-! ### list(range(..)), tuple(range(..)) -/
theorem rg_da {K : PySem.W.Frag} {V : Hp} (a b : Int) : DqAll K V (rgV a b) (rangeD a (b - a).toNat) := by
  unfold rgV rangeD
  induction (List.range (b - a).toNat) with
  | nil => exact .nil
  | cons i r ih => exact .cons (.int _) ih
def nRange (f : DE) : DA := fun ρ => match f ρ with
  | some (.int n) => if -100000 ≤ n ∧ n ≤ 100000 then some (rangeD 0 n.toNat) else none
  | _ => none
theorem dn_listRg {e : Expr} {f : DE} {p p2 pos pos2 : Pos} (hc : X.calm = true) (hg : Gl X "list") (hm : X.mg "list" = none) (hg2 : Gl X "range") (hm2 : X.mg "range" = none) (he : PE X e (tD X.K f))
    (na : starEach [.Call (.Name "range" p2) [e] [] pos2] X.env = (false, eval (.Call (.Name "range" p2) [e] [] pos2) X.env) :: starEach [] X.env := by rfl) (na2 : starEach [e] X.env = (false, eval e X.env) :: starEach [] X.env := by rfl) :
    PE X (.Call (.Name "list" p) [.Call (.Name "range" p2) [e] [] pos2] [] pos) (tN X.K (nRange f)) :=
  pe_w (pe_listRg hc hg hm (prg_1 hg2 hm2 he na2) na) fun σ H Q ⟨BV, B, V, ρ, z, E, hz, q⟩ => by
    unfold nRange at hz
    split at hz
    · rename_i n hn
      split at hz
      · rename_i hb
        cases hz
        refine ⟨BV, B, V, ρ, _, E, hn, fun x V1 H1 G1 D1 => ?_⟩
        cases D1
        refine ⟨n, rfl, ⟨by decide, by decide, by omega, by omega, by omega⟩, fun p n' => ?_⟩
        have := rg_da (K := X.K) (V := V1) 0 n
        rw [Int.sub_zero] at this
        exact q p _ V1 _ (G1.trans (Gr.held G1.sub n')) (G1.h.back n') (G1.sub.back n') upd_same this
      · cases hz
    · cases hz
/-! ### slices -/
def cutD (ds : List PyData) (lo hi : Option Int) : List PyData := (ds.drop (HT.sIx ds.length 0 lo)).take (HT.sIx ds.length ds.length hi - HT.sIx ds.length 0 lo)
theorem da_cut {K : PySem.W.Frag} {V : Hp} {vs : List L2.V} {ds : List PyData} (h : DqAll K V vs ds) (lo hi : Option Int) : DqAll K V (cutV vs lo hi) (cutD ds lo hi) := by
  unfold cutV cutD
  rw [da_len h]
  exact da_take _ (da_drop _ h)
def slP : PyData → Option Int → Option Int → Option PyData
  | .str z, lo, hi => if z.length ≤ 100000 then some (.str (cutS z lo hi)) else none
  | .list ds, lo, hi => some (.list (cutD ds lo hi))
  | _, _, _ => none
def oPart : Option DE → List Sl → Option (Option Int)
  | none, _ => some none
  | some f, ρ => match f ρ with
    | some (.int i) => some (some i)
    | _ => none
def dSl (f : DE) (lo hi : Option DE) : DE := fun ρ => (f ρ).bind fun x => (oPart lo ρ).bind fun l => (oPart hi ρ).bind fun u => slP x l u
def tDO (K : PySem.W.Frag) (f : Option DE) : TO := fun σ H Q => ∃ BV B V ρ o, EnvD K BV B V H σ ρ ∧ oPart f ρ = some o ∧ ∀ V' H', Gr V H V' H' → Q o H'
theorem po_w {e : Option Expr} {t t' : TO} (h : PO X e t) (i : ∀ σ H Q, t' σ H Q → t σ H Q) : PO X e t' := ⟨fun pins s σ H Q I q => h.run pins s σ H Q I (i _ _ _ q)⟩
theorem do_none : PO X none (tDO X.K none) := po_w po_none fun σ H Q ⟨BV, B, V, ρ, o, E, h, q⟩ => by
  cases h
  exact q V H (.refl E.sub)
theorem do_some {e : Expr} {f : DE} (h : PE X e (tD X.K f)) : PO X (some e) (tDO X.K (some f)) := po_w (po_some h) fun σ H Q ⟨BV, B, V, ρ, o, E, h, q⟩ => by
  simp only [oPart] at h
  split at h
  · rename_i i hi
    cases h
    refine ⟨BV, B, V, ρ, _, E, hi, fun x V1 H1 G1 D1 => ?_⟩
    cases D1
    exact ⟨i, rfl, q V1 H1 G1⟩
  · cases h
theorem de_slice {e : Expr} {lo hi : Option Expr} {f : DE} {l u : Option DE} {p2 pos : Pos} (he : PE X e (tD X.K f)) (hl : PO X lo (tDO X.K l)) (hu : PO X hi (tDO X.K u)) : PE X (.Subscript e (.Slice lo hi none p2) pos) (tD X.K (dSl f l u)) :=
  pe_w (pe_slice (sl_str.or sl_list) he hl hu) fun σ H Q ⟨BV, B, V, ρ, z, E, hz, q⟩ => by
    unfold dSl at hz
    cases h1 : f ρ with
    | none => rw [h1] at hz; cases hz
    | some d =>
      cases h2 : oPart l ρ with
      | none => rw [h1, h2] at hz; cases hz
      | some lv =>
        cases h3 : oPart u ρ with
        | none => rw [h1, h2, h3] at hz; cases hz
        | some uv =>
          rw [h1, h2, h3] at hz
          simp only [Option.bind_some] at hz
          refine ⟨BV, B, V, ρ, d, E, h1, fun x V1 H1 G1 D1 => ⟨BV, B, V1, ρ, lv, E.grow G1, h2, fun V2 H2 G2 => ⟨BV, B, V2, ρ, uv, (E.grow G1).grow G2, h3, fun V3 H3 G3 => ?_⟩⟩⟩
          have G := G1.trans (G2.trans G3)
          have D3 := dp_mono (G2.v.trans G3.v) D1
          cases D3 with
          | str w =>
            simp only [slP] at hz
            split at hz
            · rename_i hl
              cases hz
              exact .inl ⟨w, rfl, line_of hl, q _ V3 H3 G (.str _)⟩
            · cases hz
          | lst k1 d1 =>
            cases hz
            exact .inr ⟨_, _, rfl, .inl (G.sub.rd k1), fun p n => newL G.sub (fun v V' H' g d => q v V' H' (G.trans g) d) (da_cut d1 lv uv) n⟩
          | _ => cases hz
/-! ### chains -/
def dChain (o o' : PyData → PyData → Option PyData) (f g h : DE) : DE := fun ρ => (f ρ).bind fun x => (g ρ).bind fun y => (o x y).bind fun z => match z with
  | .bool true => (h ρ).bind fun w => o' y w
  | .bool false => some (.bool false)
  | _ => none
theorem tChain_of {K : PySem.W.Frag} {r r' : R2} {o o' : PyData → PyData → Option PyData} (k : OpD K r o) (k' : OpD K r' o') {f g h : DE} (σ : L2.St) (H : Hp) (Q : VK) (t : tD K (dChain o o' f g h) σ H Q) : tChain r r' (tD K f) (tD K g) (tD K h) σ H Q := by
  obtain ⟨BV, B, V, ρ, z, E, hz, q⟩ := t
  unfold dChain at hz
  cases h1 : f ρ with
  | none => rw [h1] at hz; cases hz
  | some x =>
    cases h2 : g ρ with
    | none => rw [h1, h2] at hz; cases hz
    | some y =>
      rw [h1, h2] at hz
      simp only [Option.bind_some] at hz
      cases h3 : o x y with
      | none => rw [h3] at hz; cases hz
      | some c =>
        rw [h3] at hz
        simp only [Option.bind_some] at hz
        refine ⟨BV, B, V, ρ, x, E, h1, fun xv V1 H1 G1 D1 => ⟨BV, B, V1, ρ, y, E.grow G1, h2, fun yv V2 H2 G2 D2 => k V2 H2 xv yv x y c _ G2.sub (dp_mono G2.v D1) D2 h3 fun v V3 H3 G3 D3 => ?_⟩⟩
        have G := G1.trans (G2.trans G3)
        cases D3 with
        | bl b =>
          refine ⟨b, rfl, ?_⟩
          cases b with
          | false => cases hz; exact q _ V3 H3 G (.bl _)
          | true =>
            cases h4 : h ρ with
            | none => rw [h4] at hz; cases hz
            | some wv =>
              rw [h4] at hz
              simp only [Option.bind_some] at hz
              exact ⟨BV, B, V3, ρ, wv, E.grow G, h4, fun w V4 H4 G4 D4 => k' V4 H4 yv w y wv z Q G4.sub (dp_mono (G3.v.trans G4.v) D2) D4 hz fun v V5 H5 G5 D5 => q v V5 H5 (G.trans (G4.trans G5)) D5⟩
        | _ => cases hz
variable {a b c : Expr} {pos : Pos}
theorem de_chain {op op' : CmpOp} {r r' : R2} {o o' : PyData → PyData → Option PyData} {f g h : DE} (ho : OpR X (compareOp op) r) (ho' : OpR X (compareOp op') r') (k : OpD X.K r o) (k' : OpD X.K r' o') (ha : PE X a (tD X.K f)) (hb : PE X b (tD X.K g)) (hc : PE X c (tD X.K h))
    (hm : lastMarks [op, op'] [b, c] = false := by with_unfolding_all rfl) : PE X (.Compare a [op, op'] [b, c] pos) (tD X.K (dChain o o' f g h)) := pe_w (pe_chain ho ho' ha hb hc hm) (tChain_of k k')
theorem dt_chain {op op' : CmpOp} {r r' : R2} {o o' : PyData → PyData → Option PyData} {f g h : DE} (ho : OpR X (compareOp op) r) (ho' : OpR X (compareOp op') r') (k : OpD X.K r o) (k' : OpD X.K r' o') (ha : PE X a (tD X.K f)) (hb : PE X b (tD X.K g)) (hc : PE X c (tD X.K h))
    (hm : lastMarks [op, op'] [b, c] = false := by with_unfolding_all rfl) : PT X (.Compare a [op, op'] [b, c] pos) (tDT X.K (bOf (dChain o o' f g h))) := pt_w (pt_chain ho ho' ha hb hc hm) fun σ H Q t => by
  obtain ⟨BV, B, V, ρ, c, E, hb, q⟩ := t
  exact tChain_of k k' σ H _ ⟨BV, B, V, ρ, _, E, bOf_some hb, fun v V' H' g d => by cases d; exact ⟨c, rfl, q V' H' g⟩⟩
end
end DL

namespace DL
open PySem PySem.Spec PyProof.Rows L2
/-! ### several values at once, some of them new lists that are kept -/
inductive MArgs (K : PySem.W.Frag) (H0 V H : Hp) : List L2.V → List Sl → Prop
  | nil : MArgs K H0 V H [] []
  | d {v : L2.V} {x : PyData} {vs : List L2.V} {ss : List Sl} : Dq K V v x → MArgs K H0 V H vs ss → MArgs K H0 V H (v :: vs) (.d x :: ss)
  | own {p : Addr} {us : List L2.V} {xs : List PyData} {vs : List L2.V} {ss : List Sl} : H0 p = none → V p = none → H p = some (.lst us) → DqAll K V us xs → (∀ (i : Nat) ys, ss[i]? = some (.own ys) → vs[i]? ≠ some (.ref p)) → MArgs K H0 V H vs ss → MArgs K H0 V H (.ref p :: vs) (.own xs :: ss)
theorem MArgs.back {K : PySem.W.Frag} {H H0 V' H' : Hp} (e : Ex H H0) : ∀ {vs : List L2.V} {ss : List Sl}, MArgs K H0 V' H' vs ss → MArgs K H V' H' vs ss
  | _, _, .nil => .nil
  | _, _, .d a r => .d a (r.back e)
  | _, _, .own h0 h1 h2 h3 h4 r => .own (e.back h0) h1 h2 h3 h4 (r.back e)
theorem MArgs.fresh {K : PySem.W.Frag} {H0 V H : Hp} {p : Addr} (hp : H0 p ≠ none) : ∀ {vs : List L2.V} {ss : List Sl}, MArgs K H0 V H vs ss → ∀ (i : Nat) ys, ss[i]? = some (.own ys) → vs[i]? ≠ some (.ref p)
  | _, _, .nil, i, ys, h => by simp at h
  | _, _, .d a r, 0, ys, h => by simp at h
  | _, _, .d a r, i + 1, ys, h => by
    rw [List.getElem?_cons_succ] at h ⊢
    exact r.fresh hp i ys h
  | _, _, .own h0 h1 h2 h3 h4 r, 0, ys, h => by
    rw [List.getElem?_cons_zero]
    intro z
    cases z
    exact hp h0
  | _, _, .own h0 h1 h2 h3 h4 r, i + 1, ys, h => by
    rw [List.getElem?_cons_succ] at h ⊢
    exact r.fresh hp i ys h
abbrev DM := List Sl → Option (List Sl)
def tM (K : PySem.W.Frag) (f : DM) : TA := fun σ H Q => ∃ BV B V ρ ss, EnvD K BV B V H σ ρ ∧ f ρ = some ss ∧ ∀ vs V' H', Gr V H V' H' → MArgs K H V' H' vs ss → Q vs H'
section
variable {X : Cx} {e a b : Expr} {es : List Expr} {pos : Pos} {st : Stmt} {rest : List Stmt}
def mNil : DM := fun _ => some []
def mD (f : DE) (r : DM) : DM := fun ρ => (f ρ).bind fun x => (r ρ).map fun ss => .d x :: ss
def mOwn (f : DA) (r : DM) : DM := fun ρ => (f ρ).bind fun x => (r ρ).map fun ss => .own x :: ss
theorem dm_nil : PA X [] (tM X.K mNil) := pa_w pa_nil fun σ H Q ⟨BV, B, V, ρ, z, E, hz, q⟩ => by
  cases hz
  exact q [] V H (.refl E.sub) .nil
theorem dm_d {f : DE} {r : DM} (ha : PE X e (tD X.K f)) (hr : PA X es (tM X.K r)) (hs : starEach (e :: es) X.env = (false, eval e X.env) :: starEach es X.env := by rfl) : PA X (e :: es) (tM X.K (mD f r)) :=
  pa_w (pa_cons ha hr hs) fun σ H Q ⟨BV, B, V, ρ, z, E, hz, q⟩ => by
    unfold mD at hz
    cases h1 : f ρ with
    | none => rw [h1] at hz; cases hz
    | some x =>
      cases h2 : r ρ with
      | none => rw [h1, h2] at hz; cases hz
      | some ss =>
        rw [h1, h2] at hz; cases hz
        exact ⟨BV, B, V, ρ, x, E, h1, fun v V1 H1 G1 D1 => ⟨BV, B, V1, ρ, ss, E.grow G1, h2, fun vs V2 H2 G2 M2 => q _ V2 H2 (G1.trans G2) (.d (dp_mono G2.v D1) (M2.back G1.h))⟩⟩
theorem dm_own {f : DA} {r : DM} (ha : PE X e (tN X.K f)) (hr : PA X es (tM X.K r)) (hs : starEach (e :: es) X.env = (false, eval e X.env) :: starEach es X.env := by rfl) : PA X (e :: es) (tM X.K (mOwn f r)) :=
  pa_w (pa_cons ha hr hs) fun σ H Q ⟨BV, B, V, ρ, z, E, hz, q⟩ => by
    unfold mOwn at hz
    cases h1 : f ρ with
    | none => rw [h1] at hz; cases hz
    | some x =>
      cases h2 : r ρ with
      | none => rw [h1, h2] at hz; cases hz
      | some ss =>
        rw [h1, h2] at hz; cases hz
        exact ⟨BV, B, V, ρ, x, E, h1, fun p us V1 H1 G1 n1 v1 h1 D1 => ⟨BV, B, V1, ρ, ss, E.grow G1, h2, fun vs V2 H2 G2 M2 => q _ V2 H2 (G1.trans G2)
          (.own n1 (G2.nw p v1 (by rw [h1]; simp)) (G2.h _ _ h1) (da_mono G2.v D1) (M2.fresh (by rw [h1]; simp)) (M2.back G1.h))⟩⟩
def setsD : List Nat → List Sl → List Sl → List Sl
  | i :: is, s :: ss, ρ => setsD is ss (ρ.set i s)
  | _, _, ρ => ρ
def setsV : List Nat → List L2.V → L2.St → L2.St
  | i :: is, s :: ss, ρ => setsV is ss (ρ.set i (some s))
  | _, _, ρ => ρ
theorem EnvD.sets {K : PySem.W.Frag} {BV B V H H0 : Hp} (hB : Ex B H0) : ∀ {is : List Nat} {vs : List L2.V} {ss : List Sl} {σ : L2.St} {ρ : List Sl}, EnvD K BV B V H σ ρ → MArgs K H0 V H vs ss → ss.length = is.length →
    (∀ (i j : Nat) p xs ys, ss[i]? = some (.own xs) → vs[i]? = some (.ref p) → ρ[j]? = some (.own ys) → σ[j]? ≠ some (some (.ref p))) → EnvD K BV B V H (setsV is vs σ) (setsD is ss ρ)
  | [], _, _, σ, ρ, E, .nil, _, _ => E
  | _ :: _, _, _, _, _, _, .nil, h, _ => by simp at h
  | [], _, _, _, _, _, .d _ _, h, _ => by simp at h
  | [], _, _, _, _, _, .own _ _ _ _ _ _, h, _ => by simp at h
  | i :: is, _, _, σ, ρ, E, .d (vs := vs) (ss := ss) d r, h, k => by
    refine EnvD.sets hB (is := is) (E.set d i) r (by simpa using h) fun m j p xs ys h1 h2 h3 => ?_
    rcases get_set h3 with ⟨_, _, z⟩ | ⟨n, h3⟩
    · cases z
    · rw [List.getElem?_set_ne n]
      exact k (m + 1) j p xs ys (by simpa using h1) (by simpa using h2) h3
  | i :: is, _, _, σ, ρ, E, .own (p := p) (vs := vs) (ss := ss) h0 h1 h2 h3 h4 r, h, k => by
    refine EnvD.sets hB (is := is) (E.setOwn h2 h1 (hB.back h0) h3 i fun j ys _ hj => k 0 j p _ ys rfl rfl hj) r (by simpa using h) fun m j q xs ys e1 e2 e3 => ?_
    rcases get_set e3 with ⟨rfl, hl, z⟩ | ⟨n, e3⟩
    · rw [List.getElem?_set_self (E.lt hl)]
      intro z
      cases z
      exact h4 m xs e1 e2
    · rw [List.getElem?_set_ne n]
      exact k (m + 1) j q xs ys (by simpa using e1) (by simpa using e2) e3
theorem EnvD.sets' {K : PySem.W.Frag} {BV B V H V' H' : Hp} {is : List Nat} {vs : List L2.V} {ss : List Sl} {σ : L2.St} {ρ : List Sl} (E : EnvD K BV B V H σ ρ) (g : Gr V H V' H') (m : MArgs K H V' H' vs ss) (hl : ss.length = is.length) : EnvD K BV B V' H' (setsV is vs σ) (setsD is ss ρ) :=
  EnvD.sets E.gr.h (E.grow g) m hl fun i j p xs ys h1 h2 h3 z => by
    obtain ⟨o, q1, q2⟩ := E.sl j _ h3
    rw [z] at q1; cases q1
    obtain ⟨p', us, e, k1, _⟩ := q2
    cases e
    exact m.fresh (p := p) (by rw [k1]; simp) i xs h1 h2
def sMulti (is : List Nat) (f : DM) : DS := fun ρ => (f ρ).bind fun ss => if ss.length = is.length then some (.nx (setsD is ss ρ)) else none
theorem sMulti_some {is : List Nat} {f : DM} {ρ : List Sl} {r : Fl} (h : sMulti is f ρ = some r) : ∃ ss, f ρ = some ss ∧ ss.length = is.length ∧ r = .nx (setsD is ss ρ) := by
  unfold sMulti at h
  cases h1 : f ρ with
  | none => rw [h1] at h; cases h
  | some ss =>
    rw [h1] at h
    by_cases q : ss.length = is.length
    · simp [q] at h; exact ⟨ss, rfl, q, h.symm⟩
    · simp [q] at h
theorem margs_len {K : PySem.W.Frag} {H0 V H : Hp} : ∀ {vs : List L2.V} {ss : List Sl}, MArgs K H0 V H vs ss → vs.length = ss.length
  | _, _, .nil => rfl
  | _, _, .d _ r => by simp [margs_len r]
  | _, _, .own _ _ _ _ _ r => by simp [margs_len r]
theorem ds_par {i j : Nat} {x y : Str} {f : DM} {px py pt : Pos} {kt k2 pt2} (hc : X.calm = true) (hN : X.N.Nodup) (hi : X.N[i]? = some x) (hj : X.N[j]? = some y) (hij : i ≠ j) (hx : X.env.scope.names.lookup x = some .local) (hy : X.env.scope.names.lookup y = some .local) (ha : PA X [a, b] (tM X.K f))
    (hw : swappedStores [.Tuple [.Name x px, .Name y py] kt pt] (.Tuple [a, b] k2 pt2) X.env = pure (some [x, y])) (hs : swapsWithSole [.Tuple [.Name x px, .Name y py] kt pt] (.Tuple [a, b] k2 pt2) pos.line X.env = pure false := by rfl) :
    PS X (.Assign [.Tuple [.Name x px, .Name y py] kt pt] (.Tuple [a, b] k2 pt2) pos) (sD X.K (sMulti [i, j] f)) :=
  ps_w (ps_par hc hN hi hj hij hx hy ha hw hs) fun D σ H ⟨BV, B, V, ρ, r, E, h, q⟩ => by
    obtain ⟨ss, h1, h2, rfl⟩ := sMulti_some h
    refine ⟨BV, B, V, ρ, ss, E, h1, fun vs V' H' g m => ?_⟩
    have hl := margs_len m
    match vs, hl, m with
    | [v, w], _, m => exact ⟨v, w, rfl, q _ V' H' (E.sets' (is := [i, j]) g m h2)⟩
    | [], hl, _ => rw [h2] at hl; simp at hl
    | [_], hl, _ => rw [h2] at hl; simp at hl
    | _ :: _ :: _ :: _, hl, _ => rw [h2] at hl; simp at hl
theorem ds_par3 {i j l : Nat} {x y z : Str} {c : Expr} {f : DM} {px py pz pt : Pos} {kt k2 pt2} (hc : X.calm = true) (hN : X.N.Nodup) (hi : X.N[i]? = some x) (hj : X.N[j]? = some y) (hl : X.N[l]? = some z) (hij : i ≠ j) (hil : i ≠ l) (hjl : j ≠ l)
    (hx : X.env.scope.names.lookup x = some .local) (hy : X.env.scope.names.lookup y = some .local) (hz : X.env.scope.names.lookup z = some .local) (ha : PA X [a, b, c] (tM X.K f))
    (hw : swappedStores [.Tuple [.Name x px, .Name y py, .Name z pz] kt pt] (.Tuple [a, b, c] k2 pt2) X.env = pure (some [x, y, z])) (hs : swapsWithSole [.Tuple [.Name x px, .Name y py, .Name z pz] kt pt] (.Tuple [a, b, c] k2 pt2) pos.line X.env = pure false := by rfl) :
    PS X (.Assign [.Tuple [.Name x px, .Name y py, .Name z pz] kt pt] (.Tuple [a, b, c] k2 pt2) pos) (sD X.K (sMulti [i, j, l] f)) :=
  ps_w (ps_par3 hc hN hi hj hl hij hil hjl hx hy hz ha hw hs) fun D σ H ⟨BV, B, V, ρ, r, E, h, q⟩ => by
    obtain ⟨ss, h1, h2, rfl⟩ := sMulti_some h
    refine ⟨BV, B, V, ρ, ss, E, h1, fun vs V' H' g m => ?_⟩
    have hl := margs_len m
    match vs, hl, m with
    | [u, v, w], _, m => exact ⟨u, v, w, rfl, q _ V' H' (E.sets' (is := [i, j, l]) g m h2)⟩
    | [], hl, _ => rw [h2] at hl; simp at hl
    | [_], hl, _ => rw [h2] at hl; simp at hl
    | [_, _], hl, _ => rw [h2] at hl; simp at hl
    | _ :: _ :: _ :: _ :: _, hl, _ => rw [h2] at hl; simp at hl
/-- by a tuple -/
def gNames : List Nat → TGs
  | [] => gNil
  | i :: is => gCons (gName i) (gNames is)
theorem gNames_ok {Q : L2.St → Hp → Prop} {H : Hp} : ∀ {is : List Nat} {vs : List L2.V} {σ : L2.St}, vs.length = is.length → Q (setsV is vs σ) H → gNames is vs σ H Q
  | [], [], σ, _, q => ⟨rfl, q⟩
  | i :: is, v :: vs, σ, h, q => ⟨v, vs, rfl, gNames_ok (is := is) (by simpa using h) q⟩
  | [], _ :: _, _, h, _ => by simp at h
  | _ :: _, [], _, h, _ => by simp at h
theorem dgn_nil : PGs X [] (gNames []) := pgs_nil
theorem dgn_cons {i : Nat} {is : List Nat} (h1 : PG X e (gName i)) (h2 : PGs X es (gNames is)) (hs : (assignEach (e :: es) X.env).map (·.2) = assign e X.env :: (assignEach es X.env).map (·.2) := by rfl) : PGs X (e :: es) (gNames (i :: is)) := pgs_cons h1 h2 hs
theorem ds_multi {is : List Nat} {ts : List Expr} {k k2 n : Nat} {tp vp : Pos} {f : DM} (hc : X.calm = true) (ha : PA X es (tM X.K f)) (hg : PGs X ts (gNames is)) (hn : (assignEach ts X.env).length = n := by rfl) (hst : (assignEach ts X.env).findIdx? (·.1) = none := by rfl) (hni : is.length = n := by rfl) (hbig : n ≤ 100 := by decide)
    (hs : swapsWithSole [.Tuple ts k tp] (.Tuple es k2 vp) pos.line X.env = pure false := by rfl) (hw : swappedStores [.Tuple ts k tp] (.Tuple es k2 vp) X.env = pure none := by rfl) (h1 : (assignEach [.Tuple ts k tp] X.env).map (·.2) = [assign (.Tuple ts k tp) X.env] := by rfl) :
    PS X (.Assign [.Tuple ts k tp] (.Tuple es k2 vp) pos) (sD X.K (sMulti is f)) :=
  ps_w (ps_asg (pe_tup ha) (pg_tup hc hg hn hst) hs hw h1) fun D σ H ⟨BV, B, V, ρ, r, E, h, q⟩ => by
    obtain ⟨ss, h1, h2, rfl⟩ := sMulti_some h
    refine ⟨BV, B, V, ρ, ss, E, h1, fun vs V' H' g m => ?_⟩
    have hl := margs_len m
    refine ⟨by rw [hl, h2, hni]; exact line_of (by omega), fun p n' => ⟨p, vs, rfl, .inl (.inl upd_same), by rw [hl, h2, hni], gNames_ok (by rw [hl, h2]) ?_⟩⟩
    exact q _ V' _ ((E.sets' (is := is) g m h2).grow (Gr.held g.sub n'))
/-- target = e -/
def sAsg (f : DE) (g : DG) : DS := fun ρ => (f ρ).bind fun d => (g d ρ).map .nx
theorem ds_asg {tg : Expr} {is : List Nat} {f : DE} {g : DG} (he : PE X e (tD X.K f)) (hg : PG X tg (gD X.K is g)) (hs : swapsWithSole [tg] e pos.line X.env = pure false := by rfl) (hw : swappedStores [tg] e X.env = pure none := by rfl)
    (h1 : (assignEach [tg] X.env).map (·.2) = [assign tg X.env] := by rfl) : PS X (.Assign [tg] e pos) (sD X.K (sAsg f g)) := ps_w (ps_asg he hg hs hw h1) fun D σ H ⟨BV, B, V, ρ, r, E, h, q⟩ => by
  unfold sAsg at h
  cases h1 : f ρ with
  | none => rw [h1] at h; cases h
  | some d =>
    rw [h1] at h
    simp only [Option.bind_some] at h
    cases h2 : g d ρ with
    | none => rw [h2] at h; cases h
    | some ρ' =>
      rw [h2] at h; cases h
      exact ⟨BV, B, V, ρ, d, E, h1, fun v V' H' g1 d1 => ⟨BV, B, V', ρ, d, ρ', E.grow g1, d1, h2, fun σ' V2 g2 E2 _ => q σ' V2 H' E2⟩⟩
/-! ### x.extend(e), x own -/
def rExtR : V → List V → Hp → VK → Prop := fun x vs H Q => ∃ l b xs zs, x = .ref l ∧ vs = [.ref b] ∧ H l = some (.lst xs) ∧ Rd H b (.lst zs) ∧ xs.length + zs.length ≤ sizeLine ∧ Q .non (upd H l (.lst (xs ++ zs)))
theorem mt_extR : MtM X "list.extend" rExtR := by
  intro pins s σ H x vs v us Q I rx rv h
  obtain ⟨l, b, xs, zs, rfl, rfl, hH, hB, hz, q⟩ := h
  cases rx
  obtain ⟨u, rfl, ru⟩ := rv.one
  cases ru
  obtain ⟨z, its, n, r, hl, e⟩ := I.lstM hH
  obtain ⟨z2, its2, n2, r2, hl2, e2⟩ := lstR I hB
  have hsz : its.toArray.size + its2.toArray.size ≤ sizeLine := by rw [List.size_toArray, List.size_toArray]; omega
  have hlong : ¬ (!its.toArray.isEmpty && Builtin.List.listTooLong (its.toArray.size + its2.toArray.size)) = true := by
    rw [notLongL hsz, Bool.and_false]
    exact Bool.false_ne_true
  refine call_meets F.slot_list_extend ⟨_, e, rfl⟩ F.entry_list_extend (F.args_list_extend_2 _ _)
    (AutoSeq1.list_extend_list_list_0 l its.toArray n b its2.toArray n2 hlong (by rw [List.size_toArray]; omega) (by omega)) ⟨e, e2, ?_⟩
  refine ⟨.non, _, I.lset (its' := its ++ its2) hH e (by simp) (r.append r2) ?_, rfl, q⟩
  rw [List.length_append]
  omega
def sExt (i : Nat) (f : DE) : DS := fun ρ => (ownAt i ρ).bind fun xs => (f ρ).bind fun d => match d with
  | .list ds => if xs.length + ds.length ≤ 100000 then some (.nx (ρ.set i (.own (xs ++ ds)))) else none
  | _ => none
theorem ds_ext {i : Nat} {f : DE} {o : Expr} {apos cpos : Pos} (ho : PE X o (tVar i)) (he : PE X e (tD X.K f)) (hbase : attributeBase o "extend" X.env (eval o X.env) = eval o X.env := by rfl)
    (hfew : ((backTo cpos (starEach [e] X.env)).all (fun x => !x.1) && (backToKw cpos (keywordEach [] X.env)).all (fun x => x.1.isSome)
      && decide (([e] : List Expr).length + ([] : List Keyword).length + (if ([] : List Keyword).isEmpty then 0 else 1) < 30)) = true := by rfl)
    (hline : (apos.endLine == cpos.line) = true := by rfl) (hs : starEach [e] X.env = [(false, eval e X.env)] := by rfl) :
    PS X (.Expr (.Call (.Attribute o "extend" apos) [e] [] cpos) pos) (sD X.K (sExt i f)) :=
  ps_w (ps_expr (pe_bm PySem.F.plainAttrs_list PySem.F.slot_list_extend PySem.F.type_list_extend mt_extR ho (pa_cons he pa_nil hs) hbase hfew hline hs rfl)) fun D σ H ⟨BV, B, V, ρ, r, E, h, q⟩ => by
    unfold sExt at h
    cases h1 : ownAt i ρ with
    | none => rw [h1] at h; cases h
    | some xs =>
      cases h2 : f ρ with
      | none => rw [h1, h2] at h; cases h
      | some d =>
        rw [h1, h2] at h
        simp only [Option.bind_some] at h
        cases d with
        | list ds =>
          simp only at h
          split at h
          · rename_i hz
            cases h
            obtain ⟨p, vs, es, k1, k2, k4⟩ := own_val E (ownAt_some h1)
            refine ⟨.ref p, es, .inl ⟨rfl, _, .inl (.inl k1)⟩, BV, B, V, ρ, _, E, h2, fun v V' H' g dd => ?_⟩
            cases dd with
            | lst r1 d1 =>
              have k1' := g.h _ _ k1
              refine ⟨p, _, vs, _, rfl, rfl, k1', g.sub.rd r1, by rw [da_len k4, da_len d1]; exact line_of hz, ?_⟩
              exact q σ V' _ ((E.grow g).write (vs := vs) (ownAt_some h1) es (da_app (da_mono g.v k4) d1))
          · cases h
        | _ => cases h
/-! ### looking into an own list -/
def dOwnIx (i : Nat) (g : DE) : DE := fun ρ => (ownAt i ρ).bind fun xs => (g ρ).bind fun y => match y with
  | .int k => atI xs k
  | _ => none
theorem de_ownIx {i : Nat} {g : DE} {o : Expr} (ho : PE X o (tVar i)) (hb : PE X b (tD X.K g)) (hs : PlainIx b) : PE X (.Subscript o b pos) (tD X.K (dOwnIx i g)) :=
  pe_w (pe_ix ix_list ho hb hs) fun σ H Q ⟨BV, B, V, ρ, z, E, hz, q⟩ => by
    unfold dOwnIx at hz
    cases h1 : ownAt i ρ with
    | none => rw [h1] at hz; cases hz
    | some xs =>
      cases h2 : g ρ with
      | none => rw [h1, h2] at hz; cases hz
      | some y =>
        rw [h1, h2] at hz
        simp only [Option.bind_some] at hz
        obtain ⟨p, vs, es, k1, k2, k4⟩ := own_val E (ownAt_some h1)
        refine ⟨.ref p, es, BV, B, V, ρ, y, E, h2, fun v V' H' g1 d1 => ?_⟩
        cases d1 with
        | int k =>
          obtain ⟨w, r1, r2⟩ := at_of (da_mono g1.v k4) hz
          exact ⟨p, vs, k, w, rfl, rfl, .inl (.inl (g1.h _ _ k1)), r1, q w V' H' g1 r2⟩
        | _ => cases hz
def dOwnLen (i : Nat) : DE := fun ρ => (ownAt i ρ).map fun xs => .int xs.length
theorem de_ownLen {i : Nat} {o : Expr} {p : Pos} (hg : Gl X "len") (hm : X.mg "len" = none) (ho : PE X o (tVar i)) (hs : starEach [o] X.env = [(false, eval o X.env)] := by rfl) : PE X (.Call (.Name "len" p) [o] [] pos) (tD X.K (dOwnLen i)) :=
  pe_w (pe_callB call_len_seq hg hm PySem.boot_len (pa_cons ho pa_nil hs) (by decide) (by decide) hs rfl) fun σ H Q ⟨BV, B, V, ρ, z, E, hz, q⟩ => by
    unfold dOwnLen at hz
    cases h1 : ownAt i ρ with
    | none => rw [h1] at hz; cases hz
    | some xs =>
      rw [h1] at hz; cases hz
      obtain ⟨p, vs, es, k1, k2, k4⟩ := own_val E (ownAt_some h1)
      exact ⟨.ref p, es, p, vs, rfl, .inl (.inl (.inl k1)), by rw [da_len k4]; exact q _ V H (.refl E.sub) (.int _)⟩
/-- x[i] = e, x own -/
def sSetIx (i : Nat) (g f : DE) : DS := fun ρ => (f ρ).bind fun d => (ownAt i ρ).bind fun xs => (g ρ).bind fun y => match y with
  | .int k => (ixN xs.length k).map fun j => .nx (ρ.set i (.own (xs.set j d)))
  | _ => none
theorem ds_setIx {i : Nat} {g f : DE} {o : Expr} {p2 : Pos} (ho : PE X o (tVar i)) (hb : PE X b (tD X.K g)) (he : PE X e (tD X.K f)) (hs : swapsWithSole [.Subscript o b p2] e pos.line X.env = pure false := by rfl) (hw : swappedStores [.Subscript o b p2] e X.env = pure none := by rfl)
    (h1 : (assignEach [.Subscript o b p2] X.env).map (·.2) = [assign (.Subscript o b p2) X.env] := by rfl) (ha : ∀ v, assign (.Subscript o b p2) X.env v = (do
      let ov ← holding [v] (eval o X.env)
      let iv ← holding [v, ov] (eval b X.env)
      standAt p2
      holding [v, ov, iv] (setItem ov iv v)
      release [v, ov, iv] []) := by intro _; rfl) : PS X (.Assign [.Subscript o b p2] e pos) (sD X.K (sSetIx i g f)) :=
  ps_w (ps_asg he (pg_sub ho hb set_list ha) hs hw h1) fun D σ H ⟨BV, B, V, ρ, r, E, h, q⟩ => by
    unfold sSetIx at h
    cases h1 : f ρ with
    | none => rw [h1] at h; cases h
    | some d =>
      cases h2 : ownAt i ρ with
      | none => rw [h1, h2] at h; cases h
      | some xs =>
        cases h3 : g ρ with
        | none => rw [h1, h2, h3] at h; cases h
        | some y =>
          rw [h1, h2, h3] at h
          simp only [Option.bind_some] at h
          refine ⟨BV, B, V, ρ, d, E, h1, fun v V1 H1 g1 d1 => ?_⟩
          obtain ⟨p, vs, es, k1, k2, k4⟩ := own_val (E.grow g1) (ownAt_some h2)
          refine ⟨.ref p, es, BV, B, V1, ρ, y, E.grow g1, h3, fun w V2 H2 g2 d2 => ?_⟩
          cases d2 with
          | int k =>
            simp only at h
            cases h4 : ixN xs.length k with
            | none => rw [h4] at h; cases h
            | some j =>
              rw [h4] at h; cases h
              refine ⟨p, vs, k, j, rfl, rfl, g2.h _ _ k1, by rw [da_len k4]; exact h4, ?_⟩
              exact q σ V2 _ ((E.grow (g1.trans g2)).write (vs := vs) (ownAt_some h2) es (da_set (dp_mono g2.v d1) j (da_mono g2.v k4)))
          | _ => cases h
end
end DL

namespace DL
open PySem PySem.Spec PyProof.Rows L2
structure FnAt (K : PySem.W.Frag) (mg : Str → Option Value) (x : Str) (st : Stmt) (ps : List Str) (f : Addr) (fd : FuncData) : Prop where
  F : Fun K x x st f fd
  b : Binds K fd ps []
  g : mg x = some (.ref f)
theorem tbl_of {α β : Type} [BEq α] [LawfulBEq α] {P : α → β → Prop} : ∀ {l : List (α × β)} {z : α} {d : β}, l.lookup z = some d → (∀ k v, (k, v) ∈ l → P k v) → P z d
  | [], _, _, h, _ => by simp at h
  | (k, v) :: r, z, d, h, f => by
    rw [List.lookup_cons] at h
    split at h
    · rename_i e
      cases h
      have : z = k := by simpa using e
      subst this
      exact f _ _ List.mem_cons_self
    · exact tbl_of h fun k v hk => f k v (List.mem_cons_of_mem _ hk)
/-- the script -/
def scr (ns : List Int) : PyData := .dict [(.list (ns.map .int), .none)]
theorem law_end {K : PySem.W.Frag} {D : List PyData → Option PyData} {H : Hp} {a : Addr} {ns : List Int} {E : XK} (h : D [scr ns] = some (.bool true)) (hS : SqL K H a (ns.map V.int)) : spD K 1 D [.ref a] H (fun v _ => v = .bl true) E :=
  ⟨rfl, H, [scr ns], _, .refl, .cons (.lk hS (da_ints ns)) .nil, h, fun v V' H' _ d => by cases d; rfl⟩
section
variable {X : Cx} {e a b : Expr} {es : List Expr} {pos : Pos}
theorem pe_or2 {t u : TE} (h : PE X e t) (k : PE X e u) : PE X e (fun σ H Q => t σ H Q ∨ u σ H Q) := ⟨fun pins s σ H Q I q => q.elim (h.run pins s σ H Q I) (k.run pins s σ H Q I)⟩
theorem pi_or2 {tg : Expr} {t u : TI} (h : PI X tg e t) (k : PI X tg e u) : PI X tg e (fun σ H Q => t σ H Q ∨ u σ H Q) := ⟨fun pins s σ H Q I q => q.elim (h.run pins s σ H Q I) (k.run pins s σ H Q I)⟩
/-- a list, a tuple or a text -/
def items : PyData → Option (List PyData)
  | .list ds => some ds
  | .tuple ds => some ds
  | .str z => some (signs z)
  | _ => none
def aAny (f : DE) : DA := fun ρ => (f ρ).bind items
theorem di_any {tg : Expr} {f : DE} (h : PE X e (tD X.K f)) : PI X tg e (iD X.K (aAny f)) := pi_w (pi_or2 (di_list h) (pi_or2 (di_tup h) (di_str h))) fun σ H R ⟨BV, B, V, ρ, ds, E, hf, q⟩ => by
  unfold aAny at hf
  cases h1 : f ρ with
  | none => rw [h1] at hf; cases hf
  | some d =>
    rw [h1] at hf
    cases d with
    | list xs => exact .inl ⟨BV, B, V, ρ, ds, E, by unfold aList; rw [h1]; exact hf, q⟩
    | tuple xs => exact .inr (.inl ⟨BV, B, V, ρ, ds, E, by unfold aTup; rw [h1]; exact hf, q⟩)
    | str z => exact .inr (.inr ⟨BV, B, V, ρ, ds, E, by unfold aStr; rw [h1]; exact hf, q⟩)
    | _ => cases hf
theorem op_leP : OpR X (compareOp .LtE) (rI0 fun i j => .bl (decide (i ≤ j))) := op_le
theorem op_mulP : OpR X (binaryOp .Mult) (rI CMul fun i j => .int (i * j)) := op_mul
end
end DL

namespace DL
open PySem PySem.Spec PyProof.Rows L2
/-! ### loops over data -/
theorem forGo_inv {g : DG} {F : DS} {P : List Sl → Prop} : ∀ {ds : List PyData} {ρ : List Sl}, (∀ d ∈ ds, ∀ ρ, P ρ → ∃ ρ1 ρ', g d ρ = some ρ1 ∧ F ρ1 = some (.nx ρ') ∧ P ρ') → P ρ → ∃ ρ', forGo g F ds ρ = some (.nx ρ') ∧ P ρ'
  | [], ρ, _, p => ⟨ρ, rfl, p⟩
  | d :: ds, ρ, h, p => by
    obtain ⟨ρ1, ρ2, h1, h2, p2⟩ := h d List.mem_cons_self ρ p
    obtain ⟨ρ3, h3, p3⟩ := forGo_inv (ds := ds) (ρ := ρ2) (fun d hd => h d (List.mem_cons_of_mem _ hd)) p2
    exact ⟨ρ3, by simp only [forGo, h1, h2, Option.bind_some]; exact h3, p3⟩
theorem mem_rangeD {lo : Int} {n : Nat} {d : PyData} (h : d ∈ rangeD lo n) : ∃ i : Nat, i < n ∧ d = .int (lo + i) := by
  unfold rangeD at h
  obtain ⟨i, hi, rfl⟩ := List.mem_map.mp h
  exact ⟨i, List.mem_range.mp hi, rfl⟩
theorem canLay_ints : ∀ ns : List Int, PyData.canLayAll0 (ns.map .int) = true
  | [] => by simp [PyData.canLayAll0]
  | n :: r => by simp [PyData.canLayAll0, PyData.canLay0, canLay_ints r]
theorem depth_ints : ∀ ns : List Int, PyData.depthAll (ns.map .int) ≤ 1
  | [] => by simp [PyData.depthAll]
  | n :: r => by
    have := depth_ints r
    simp [PyData.depthAll, PyData.depth] 
    omega
theorem shaped_ints (ns : List Int) : SeqAt.shaped (.list (ns.map .int)) = true := by
  have h1 := canLay_ints ns
  have h2 := depth_ints ns
  simp only [SeqAt.shaped, PyData.canLay0, h1, PyData.depth, Bool.true_and]
  exact decide_eq_true (by omega)
/-- the draw of a cell -/
theorem scr_ne (ns : List Int) : nePS (scr ns) (.list []) = some (.bool (!ns.isEmpty)) := by
  unfold scr nePS
  simp only [shaped_ints ns, if_true]
  cases ns <;> rfl
theorem scr_len (ns : List Int) : lenP [scr ns] = some (.int ns.length) := by
  unfold scr lenP
  simp
theorem scr_at {ns : List Int} {i : Int} (h0 : 0 ≤ i) (h1 : i < ns.length) : ∃ c, ixP (scr ns) (.int i) = some (.int c) := by
  have hl : i.toNat < ns.length := by omega
  refine ⟨ns[i.toNat], ?_⟩
  show atI (ns.map PyData.int) i = _
  unfold atI ixN
  rw [if_pos h0, if_pos (by rw [List.length_map]; exact h1)]
  simp [hl]
theorem smallI_of {i : Int} (h : -(2 ^ 64) < i ∧ i < 2 ^ 64) : smallI i = true := by
  unfold smallI
  rw [decide_eq_true h.1, decide_eq_true h.2]; rfl
theorem smallD_of {i : Int} (h : 0 < i ∧ i < 2 ^ 64) : smallD i = true := by
  unfold smallD
  rw [decide_eq_true h.1, decide_eq_true h.2]; rfl
theorem mulP_l {i j : Int} (h : -(2 ^ 64) < i ∧ i < 2 ^ 64) : mulP (.int i) (.int j) = some (.int (i * j)) := by
  simp only [mulP, smallI_of h, Bool.true_or, if_true]
theorem mulP_r {i j : Int} (h : -(2 ^ 64) < j ∧ j < 2 ^ 64) : mulP (.int i) (.int j) = some (.int (i * j)) := by
  simp only [mulP, smallI_of h, Bool.or_true, if_true]
theorem fdivP_eq {i j : Int} (h : 0 < j ∧ j < 2 ^ 64) : fdivP (.int i) (.int j) = some (.int (i / j)) := by
  simp only [fdivP, smallD_of h, if_true]
theorem modP_eq {i j : Int} (h : 0 < j) : modP (.int i) (.int j) = some (.int (i % j)) := by
  simp only [modP, h, if_true]
theorem addP_eq (i j : Int) : addP (.int i) (.int j) = some (.int (i + j)) := rfl
theorem subP_eq (i j : Int) : subP (.int i) (.int j) = some (.int (i - j)) := rfl
theorem gtP_eq (i j : Int) : gtP (.int i) (.int j) = some (.bool (decide (j < i))) := rfl
end DL
namespace DL
open PySem L2
/-! ### signs and traffic -/
def sgC (a : Fin 4) : Nat := [80, 45, 71, 84].getD a.val 0
def trC (a : Fin 4) : Nat := [46, 76, 83, 82].getD a.val 0
def st4 (f : Fin 4 → Nat) (a b c d : Fin 4) : Str := ⟨#[f a, f b, f c, f d]⟩
theorem join4S : ∀ a b c d : Fin 4, Txt.join "" [⟨#[sgC a]⟩, ⟨#[sgC b]⟩, ⟨#[sgC c]⟩, ⟨#[sgC d]⟩] = st4 sgC a b c d := by decide +kernel
theorem join4T : ∀ a b c d : Fin 4, Txt.join "" [⟨#[trC a]⟩, ⟨#[trC b]⟩, ⟨#[trC c]⟩, ⟨#[trC d]⟩] = st4 trC a b c d := by decide +kernel
theorem joinP4 {f : Fin 4 → Nat} (h : ∀ a b c d, Txt.join "" [⟨#[f a]⟩, ⟨#[f b]⟩, ⟨#[f c]⟩, ⟨#[f d]⟩] = st4 f a b c d) (a b c d : Fin 4) :
    joinP (.str "") [.list [.str ⟨#[f a]⟩, .str ⟨#[f b]⟩, .str ⟨#[f c]⟩, .str ⟨#[f d]⟩]] = some (.str (st4 f a b c d)) := by
  simp only [joinP, asStrs, Option.map_some, Option.bind_some]
  have e : (("" : Str)).length = 0 := by decide
  rw [e, if_pos (by simp [Str.length]), h a b c d]
theorem lt8 {n : Int} (h0 : 0 ≤ n) (h1 : n < 8) : n = 0 ∨ n = 1 ∨ n = 2 ∨ n = 3 ∨ n = 4 ∨ n = 5 ∨ n = 6 ∨ n = 7 := by omega
theorem lt6 {n : Int} (h0 : 0 ≤ n) (h1 : n < 6) : n = 0 ∨ n = 1 ∨ n = 2 ∨ n = 3 ∨ n = 4 ∨ n = 5 := by omega
end DL
namespace DL
open PySem L2
def isT : Option PyData → Bool
  | some (.bool true) => true
  | _ => false
def isF : Option PyData → Bool
  | some (.bool false) => true
  | _ => false
def isI (i : Int) : Option PyData → Bool
  | some (.int j) => decide (j = i)
  | _ => false
theorem of_isT {x : Option PyData} (h : isT x = true) : x = some (.bool true) := by
  unfold isT at h
  split at h
  · rfl
  · cases h
theorem of_isF {x : Option PyData} (h : isF x = true) : x = some (.bool false) := by
  unfold isF at h
  split at h
  · rfl
  · cases h
theorem of_isI {i : Int} {x : Option PyData} (h : isI i x = true) : x = some (.int i) := by
  unfold isI at h
  split at h
  · rename_i j; rw [of_decide_eq_true h]
  · cases h
end DL
namespace DL
open PySem L2
def rk : Fin 4 → Int
  | 0 => 2
  | 1 => 1
  | 2 => 0
  | 3 => 0
def isBo (b : Bool) : Option PyData → Bool
  | some (.bool c) => c == b
  | _ => false
theorem of_isBo {b : Bool} {x : Option PyData} (h : isBo b x = true) : x = some (.bool b) := by
  unfold isBo at h
  split at h
  · rw [eq_of_beq h]
  · cases h
theorem sg_P (z : Fin 4) : eqP (.str ⟨#[sgC z]⟩) (.str "P") = some (.bool (z == 0)) := by
  have h : ∀ z : Fin 4, isBo (z == 0) (eqP (.str ⟨#[sgC z]⟩) (.str "P")) = true := by decide +kernel
  exact of_isBo (h z)
theorem sg_N (z : Fin 4) : eqP (.str ⟨#[sgC z]⟩) (.str "-") = some (.bool (z == 1)) := by
  have h : ∀ z : Fin 4, isBo (z == 1) (eqP (.str ⟨#[sgC z]⟩) (.str "-")) = true := by decide +kernel
  exact of_isBo (h z)
theorem neI (i j : Int) : nePS (.int i) (.int j) = some (.bool (!(i == j))) := by
  show neP (.int i) (.int j) = _
  unfold neP
  rw [if_pos (by simp [SeqAt.shaped, PyData.canLay0, PyData.depth])]
  simp [PyData.eqv]
end DL

namespace DL
open PySem L2
/-! ### a denotation does not look at slots that it has not set; what it does not set stays -/
def Le (ρ ρ' : List Sl) : Prop := ρ.length = ρ'.length ∧ ∀ (i : Nat) (s : Sl), ρ[i]? = some s → s = .un ∨ ρ'[i]? = some s
theorem Le.refl (ρ : List Sl) : Le ρ ρ := ⟨rfl, fun _ _ h => .inr h⟩
theorem Le.set {ρ ρ' : List Sl} (h : Le ρ ρ') (i : Nat) (s : Sl) : Le (ρ.set i s) (ρ'.set i s) := by
  refine ⟨by simp [h.1], fun j t e => ?_⟩
  rcases get_set e with ⟨rfl, hl, rfl⟩ | ⟨n, e⟩
  · exact .inr (List.getElem?_set_self (by rw [← h.1]; exact hl))
  · rw [List.getElem?_set_ne n]
    exact h.2 j t e
theorem Le.wipe {ρ ρ' : List Sl} (h : Le ρ ρ') : ∀ vs : List Nat, Le (wipeD ρ vs) (wipeD ρ' vs)
  | [] => h
  | v :: vs => (h.wipe vs).set v .un
def ME {α : Type} (f : List Sl → Option α) : Prop := ∀ ρ ρ' d, Le ρ ρ' → f ρ = some d → f ρ' = some d
def Fr (W : List Nat) (ρ ρ1 : List Sl) : Prop := ∀ i, i ∉ W → ρ1[i]? = ρ[i]?
theorem Fr.refl {W : List Nat} {ρ : List Sl} : Fr W ρ ρ := fun _ _ => rfl
theorem Fr.trans {W : List Nat} {ρ ρ1 ρ2 : List Sl} (a : Fr W ρ ρ1) (b : Fr W ρ1 ρ2) : Fr W ρ ρ2 := fun i h => (b i h).trans (a i h)
theorem Fr.set {W : List Nat} {ρ : List Sl} {i : Nat} {s : Sl} (h : i ∈ W) : Fr W ρ (ρ.set i s) := fun j n => List.getElem?_set_ne (fun z => n (by rw [← z]; exact h))
def FlLe (W : List Nat) (ρ' : List Sl) : Fl → Fl → Prop
  | .nx a, .nx b => Le a b ∧ Fr W ρ' b
  | .bk a, .bk b => Le a b ∧ Fr W ρ' b
  | .ct a, .ct b => Le a b ∧ Fr W ρ' b
  | .rt a, .rt b => a = b
  | _, _ => False
def SF (W : List Nat) (F : DS) : Prop := ∀ ρ ρ' r, Le ρ ρ' → F ρ = some r → ∃ r', F ρ' = some r' ∧ FlLe W ρ' r r'
def MG (W : List Nat) (g : DG) : Prop := ∀ d ρ ρ' ρ1, Le ρ ρ' → g d ρ = some ρ1 → ∃ ρ1', g d ρ' = some ρ1' ∧ Le ρ1 ρ1' ∧ Fr W ρ' ρ1'
def MGs (W : List Nat) (g : DGs) : Prop := ∀ d ρ ρ' ρ1, Le ρ ρ' → g d ρ = some ρ1 → ∃ ρ1', g d ρ' = some ρ1' ∧ Le ρ1 ρ1' ∧ Fr W ρ' ρ1'
theorem bind_some {α β : Type} {x : Option α} {f : α → Option β} {b : β} (h : x.bind f = some b) : ∃ a, x = some a ∧ f a = some b := by
  cases x with
  | none => cases h
  | some a => exact ⟨a, rfl, h⟩
theorem map_some {α β : Type} {x : Option α} {f : α → β} {b : β} (h : x.map f = some b) : ∃ a, x = some a ∧ f a = b := by
  cases x with
  | none => cases h
  | some a => exact ⟨a, rfl, Option.some.inj h⟩
/-- expressions -/
theorem me_var {i : Nat} : ME (dVar i) := fun ρ ρ' d h e => by
  unfold dVar at e ⊢
  cases q : ρ[i]? with
  | none => rw [q] at e; cases e
  | some s =>
    rw [q] at e
    cases s with
    | un => cases e
    | own _ => cases e
    | d x =>
      rcases h.2 i _ q with z | z
      · cases z
      · rw [z]; exact e
theorem me_c {d : PyData} : ME (dC d) := fun _ _ _ _ e => e
theorem me_d2 {o : PyData → PyData → Option PyData} {f g : DE} (hf : ME f) (hg : ME g) : ME (d2 o f g) := fun ρ ρ' d h e => by
  obtain ⟨x, h1, e⟩ := bind_some e
  obtain ⟨y, h2, e⟩ := bind_some e
  simp only [d2, hf _ _ _ h h1, hg _ _ _ h h2, Option.bind_some]
  exact e
theorem me_d1 {o : PyData → Option PyData} {f : DE} (hf : ME f) : ME (d1 o f) := fun ρ ρ' d h e => by
  obtain ⟨x, h1, e⟩ := bind_some e
  simp only [d1, hf _ _ _ h h1, Option.bind_some]
  exact e
theorem me_dL {f : DA} (hf : ME f) : ME (dL f) := fun ρ ρ' d h e => by
  obtain ⟨x, h1, e⟩ := map_some e
  simp only [dL, hf _ _ _ h h1, Option.map_some, e]
theorem me_small {f : DA} (hf : ME f) : ME (aSmall f) := fun ρ ρ' d h e => by
  obtain ⟨x, h1, e⟩ := bind_some e
  simp only [aSmall, hf _ _ _ h h1, Option.bind_some]
  exact e
theorem me_tup {f : DA} (hf : ME f) : ME (dTup f) := fun ρ ρ' d h e => by
  obtain ⟨x, h1, e⟩ := map_some e
  simp only [dTup, me_small hf _ _ _ h h1, Option.map_some, e]
theorem me_nil : ME aNil := fun _ _ _ _ e => e
theorem me_cons {f : DE} {r : DA} (hf : ME f) (hr : ME r) : ME (aCons f r) := fun ρ ρ' d h e => by
  obtain ⟨x, h1, e⟩ := bind_some e
  obtain ⟨y, h2, e⟩ := map_some e
  simp only [aCons, hf _ _ _ h h1, hr _ _ _ h h2, Option.bind_some, Option.map_some, e]
theorem me_call {o : List PyData → Option PyData} {f : DA} (hf : ME f) : ME (dCall o f) := fun ρ ρ' d h e => by
  obtain ⟨x, h1, e⟩ := bind_some e
  simp only [dCall, hf _ _ _ h h1, Option.bind_some]
  exact e
theorem me_m {o : PyData → List PyData → Option PyData} {f : DE} {g : DA} (hf : ME f) (hg : ME g) : ME (dM o f g) := fun ρ ρ' d h e => by
  obtain ⟨x, h1, e⟩ := bind_some e
  obtain ⟨y, h2, e⟩ := bind_some e
  simp only [dM, hf _ _ _ h h1, hg _ _ _ h h2, Option.bind_some]
  exact e
theorem me_bOf {f : DE} (hf : ME f) : ME (bOf f) := fun ρ ρ' d h e => by
  have := hf _ _ _ h (bOf_some e)
  unfold bOf
  rw [this]
theorem me_bAnd {f g : DB} (hf : ME f) (hg : ME g) : ME (bAnd f g) := fun ρ ρ' d h e => by
  obtain ⟨x, h1, e⟩ := bind_some e
  simp only [bAnd, hf _ _ _ h h1, Option.bind_some]
  cases x with
  | true => exact hg _ _ _ h e
  | false => exact e
theorem me_bOr {f g : DB} (hf : ME f) (hg : ME g) : ME (bOr f g) := fun ρ ρ' d h e => by
  obtain ⟨x, h1, e⟩ := bind_some e
  simp only [bOr, hf _ _ _ h h1, Option.bind_some]
  cases x with
  | true => exact e
  | false => exact hg _ _ _ h e
theorem me_bNot {f : DB} (hf : ME f) : ME (bNot f) := fun ρ ρ' d h e => by
  obtain ⟨x, h1, e⟩ := map_some e
  simp only [bNot, hf _ _ _ h h1, Option.map_some, e]
theorem me_vAnd {f g : DE} (hf : ME f) (hg : ME g) : ME (vAnd f g) := fun ρ ρ' d h e => by
  obtain ⟨x, h1, e⟩ := bind_some e
  simp only [vAnd, me_bOf hf _ _ _ h h1, Option.bind_some]
  cases x with
  | true => exact hg _ _ _ h e
  | false => exact e
theorem me_vOr {f g : DE} (hf : ME f) (hg : ME g) : ME (vOr f g) := fun ρ ρ' d h e => by
  obtain ⟨x, h1, e⟩ := bind_some e
  simp only [vOr, me_bOf hf _ _ _ h h1, Option.bind_some]
  cases x with
  | true => exact e
  | false => exact hg _ _ _ h e
theorem me_vNot {f : DE} (hf : ME f) : ME (vNot f) := fun ρ ρ' d h e => by
  obtain ⟨x, h1, e⟩ := map_some e
  simp only [vNot, me_bOf hf _ _ _ h h1, Option.map_some, e]
theorem me_if {t : DB} {f g : DE} (ht : ME t) (hf : ME f) (hg : ME g) : ME (dIf t f g) := fun ρ ρ' d h e => by
  obtain ⟨x, h1, e⟩ := bind_some e
  simp only [dIf, ht _ _ _ h h1, Option.bind_some]
  cases x with
  | true => exact hf _ _ _ h e
  | false => exact hg _ _ _ h e
theorem me_yes : ME tYesD := fun _ _ _ _ e => e
theorem me_any {f : DE} (hf : ME f) : ME (aAny f) := fun ρ ρ' d h e => by
  obtain ⟨x, h1, e⟩ := bind_some e
  simp only [aAny, hf _ _ _ h h1, Option.bind_some]
  exact e
theorem me_range {f : DA} (hf : ME f) : ME (aRange f) := fun ρ ρ' d h e => by
  obtain ⟨x, h1, e⟩ := bind_some e
  simp only [aRange, hf _ _ _ h h1, Option.bind_some]
  exact e
theorem me_nRange {f : DE} (hf : ME f) : ME (nRange f) := fun ρ ρ' d h e => by
  unfold nRange at e ⊢
  cases q : f ρ with
  | none => rw [q] at e; cases e
  | some x => rw [q] at e; rw [hf _ _ _ h q]; exact e
theorem me_oPart {f : Option DE} (hf : ∀ g, f = some g → ME g) : ME (oPart f) := fun ρ ρ' d h e => by
  cases f with
  | none => exact e
  | some g =>
    simp only [oPart] at e ⊢
    cases q : g ρ with
    | none => rw [q] at e; cases e
    | some x => rw [q] at e; rw [hf g rfl _ _ _ h q]; exact e
theorem me_sl {f : DE} {lo hi : Option DE} (hf : ME f) (hl : ∀ g, lo = some g → ME g) (hh : ∀ g, hi = some g → ME g) : ME (dSl f lo hi) := fun ρ ρ' d h e => by
  obtain ⟨x, h1, e⟩ := bind_some e
  obtain ⟨y, h2, e⟩ := bind_some e
  obtain ⟨z, h3, e⟩ := bind_some e
  simp only [dSl, hf _ _ _ h h1, me_oPart hl _ _ _ h h2, me_oPart hh _ _ _ h h3, Option.bind_some]
  exact e
theorem me_pn : ∀ g : DE, (none : Option DE) = some g → ME g := fun _ h => by cases h
theorem me_ps {f : DE} (hf : ME f) : ∀ g : DE, some f = some g → ME g := fun _ h => by cases h; exact hf
theorem me_chain {o o' : PyData → PyData → Option PyData} {f g k : DE} (hf : ME f) (hg : ME g) (hk : ME k) : ME (dChain o o' f g k) := fun ρ ρ' d h e => by
  obtain ⟨x, h1, e⟩ := bind_some e
  obtain ⟨y, h2, e⟩ := bind_some e
  obtain ⟨z, h3, e⟩ := bind_some e
  simp only [dChain, hf _ _ _ h h1, hg _ _ _ h h2, h3, Option.bind_some]
  split at e
  · obtain ⟨w, h4, e⟩ := bind_some e
    simp only [hk _ _ _ h h4, Option.bind_some]
    exact e
  · exact e
  · cases e
theorem own_le {i : Nat} {ρ ρ' : List Sl} {xs : List PyData} (h : Le ρ ρ') (e : ownAt i ρ = some xs) : ownAt i ρ' = some xs := by
  rcases h.2 i _ (ownAt_some e) with z | z
  · cases z
  · unfold ownAt; rw [z]
theorem me_ownIx {i : Nat} {g : DE} (hg : ME g) : ME (dOwnIx i g) := fun ρ ρ' d h e => by
  obtain ⟨x, h1, e⟩ := bind_some e
  obtain ⟨y, h2, e⟩ := bind_some e
  simp only [dOwnIx, own_le h h1, hg _ _ _ h h2, Option.bind_some]
  exact e
theorem me_ownLen {i : Nat} : ME (dOwnLen i) := fun ρ ρ' d h e => by
  obtain ⟨x, h1, e⟩ := map_some e
  simp only [dOwnLen, own_le h h1, Option.map_some, e]
/-- targets -/
theorem mg_n {W : List Nat} {i : Nat} (hi : i ∈ W) : MG W (gN i) := fun d ρ ρ' ρ1 h e => by
  cases e
  exact ⟨_, rfl, h.set i _, Fr.set hi⟩
theorem mgs_nil {W : List Nat} : MGs W gsNil := fun d ρ ρ' ρ1 h e => by
  cases d with
  | nil => cases e; exact ⟨_, rfl, h, .refl⟩
  | cons _ _ => cases e
theorem mgs_cons {W : List Nat} {g : DG} {r : DGs} (hg : MG W g) (hr : MGs W r) : MGs W (gsCons g r) := fun d ρ ρ' ρ1 h e => by
  cases d with
  | nil => cases e
  | cons d ds =>
    obtain ⟨x, h1, e⟩ := bind_some (x := g d ρ) e
    obtain ⟨y, h2, l2, f2⟩ := hg _ _ _ _ h h1
    obtain ⟨z, h3, l3, f3⟩ := hr _ _ _ _ l2 e
    exact ⟨z, by simp only [gsCons, h2, Option.bind_some]; exact h3, l3, f2.trans f3⟩
theorem mg_t {W : List Nat} {n : Nat} {r : DGs} (hr : MGs W r) : MG W (gT n r) := fun d ρ ρ' ρ1 h e => by
  cases d with
  | tuple ds =>
    simp only [gT] at e ⊢
    by_cases q : ds.length = n
    · rw [if_pos q] at e ⊢
      exact hr _ _ _ _ h e
    · rw [if_neg q] at e; cases e
  | _ => cases e
theorem lcGo_me {W : List Nat} {g : DG} {t : DB} {f : DE} (hg : MG W g) (ht : ME t) (hf : ME f) {ρ ρ' : List Sl} (h : Le ρ ρ') : ∀ (ds ys : List PyData), lcGo g t f ρ ds = some ys → lcGo g t f ρ' ds = some ys
  | [], ys, e => e
  | d :: ds, ys, e => by
    unfold lcGo at e ⊢
    obtain ⟨x, h1, e⟩ := bind_some e
    obtain ⟨b, h2, e⟩ := bind_some e
    obtain ⟨x', h3, l3, _⟩ := hg _ _ _ _ h h1
    simp only [h3, ht _ _ _ l3 h2, Option.bind_some]
    cases b with
    | true =>
      simp only [if_true] at e ⊢
      obtain ⟨y, h4, e⟩ := bind_some e
      obtain ⟨zs, h5, e⟩ := map_some e
      simp only [hf _ _ _ l3 h4, lcGo_me hg ht hf h ds zs h5, Option.bind_some, Option.map_some, e]
    | false =>
      simp only [Bool.false_eq_true, if_false] at e ⊢
      exact lcGo_me hg ht hf h ds ys e
theorem me_lc {W : List Nat} {it : DA} {g : DG} {t : DB} {f : DE} {vs : List Nat} (hi : ME it) (hg : MG W g) (ht : ME t) (hf : ME f) : ME (nLc it g t f vs) := fun ρ ρ' d h e => by
  obtain ⟨ds, h1, e⟩ := bind_some e
  simp only [nLc, hi _ _ _ h h1, Option.bind_some]
  by_cases q : ds.length ≤ 90000
  · rw [if_pos q] at e ⊢
    exact lcGo_me hg ht hf (h.wipe vs) ds d e
  · rw [if_neg q] at e; cases e
variable {W : List Nat}
theorem sf_no : SF W sNo := fun _ _ _ _ e => by cases e
theorem sf_skip : SF W sSkip := fun ρ ρ' r h e => by
  cases e
  exact ⟨_, rfl, h, .refl⟩
theorem FlLe.mono {ρ ρ1 : List Sl} {r r' : Fl} (f : Fr W ρ ρ1) (h : FlLe W ρ1 r r') : FlLe W ρ r r' := by
  cases r <;> cases r' <;> first | exact h | exact ⟨h.1, f.trans h.2⟩
theorem sf_seq {F G : DS} (hF : SF W F) (hG : SF W G) : SF W (sSeq F G) := fun ρ ρ' r h e => by
  obtain ⟨x, h1, e⟩ := bind_some e
  obtain ⟨x', h2, l2⟩ := hF _ _ _ h h1
  cases x with
  | nx a =>
    cases x' with
    | nx b =>
      obtain ⟨r', h3, l3⟩ := hG _ _ _ l2.1 e
      exact ⟨r', by simp only [sSeq, h2, Option.bind_some]; exact h3, l3.mono l2.2⟩
    | _ => exact l2.elim
  | rt a => cases e; exact ⟨x', by cases x' <;> first | exact l2.elim | (simp only [sSeq, h2, Option.bind_some]), l2⟩
  | bk a => cases e; exact ⟨x', by cases x' <;> first | exact l2.elim | (simp only [sSeq, h2, Option.bind_some]), l2⟩
  | ct a => cases e; exact ⟨x', by cases x' <;> first | exact l2.elim | (simp only [sSeq, h2, Option.bind_some]), l2⟩
theorem sf_expr {f : DE} (hf : ME f) : SF W (sExpr f) := fun ρ ρ' r h e => by
  obtain ⟨x, h1, e⟩ := map_some e
  subst e
  exact ⟨.nx ρ', by simp only [sExpr, hf _ _ _ h h1, Option.map_some], h, .refl⟩
theorem sf_ret {f : DE} (hf : ME f) : SF W (sRet f) := fun ρ ρ' r h e => by
  obtain ⟨x, h1, e⟩ := map_some e
  subst e
  exact ⟨.rt x, by simp only [sRet, hf _ _ _ h h1, Option.map_some], rfl⟩
theorem sf_if {t : DB} {F G : DS} (ht : ME t) (hF : SF W F) (hG : SF W G) : SF W (sIf t F G) := fun ρ ρ' r h e => by
  obtain ⟨x, h1, e⟩ := bind_some e
  simp only [sIf, ht _ _ _ h h1, Option.bind_some]
  cases x with
  | true => exact hF _ _ _ h e
  | false => exact hG _ _ _ h e
theorem sf_set {i : Nat} {f : DE} (hi : i ∈ W) (hf : ME f) : SF W (sSet i f) := fun ρ ρ' r h e => by
  obtain ⟨x, h1, e⟩ := map_some e
  subst e
  exact ⟨.nx (ρ'.set i (.d x)), by simp only [sSet, hf _ _ _ h h1, Option.map_some], h.set i _, Fr.set hi⟩
theorem sf_own {i : Nat} {f : DA} (hi : i ∈ W) (hf : ME f) : SF W (sOwn i f) := fun ρ ρ' r h e => by
  obtain ⟨x, h1, e⟩ := map_some e
  subst e
  exact ⟨.nx (ρ'.set i (.own x)), by simp only [sOwn, hf _ _ _ h h1, Option.map_some], h.set i _, Fr.set hi⟩
theorem sf_app {i : Nat} {f : DE} (hi : i ∈ W) (hf : ME f) : SF W (sApp i f) := fun ρ ρ' r h e => by
  obtain ⟨x, h1, e⟩ := bind_some e
  obtain ⟨y, h2, e⟩ := bind_some e
  by_cases q : x.length < 100000
  · rw [if_pos q] at e
    cases e
    exact ⟨.nx (ρ'.set i (.own (x ++ [y]))), by simp only [sApp, own_le h h1, hf _ _ _ h h2, Option.bind_some]; rw [if_pos q], h.set i _, Fr.set hi⟩
  · rw [if_neg q] at e; cases e
theorem sf_ext {i : Nat} {f : DE} (hi : i ∈ W) (hf : ME f) : SF W (sExt i f) := fun ρ ρ' r h e => by
  obtain ⟨x, h1, e⟩ := bind_some e
  obtain ⟨y, h2, e⟩ := bind_some e
  cases y with
  | list ds =>
    simp only at e
    by_cases q : x.length + ds.length ≤ 100000
    · rw [if_pos q] at e
      cases e
      exact ⟨.nx (ρ'.set i (.own (x ++ ds))), by simp only [sExt, own_le h h1, hf _ _ _ h h2, Option.bind_some]; rw [if_pos q], h.set i _, Fr.set hi⟩
    · rw [if_neg q] at e; cases e
  | _ => cases e
theorem sf_setIx {i : Nat} {g f : DE} (hi : i ∈ W) (hg : ME g) (hf : ME f) : SF W (sSetIx i g f) := fun ρ ρ' r h e => by
  obtain ⟨x, h1, e⟩ := bind_some e
  obtain ⟨y, h2, e⟩ := bind_some e
  obtain ⟨z, h3, e⟩ := bind_some e
  cases z with
  | int k =>
    obtain ⟨j, h4, e⟩ := map_some e
    subst e
    exact ⟨.nx (ρ'.set i (.own (y.set j x))), by simp only [sSetIx, own_le h h2, hf _ _ _ h h1, hg _ _ _ h h3, Option.bind_some, h4, Option.map_some], h.set i _, Fr.set hi⟩
  | _ => cases e
theorem sf_fr {i : Nat} {F : DS} (hi : i ∈ W) (hF : SF W F) : SF W (sFr i F) := fun ρ ρ' r h e => by
  unfold sFr at e ⊢
  have l : Le (freeze i ρ) (freeze i ρ') ∧ Fr W ρ' (freeze i ρ') ∨ ρ[i]? = some .un ∨ ρ[i]? = none := by
    cases q : ρ[i]? with
    | none => exact .inr (.inr rfl)
    | some s =>
      cases s with
      | un => exact .inr (.inl rfl)
      | d x =>
        rcases h.2 i _ q with z | z
        · cases z
        · refine .inl ?_
          unfold freeze
          rw [q, z]
          exact ⟨h, .refl⟩
      | own xs =>
        rcases h.2 i _ q with z | z
        · cases z
        · refine .inl ?_
          unfold freeze
          rw [q, z]
          exact ⟨h.set i _, Fr.set hi⟩
  have un : ∀ s : Sl, freeze i ρ = ρ → Le ρ (freeze i ρ') ∨ True := fun _ _ => .inr trivial
  rcases l with ⟨l, f⟩ | q
  · obtain ⟨r', h1, l1⟩ := hF _ _ _ l e
    exact ⟨r', h1, l1.mono f⟩
  · have e0 : freeze i ρ = ρ := by
      unfold freeze
      rcases q with q | q <;> rw [q]
    rw [e0] at e
    have l : Le ρ (freeze i ρ') ∧ Fr W ρ' (freeze i ρ') := by
      unfold freeze
      split
      · rename_i xs z
        refine ⟨⟨by simp [h.1], fun j s es => ?_⟩, Fr.set hi⟩
        by_cases w : i = j
        · subst w
          rcases q with q | q
          · rw [q] at es; cases es; exact .inl rfl
          · rw [q] at es; cases es
        · rw [List.getElem?_set_ne w]
          exact h.2 j s es
      · exact ⟨h, .refl⟩
    obtain ⟨r', h1, l1⟩ := hF _ _ _ l.1 e
    exact ⟨r', h1, l1.mono l.2⟩
theorem me_mnil : ME mNil := fun _ _ _ _ e => e
theorem me_md {f : DE} {r : DM} (hf : ME f) (hr : ME r) : ME (mD f r) := fun ρ ρ' d h e => by
  obtain ⟨x, h1, e⟩ := bind_some e
  obtain ⟨y, h2, e⟩ := map_some e
  simp only [mD, hf _ _ _ h h1, hr _ _ _ h h2, Option.bind_some, Option.map_some, e]
theorem me_mown {f : DA} {r : DM} (hf : ME f) (hr : ME r) : ME (mOwn f r) := fun ρ ρ' d h e => by
  obtain ⟨x, h1, e⟩ := bind_some e
  obtain ⟨y, h2, e⟩ := map_some e
  simp only [mOwn, hf _ _ _ h h1, hr _ _ _ h h2, Option.bind_some, Option.map_some, e]
theorem sets_le : ∀ {is : List Nat} {ss : List Sl} {ρ ρ' : List Sl}, (∀ i ∈ is, i ∈ W) → Le ρ ρ' → Le (setsD is ss ρ) (setsD is ss ρ') ∧ Fr W ρ' (setsD is ss ρ')
  | [], _, _, _, _, h => by simp only [setsD]; exact ⟨h, .refl⟩
  | _ :: _, [], _, _, _, h => by simp only [setsD]; exact ⟨h, .refl⟩
  | i :: is, s :: ss, ρ, ρ', hi, h => by
    simp only [setsD]
    obtain ⟨l, f⟩ := sets_le (is := is) (ss := ss) (fun j hj => hi j (List.mem_cons_of_mem _ hj)) (h.set i s)
    exact ⟨l, (Fr.set (hi i List.mem_cons_self)).trans f⟩
theorem sf_multi {is : List Nat} {f : DM} (hi : ∀ i ∈ is, i ∈ W) (hf : ME f) : SF W (sMulti is f) := fun ρ ρ' r h e => by
  obtain ⟨ss, h1, h2, rfl⟩ := sMulti_some e
  obtain ⟨l, fr⟩ := sets_le (W := W) (is := is) (ss := ss) hi h
  exact ⟨.nx (setsD is ss ρ'), by simp only [sMulti, hf _ _ _ h h1, Option.bind_some]; rw [if_pos h2], l, fr⟩
theorem sf_asg {f : DE} {g : DG} (hf : ME f) (hg : MG W g) : SF W (sAsg f g) := fun ρ ρ' r h e => by
  obtain ⟨x, h1, e⟩ := bind_some e
  obtain ⟨y, h2, e⟩ := map_some e
  subst e
  obtain ⟨y', h3, l3, f3⟩ := hg _ _ _ _ h h2
  exact ⟨.nx y', by simp only [sAsg, hf _ _ _ h h1, Option.bind_some, h3, Option.map_some], l3, f3⟩
theorem forGo_sf {g : DG} {F : DS} (hg : MG W g) (hF : SF W F) : ∀ (ds : List PyData), SF W (forGo g F ds)
  | [], ρ, ρ', r, h, e => by
    cases e
    exact ⟨_, rfl, h, .refl⟩
  | d :: ds, ρ, ρ', r, h, e => by
    unfold forGo at e
    obtain ⟨x, h1, e⟩ := bind_some e
    obtain ⟨y, h2, e⟩ := bind_some e
    obtain ⟨x', h3, l3, f3⟩ := hg _ _ _ _ h h1
    obtain ⟨y', h4, l4⟩ := hF _ _ _ l3 h2
    unfold forGo
    rw [h3]
    simp only [Option.bind_some]
    rw [h4]
    simp only [Option.bind_some]
    cases y with
    | nx a =>
      cases y' with
      | nx b =>
        obtain ⟨r', h5, l5⟩ := forGo_sf hg hF ds _ _ _ l4.1 e
        exact ⟨r', h5, l5.mono (f3.trans l4.2)⟩
      | _ => exact l4.elim
    | ct a =>
      cases y' with
      | ct b =>
        obtain ⟨r', h5, l5⟩ := forGo_sf hg hF ds _ _ _ l4.1 e
        exact ⟨r', h5, l5.mono (f3.trans l4.2)⟩
      | _ => exact l4.elim
    | bk a =>
      cases y' with
      | bk b =>
        cases e
        exact ⟨_, rfl, l4.1, f3.trans l4.2⟩
      | _ => exact l4.elim
    | rt a =>
      cases y' with
      | rt b =>
        cases e
        exact ⟨_, rfl, l4⟩
      | _ => exact l4.elim
theorem sf_for {it : DA} {g : DG} {F : DS} (hi : ME it) (hg : MG W g) (hF : SF W F) : SF W (sFor it g F) := fun ρ ρ' r h e => by
  obtain ⟨ds, h1, e⟩ := bind_some e
  simp only [sFor, hi _ _ _ h h1, Option.bind_some]
  exact forGo_sf hg hF ds _ _ _ h e
theorem whileGo_sf {t : DB} {F : DS} (ht : ME t) (hF : SF W F) : ∀ (n : Nat), SF W (whileGo t F n)
  | 0, _, _, _, _, e => by cases e
  | n + 1, ρ, ρ', r, h, e => by
    unfold whileGo at e
    obtain ⟨x, h1, e⟩ := bind_some e
    unfold whileGo
    rw [ht _ _ _ h h1]
    simp only [Option.bind_some]
    cases x with
    | false =>
      simp only [Bool.false_eq_true, if_false] at e ⊢
      cases e
      exact ⟨_, rfl, h, .refl⟩
    | true =>
      simp only [if_true] at e ⊢
      obtain ⟨y, h2, e⟩ := bind_some e
      obtain ⟨y', h4, l4⟩ := hF _ _ _ h h2
      rw [h4]
      simp only [Option.bind_some]
      cases y with
      | nx a =>
        cases y' with
        | nx b =>
          obtain ⟨r', h5, l5⟩ := whileGo_sf ht hF n _ _ _ l4.1 e
          exact ⟨r', h5, l5.mono l4.2⟩
        | _ => exact l4.elim
      | ct a =>
        cases y' with
        | ct b =>
          obtain ⟨r', h5, l5⟩ := whileGo_sf ht hF n _ _ _ l4.1 e
          exact ⟨r', h5, l5.mono l4.2⟩
        | _ => exact l4.elim
      | bk a =>
        cases y' with
        | bk b =>
          cases e
          exact ⟨_, rfl, l4.1, l4.2⟩
        | _ => exact l4.elim
      | rt a =>
        cases y' with
        | rt b =>
          cases e
          exact ⟨_, rfl, l4⟩
        | _ => exact l4.elim
theorem sf_while {n : Nat} {t : DB} {F : DS} (ht : ME t) (hF : SF W F) : SF W (sWhile n t F) := whileGo_sf ht hF n
/-- used: a closed run gives a run of every state that holds as much -/
def isNx : Option Fl → Bool
  | some (.nx _) => true
  | _ => false
theorem sf_nx {F : DS} (h : SF W F) {ρ ρ' : List Sl} (l : Le ρ ρ') (e : isNx (F ρ) = true) : ∃ ρ1, F ρ' = some (.nx ρ1) ∧ Fr W ρ' ρ1 := by
  cases q : F ρ with
  | none => rw [q] at e; cases e
  | some r =>
    rw [q] at e
    cases r with
    | nx a =>
      obtain ⟨r', h1, l1⟩ := h _ _ _ l q
      cases r' with
      | nx b => exact ⟨b, h1, l1.2⟩
      | _ => exact l1.elim
    | _ => cases e
def isNxL (n : Nat) : Option Fl → Bool
  | some (.nx ρ) => ρ.length == n
  | _ => false
theorem sf_nxL {F : DS} (h : SF W F) {ρ ρ' : List Sl} {n : Nat} (l : Le ρ ρ') (e : isNxL n (F ρ) = true) : ∃ ρ1, F ρ' = some (.nx ρ1) ∧ Fr W ρ' ρ1 ∧ ρ1.length = n := by
  cases q : F ρ with
  | none => rw [q] at e; cases e
  | some r =>
    rw [q] at e
    cases r with
    | nx a =>
      obtain ⟨r', h1, l1⟩ := h _ _ _ l q
      cases r' with
      | nx b => exact ⟨b, h1, l1.2, by rw [← l1.1.1]; exact eq_of_beq e⟩
      | _ => exact l1.elim
    | _ => cases e
/-- what is known of some slots -/
def leB (n : Nat) : List (Nat × Sl) → List Sl
  | [] => List.replicate n .un
  | (i, s) :: r => (leB n r).set i s
theorem le_leB {n : Nat} {ρ : List Sl} (hl : ρ.length = n) : ∀ {ks : List (Nat × Sl)}, (∀ p ∈ ks, ρ[p.1]? = some p.2) → Le (leB n ks) ρ
  | [], _ => ⟨by simp [leB, hl], fun i s h => by
      unfold leB at h
      rw [List.getElem?_replicate] at h
      split at h <;> cases h
      exact .inl rfl⟩
  | (i, s) :: r, h => by
    have ih := le_leB hl (ks := r) fun p hp => h p (List.mem_cons_of_mem _ hp)
    have hi := h (i, s) List.mem_cons_self
    refine ⟨by simp [leB, ih.1], fun j t e => ?_⟩
    rcases get_set e with ⟨rfl, _, rfl⟩ | ⟨_, e⟩
    · exact .inr hi
    · exact ih.2 j t e
end DL

namespace Nk03
open PySem PySem.Spec PyProof.Rows L2 DL
def F_is_traffic : DS := (sSeq (sIf (bOr (bNot (bOf (d1 (isiP "str") (dVar 0)))) (bOf (d2 nePS (dCall lenP (aCons (dVar 0) aNil)) (dC (.int 4))))) (sRet (dC (.bool false))) sSkip) (sRet (dCall allP (aCons (dL (nLc (aAny (dVar 0)) (gN 1) tYesD (d2 inP (dVar 1) (d2 addP (dC (.str ".")) (dC (.str "LSR")))) [1])) aNil))))
def D_is_traffic : List PyData → Option PyData := fnDen 2 F_is_traffic
def F_check_traffic : DS := (sIf (bNot (bOf (dCall D_is_traffic (aCons (dVar 0) aNil)))) sNo sSkip)
def D_check_traffic : List PyData → Option PyData := fnDen 1 F_check_traffic
def F_check_arm : DS := (sIf (bOr (bNot (bOf (d1 (isiP "int") (dVar 0)))) (bOr (bOf (d1 (isiP "bool") (dVar 0))) (bNot (bOf (dChain leP ltP (dC (.int 0)) (dVar 0) (dC (.int 4))))))) sNo sSkip)
def D_check_arm : List PyData → Option PyData := fnDen 1 F_check_arm
def F_check_turn : DS := (sIf (bOr (bNot (bOf (d1 (isiP "str") (dVar 0)))) (bOr (bOf (d2 nePS (dCall lenP (aCons (dVar 0) aNil)) (dC (.int 1)))) (bOf (d2 notInP (dVar 0) (dC (.str "LSR")))))) sNo sSkip)
def D_check_turn : List PyData → Option PyData := fnDen 1 F_check_turn
def F_find_quarters : DS := (sRet (dCall sortP (aCons (dL (nLc (aRange (aCons (d2 subP (dCall lenP (aCons (dC (.str "LSR")) aNil)) (dM sindexP (dC (.str "LSR")) (aCons (dVar 1) aNil))) aNil)) (gN 2) tYesD (d2 modP (d2 subP (dVar 0) (dVar 2)) (dC (.int 4))) [2])) aNil)))
def D_find_quarters : List PyData → Option PyData := fnDen 3 F_find_quarters
def F_find_vehicles : DS := (sRet (dL (nLc (aRange (aCons (dC (.int 4)) aNil)) (gN 1) (bOf (d2 nePS (d2 ixP (dVar 0) (dVar 1)) (dC (.str ".")))) (dVar 1) [1])))
def D_find_vehicles : List PyData → Option PyData := fnDen 2 F_find_vehicles
def F_do_meet : DS := (sSeq (sIf (bAnd (bOf (d2 eqP (d2 modP (d2 subP (dVar 1) (dVar 2)) (dC (.int 2))) (dC (.int 0)))) (bAnd (bOf (d2 eqP (d2 ixP (dVar 0) (dVar 1)) (dC (.str "L")))) (bOf (d2 eqP (d2 ixP (dVar 0) (dVar 2)) (dC (.str "L")))))) (sRet (dC (.bool false))) sSkip) (sSeq (sSet 3 (dCall D_find_quarters (aCons (dVar 2) (aCons (d2 ixP (dVar 0) (dVar 2)) aNil)))) (sRet (dCall anyP (aCons (dL (nLc (aAny (dCall D_find_quarters (aCons (dVar 1) (aCons (d2 ixP (dVar 0) (dVar 1)) aNil)))) (gN 4) tYesD (d2 inP (dVar 4) (dVar 3)) [4])) aNil)))))
def D_do_meet : List PyData → Option PyData := fnDen 5 F_do_meet
def F_check_vehicle : DS := (sIf (bOf (d2 eqP (d2 ixP (dVar 0) (dVar 1)) (dC (.str ".")))) sNo sSkip)
def D_check_vehicle : List PyData → Option PyData := fnDen 2 F_check_vehicle
def F_in_the_way : DS := (sSeq (sExpr (dCall D_check_traffic (aCons (dVar 0) aNil))) (sSeq (sExpr (dCall D_check_arm (aCons (dVar 1) aNil))) (sSeq (sExpr (dCall D_check_arm (aCons (dVar 2) aNil))) (sSeq (sExpr (dCall D_check_vehicle (aCons (dVar 0) (aCons (dVar 1) aNil)))) (sSeq (sExpr (dCall D_check_vehicle (aCons (dVar 0) (aCons (dVar 2) aNil)))) (sSeq (sIf (bOf (d2 eqP (dVar 1) (dVar 2))) sNo sSkip) (sRet (dCall D_do_meet (aCons (dVar 0) (aCons (dVar 1) (aCons (dVar 2) aNil)))))))))))
def D_in_the_way : List PyData → Option PyData := fnDen 3 F_in_the_way
def F_conflicts : DS := (sSeq (sExpr (dCall D_check_traffic (aCons (dVar 0) aNil))) (sSeq (sMulti [1, 2] (mD (dCall D_find_vehicles (aCons (dVar 0) aNil)) (mOwn (aSmall aNil) mNil))) (sSeq (sFor (aAny (dVar 1)) (gN 3) (sExt 2 (dL (nLc (aAny (dVar 1)) (gN 4) (bAnd (bOf (d2 gtP (dVar 4) (dVar 3))) (bOf (dCall D_do_meet (aCons (dVar 0) (aCons (dVar 3) (aCons (dVar 4) aNil)))))) (dTup (aCons (dVar 3) (aCons (dVar 4) aNil))) [4])))) (sFr 2 (sRet (dVar 2))))))
def D_conflicts : List PyData → Option PyData := fnDen 5 F_conflicts
def F_can_join : DS := (sSeq (sExpr (dCall D_check_traffic (aCons (dVar 0) aNil))) (sSeq (sExpr (dCall D_check_arm (aCons (dVar 1) aNil))) (sSeq (sExpr (dCall D_check_turn (aCons (dVar 2) aNil))) (sSeq (sIf (bOf (d2 nePS (d2 ixP (dVar 0) (dVar 1)) (dC (.str ".")))) sNo sSkip) (sSeq (sSet 3 (d2 addP (d2 addP (dSl (dVar 0) none (some (dVar 1))) (dVar 2)) (dSl (dVar 0) (some (d2 addP (dVar 1) (dC (.int 1)))) none))) (sRet (vNot (dCall anyP (aCons (dL (nLc (aAny (dCall D_find_vehicles (aCons (dVar 0) aNil))) (gN 4) tYesD (dCall D_do_meet (aCons (dVar 3) (aCons (dVar 1) (aCons (dVar 4) aNil)))) [4])) aNil)))))))))
def D_can_join : List PyData → Option PyData := fnDen 5 F_can_join
def F_largest_free : DS := (sSeq (sExpr (dCall D_check_traffic (aCons (dVar 0) aNil))) (sSeq (sSet 1 (dL (aSmall (aCons (dTup aNil) aNil)))) (sSeq (sFor (aAny (dCall D_find_vehicles (aCons (dVar 0) aNil))) (gN 2) (sSeq (sSet 3 (dL (nLc (aAny (dVar 1)) (gN 4) (bNot (bOf (dCall anyP (aCons (dL (nLc (aAny (dVar 4)) (gN 5) tYesD (dCall D_do_meet (aCons (dVar 0) (aCons (dVar 5) (aCons (dVar 2) aNil)))) [5])) aNil)))) (dVar 4) [4]))) (sSet 1 (d2 addP (dVar 1) (dL (nLc (aAny (dVar 3)) (gN 4) tYesD (d2 addP (dVar 4) (dTup (aCons (dVar 2) aNil))) [4])))))) (sRet (d2 ixP (dCall minP (aCons (dL (nLc (aAny (dVar 1)) (gN 4) tYesD (dTup (aCons (d2 subP (dC (.int 0)) (dCall lenP (aCons (dVar 4) aNil))) (aCons (dVar 4) aNil))) [4])) aNil)) (dC (.int 1)))))))
def D_largest_free : List PyData → Option PyData := fnDen 6 F_largest_free
def F__law_pick : DS := (sSeq (sSet 3 (dIf (bOf (d2 nePS (dVar 0) (dL (aSmall aNil)))) (d2 ixP (dVar 0) (d2 modP (dVar 1) (dCall lenP (aCons (dVar 0) aNil)))) (dC (.int 0)))) (sSeq (sMulti [4, 5] (mD (d2 fdivP (dVar 3) (d2 powP (dC (.int 10)) (dC (.int 18)))) (mD (d2 fdivP (dVar 1) (dCall maxP (aCons (dCall lenP (aCons (dVar 0) aNil)) (aCons (dC (.int 1)) aNil)))) mNil))) (sSeq (sWhile 1000 (bAnd (bOf (d2 gtP (dVar 4) (dC (.int 0)))) (bOf (d2 gtP (dVar 5) (dC (.int 0))))) (sMulti [4, 5] (mD (d2 fdivP (dVar 4) (dC (.int 840))) (mD (d2 subP (dVar 5) (dC (.int 1))) mNil)))) (sSeq (sIf (bOf (d2 gtP (dVar 4) (dC (.int 0)))) (sRet (d2 modP (d2 modP (dVar 4) (dC (.int 840))) (dVar 2))) sSkip) (sSeq (sSet 6 (d2 modP (d2 mulP (d2 addP (d2 mulP (dVar 3) (dC (.int 31))) (d2 mulP (dC (.int 6151)) (d2 addP (dVar 1) (dC (.int 1))))) (dC (.int 40692))) (dC (.int 2147483399)))) (sRet (d2 modP (d2 modP (d2 addP (d2 mulP (dVar 6) (dVar 6)) (d2 fdivP (dVar 6) (dC (.int 31)))) (dC (.int 2147483629))) (dVar 2))))))))
def D__law_pick : List PyData → Option PyData := fnDen 7 F__law_pick
def F__law_cars : DS := (sRet (dM joinP (dC (.str "")) (aCons (dL (nLc (aRange (aCons (dC (.int 4)) aNil)) (gN 2) tYesD (d2 ixP (dC (.str ".LSRLS")) (dCall D__law_pick (aCons (dVar 0) (aCons (d2 addP (dVar 1) (dVar 2)) (aCons (dC (.int 6)) aNil))))) [2])) aNil)))
def D__law_cars : List PyData → Option PyData := fnDen 3 F__law_cars
def F__law_path : DS := (sRet (dL (nLc (aRange (aCons (d2 addP (dM sindexP (dC (.str "RSL")) (aCons (dVar 1) aNil)) (dC (.int 1))) aNil)) (gN 2) tYesD (d2 modP (d2 subP (d2 addP (dVar 0) (dC (.int 4))) (dVar 2)) (dC (.int 4))) [2])))
def D__law_path : List PyData → Option PyData := fnDen 3 F__law_path
def F__law_meet : DS := (sSeq (sIf (bAnd (bOf (d2 inP (dVar 1) (dTup (aCons (d2 subP (dVar 2) (dC (.int 2))) (aCons (d2 addP (dVar 2) (dC (.int 2))) aNil))))) (bOf (d2 eqP (d2 addP (d2 ixP (dVar 0) (dVar 1)) (d2 ixP (dVar 0) (dVar 2))) (dC (.str "LL"))))) (sRet (dC (.bool false))) sSkip) (sSeq (sSet 3 (dCall D__law_path (aCons (dVar 2) (aCons (d2 ixP (dVar 0) (dVar 2)) aNil)))) (sRet (d2 nePS (dL (nLc (aAny (dCall D__law_path (aCons (dVar 1) (aCons (d2 ixP (dVar 0) (dVar 1)) aNil)))) (gN 4) (bOf (d2 inP (dVar 4) (dVar 3))) (dVar 4) [4])) (dL (aSmall aNil))))))
def D__law_meet : List PyData → Option PyData := fnDen 5 F__law_meet
def B_law_2 : DS := (sIf (bOf (d2 nePS (dVar 6) (dVar 7))) (sSeq (sSet 8 (dCall D__law_meet (aCons (dVar 2) (aCons (dVar 6) (aCons (dVar 7) aNil))))) (sSeq (sIf (bOr (bOf (d2 nePS (dCall D_in_the_way (aCons (dVar 2) (aCons (dVar 6) (aCons (dVar 7) aNil)))) (dVar 8))) (bOf (d2 nePS (dVar 8) (dCall D__law_meet (aCons (dVar 2) (aCons (dVar 7) (aCons (dVar 6) aNil))))))) (sRet (dC (.bool false))) sSkip) (sIf (bAnd (bOf (dVar 8)) (bOf (d2 ltP (dVar 6) (dVar 7)))) (sApp 4 (dTup (aCons (dVar 6) (aCons (dVar 7) aNil)))) sSkip))) sSkip)
def B_law_1_1 : DS := (sSet 5 (d2 addP (dVar 5) (dL (nLc (aAny (dVar 5)) (gN 12) (bNot (bOf (dCall anyP (aCons (dL (nLc (aAny (dVar 12)) (gN 13) tYesD (dCall D__law_meet (aCons (dVar 2) (aCons (dVar 13) (aCons (dVar 6) aNil)))) [13])) aNil)))) (d2 addP (dVar 12) (dTup (aCons (dVar 6) aNil))) [12]))))
def B_law_1 : DS := (sSeq (sFor (aAny (dVar 3)) (gN 7) B_law_2) B_law_1_1)
def B_law_4_1 : DS := (sIf (bOf (d2 nePS (dCall D_can_join (aCons (dVar 2) (aCons (dVar 9) (aCons (dVar 10) aNil)))) (vNot (dCall anyP (aCons (dL (nLc (aAny (dVar 3)) (gN 14) tYesD (dCall D__law_meet (aCons (dVar 11) (aCons (dVar 9) (aCons (dVar 14) aNil)))) [14])) aNil))))) (sRet (dC (.bool false))) sSkip)
def B_law_4 : DS := (sSeq (sSet 11 (d2 addP (d2 addP (dSl (dVar 2) none (some (dVar 9))) (dVar 10)) (dSl (dVar 2) (some (d2 addP (dVar 9) (dC (.int 1)))) none))) B_law_4_1)
def B_law_3 : DS := (sIf (bOf (d2 eqP (d2 ixP (dVar 2) (dVar 9)) (dC (.str ".")))) (sFor (aAny (dTup (aCons (dC (.str "L")) (aCons (dC (.str "S")) (aCons (dC (.str "R")) aNil))))) (gN 10) B_law_4) sSkip)
def B_law_0_6 : DS := (sFor (aAny (dL (nRange (dC (.int 4))))) (gN 9) B_law_3)
def B_law_0_5 : DS := (sSeq (sIf (bOf (d2 nePS (dCall D_largest_free (aCons (dVar 2) aNil)) (d2 ixP (dCall minP (aCons (dL (nLc (aAny (dVar 5)) (gN 12) tYesD (dTup (aCons (d2 subP (dC (.int 0)) (dCall lenP (aCons (dVar 12) aNil))) (aCons (dVar 12) aNil))) [12])) aNil)) (dC (.int 1))))) (sRet (dC (.bool false))) sSkip) B_law_0_6)
def B_law_0_4 : DS := (sSeq (sFr 4 (sIf (bOf (d2 nePS (dCall D_conflicts (aCons (dVar 2) aNil)) (dVar 4))) (sRet (dC (.bool false))) sSkip)) B_law_0_5)
def B_law_0_3 : DS := (sSeq (sFor (aAny (dVar 3)) (gN 6) B_law_1) B_law_0_4)
def B_law_0_2 : DS := (sSeq (sMulti [4, 5] (mOwn (aSmall aNil) (mD (dL (aSmall (aCons (dTup aNil) aNil))) mNil))) B_law_0_3)
def B_law_0_1 : DS := (sSeq (sSet 3 (dL (nLc (aRange (aCons (dC (.int 4)) aNil)) (gN 9) (bOf (d2 nePS (d2 ixP (dVar 2) (dVar 9)) (dC (.str ".")))) (dVar 9) [9]))) B_law_0_2)
def B_law_0 : DS := (sSeq (sSet 2 (dCall D__law_cars (aCons (dVar 0) (aCons (d2 mulP (dC (.int 10)) (dVar 1)) aNil)))) B_law_0_1)
def F_law_1 : DS := (sRet (vAnd (d2 eqP (dCall D_conflicts (aCons (dC (.str "SSSS")) aNil)) (dL (aSmall (aCons (dTup (aCons (dC (.int 0)) (aCons (dC (.int 1)) aNil))) (aCons (dTup (aCons (dC (.int 0)) (aCons (dC (.int 3)) aNil))) (aCons (dTup (aCons (dC (.int 1)) (aCons (dC (.int 2)) aNil))) (aCons (dTup (aCons (dC (.int 2)) (aCons (dC (.int 3)) aNil))) aNil))))))) (d2 isP (dCall D_in_the_way (aCons (dC (.str "L.S.")) (aCons (dC (.int 0)) (aCons (dC (.int 2)) aNil)))) (dC (.bool true)))))
def F_law : DS := (sSeq (sFor (aRange (aCons (dC (.int 8)) aNil)) (gN 1) B_law_0) F_law_1)
def D_law : List PyData → Option PyData := fnDen 15 F_law
end Nk03

namespace Nk03
open PySem PySem.Spec PyProof.Rows L2 DL
def topS (i : Nat) : Stmt := PySem.Challenge.pw_fourarms_k03_whole_conflicts.main.body.getD i (.Pass ⟨0, 0, 0, 0⟩)
theorem sc_is_traffic : FnScope ["candidate", "turn"] ["candidate"] (defScope (topS 13)) := ⟨rfl, rfl, rfl, by decide +kernel, rfl, by decide +kernel, by decide +kernel⟩
theorem sc_check_traffic : FnScope ["value"] ["value"] (defScope (topS 14)) := ⟨rfl, rfl, rfl, by decide +kernel, rfl, by decide +kernel, by decide +kernel⟩
theorem sc_check_arm : FnScope ["value"] ["value"] (defScope (topS 15)) := ⟨rfl, rfl, rfl, by decide +kernel, rfl, by decide +kernel, by decide +kernel⟩
theorem sc_check_turn : FnScope ["value"] ["value"] (defScope (topS 16)) := ⟨rfl, rfl, rfl, by decide +kernel, rfl, by decide +kernel, by decide +kernel⟩
theorem sc_find_quarters : FnScope ["arm", "turn", "step"] ["arm", "turn"] (defScope (topS 17)) := ⟨rfl, rfl, rfl, by decide +kernel, rfl, by decide +kernel, by decide +kernel⟩
theorem sc_find_vehicles : FnScope ["traffic", "arm"] ["traffic"] (defScope (topS 18)) := ⟨rfl, rfl, rfl, by decide +kernel, rfl, by decide +kernel, by decide +kernel⟩
theorem sc_do_meet : FnScope ["traffic", "one", "other", "used", "quarter"] ["traffic", "one", "other"] (defScope (topS 20)) := ⟨rfl, rfl, rfl, by decide +kernel, rfl, by decide +kernel, by decide +kernel⟩
theorem sc_check_vehicle : FnScope ["traffic", "arm"] ["traffic", "arm"] (defScope (topS 21)) := ⟨rfl, rfl, rfl, by decide +kernel, rfl, by decide +kernel, by decide +kernel⟩
theorem sc_in_the_way : FnScope ["traffic", "one", "other"] ["traffic", "one", "other"] (defScope (topS 22)) := ⟨rfl, rfl, rfl, by decide +kernel, rfl, by decide +kernel, by decide +kernel⟩
theorem sc_conflicts : FnScope ["traffic", "known", "found", "one", "other"] ["traffic"] (defScope (topS 23)) := ⟨rfl, rfl, rfl, by decide +kernel, rfl, by decide +kernel, by decide +kernel⟩
theorem sc_can_join : FnScope ["traffic", "arm", "turn", "more", "other"] ["traffic", "arm", "turn"] (defScope (topS 24)) := ⟨rfl, rfl, rfl, by decide +kernel, rfl, by decide +kernel, by decide +kernel⟩
theorem sc_largest_free : FnScope ["traffic", "found", "arm", "good", "some", "one"] ["traffic"] (defScope (topS 25)) := ⟨rfl, rfl, rfl, by decide +kernel, rfl, by decide +kernel, by decide +kernel⟩
theorem sc__law_pick : FnScope ["script", "k", "many", "cell", "rest", "again", "drawn"] ["script", "k", "many"] (defScope (topS 27)) := ⟨rfl, rfl, rfl, by decide +kernel, rfl, by decide +kernel, by decide +kernel⟩
theorem sc__law_cars : FnScope ["script", "at", "k"] ["script", "at"] (defScope (topS 28)) := ⟨rfl, rfl, rfl, by decide +kernel, rfl, by decide +kernel, by decide +kernel⟩
theorem sc__law_path : FnScope ["arm", "turn", "k"] ["arm", "turn"] (defScope (topS 29)) := ⟨rfl, rfl, rfl, by decide +kernel, rfl, by decide +kernel, by decide +kernel⟩
theorem sc__law_meet : FnScope ["cars", "one", "other", "here", "quarter"] ["cars", "one", "other"] (defScope (topS 30)) := ⟨rfl, rfl, rfl, by decide +kernel, rfl, by decide +kernel, by decide +kernel⟩
theorem sc_law : FnScope ["script", "i", "cars", "here", "pairs", "sets", "a", "b", "told", "arm", "turn", "more", "some", "one", "other"] ["script"] (defScope (topS 31)) := ⟨rfl, rfl, rfl, by decide +kernel, rfl, by decide +kernel, by decide +kernel⟩
structure Tx (w : World) (K : PySem.W.Frag) (mg : Str → Option Value) : Prop where
  h_is_traffic : ∃ a fd, FnAt K mg "is_traffic" (topS 13) ["candidate"] a fd
  h_check_traffic : ∃ a fd, FnAt K mg "check_traffic" (topS 14) ["value"] a fd
  h_check_arm : ∃ a fd, FnAt K mg "check_arm" (topS 15) ["value"] a fd
  h_check_turn : ∃ a fd, FnAt K mg "check_turn" (topS 16) ["value"] a fd
  h_find_quarters : ∃ a fd, FnAt K mg "find_quarters" (topS 17) ["arm", "turn"] a fd
  h_find_vehicles : ∃ a fd, FnAt K mg "find_vehicles" (topS 18) ["traffic"] a fd
  h_do_meet : ∃ a fd, FnAt K mg "do_meet" (topS 20) ["traffic", "one", "other"] a fd
  h_check_vehicle : ∃ a fd, FnAt K mg "check_vehicle" (topS 21) ["traffic", "arm"] a fd
  h_in_the_way : ∃ a fd, FnAt K mg "in_the_way" (topS 22) ["traffic", "one", "other"] a fd
  h_conflicts : ∃ a fd, FnAt K mg "conflicts" (topS 23) ["traffic"] a fd
  h_can_join : ∃ a fd, FnAt K mg "can_join" (topS 24) ["traffic", "arm", "turn"] a fd
  h_largest_free : ∃ a fd, FnAt K mg "largest_free" (topS 25) ["traffic"] a fd
  h__law_pick : ∃ a fd, FnAt K mg "_law_pick" (topS 27) ["script", "k", "many"] a fd
  h__law_cars : ∃ a fd, FnAt K mg "_law_cars" (topS 28) ["script", "at"] a fd
  h__law_path : ∃ a fd, FnAt K mg "_law_path" (topS 29) ["arm", "turn"] a fd
  h__law_meet : ∃ a fd, FnAt K mg "_law_meet" (topS 30) ["cars", "one", "other"] a fd
  h_law : ∃ a fd, FnAt K mg "law" (topS 31) ["script"] a fd
  m_all : mg "all" = none
  m_any : mg "any" = none
  m_bool : mg "bool" = none
  m_int : mg "int" = none
  m_isinstance : mg "isinstance" = none
  m_len : mg "len" = none
  m_list : mg "list" = none
  m_max : mg "max" = none
  m_min : mg "min" = none
  m_range : mg "range" = none
  m_sorted : mg "sorted" = none
  m_str : mg "str" = none
  c_EMPTY : ∃ u, mg "EMPTY" = some u ∧ RelV (.str ".") u
  c_LEFT : ∃ u, mg "LEFT" = some u ∧ RelV (.str "L") u
  c_MANY : ∃ u, mg "MANY" = some u ∧ RelV (.int 4) u
  c_TURNS : ∃ u, mg "TURNS" = some u ∧ RelV (.str "LSR") u
section
variable {P : Program} {w : World} {K : PySem.W.Frag} {mg : Str → Option Value} {base : Heap}
theorem ok_is_traffic (T : Tx w K mg) {a : Addr} {fd : FuncData} (h : FnAt K mg "is_traffic" (topS 13) ["candidate"] a fd) : FnOk P w K mg base CX0 1 a fd ["candidate"] (spD K 1 D_is_traffic) := by
  obtain ⟨u_EMPTY, g_EMPTY, r_EMPTY⟩ := T.c_EMPTY
  obtain ⟨u_MANY, g_MANY, r_MANY⟩ := T.c_MANY
  obtain ⟨u_TURNS, g_TURNS, r_TURNS⟩ := T.c_TURNS
  have m_all := T.m_all
  have m_isinstance := T.m_isinstance
  have m_len := T.m_len
  have m_str := T.m_str
  have nd := (sc_is_traffic).nd
  refine fnD h.F sc_is_traffic fun cdv A outer s H E hr => ?_
  exact (dss_cons (ds_if (PW.pt (dw_or (dt_not (dt_val (de_isi (.inl rfl) (by rfl) m_isinstance (by decide +kernel) (de_var (pv 0)) (pe_bltn (by rfl) m_str (by decide +kernel) rfl)))) (dw_or1 (dt_cmp (op_neD hr.units) od_neS (de_callB call_lenP cd_len (by rfl) m_len (by decide +kernel) (da_cons (de_var (pv 0)) da_nil)) (de_c (pe_glob (by rfl) g_MANY r_MANY) (fun _ => .int _)) (nomark _))))) (dss_one (ds_ret de_bl))
    dss_nil)
    (dss_one (ds_ret (de_callB (cr_all rfl) cd_all (by rfl) m_all (by decide +kernel) (da_cons (de_new (dn_lc (own := [("turn", 1)]) rfl nd (di_any (de_var (pv 0))) (blkOk_by (by kernel_rfl)) (by decide) (fun _ _ _ _ _ => (dg_name (i := 1) nd rfl (by first | exact .inl rfl | exact .inr rfl))) (fun _ _ _ _ _ => dts_nil) (fun _ _ _ _ _ => (de_cmp op_inP od_in (de_var (pv 1)) (de_op op_addP od_add (de_c (pe_glob (by rfl) g_EMPTY r_EMPTY) (fun _ => .str _)) (de_c (pe_glob (by rfl) g_TURNS r_TURNS) (fun _ => .str _))) rfl)))) da_nil)))))
theorem ok_check_traffic (T : Tx w K mg) {a : Addr} {fd : FuncData} (h : FnAt K mg "check_traffic" (topS 14) ["value"] a fd) : FnOk P w K mg base CX0 2 a fd ["value"] (spD K 1 D_check_traffic) := by
  obtain ⟨a_is_traffic, fd_is_traffic, h_is_traffic⟩ := T.h_is_traffic
  have nd := (sc_check_traffic).nd
  refine fnD h.F sc_check_traffic fun cdv A outer s H E hr => ?_
  exact (dss_one (ds_if (dt_not (dt_val (de_call (ok_is_traffic T h_is_traffic) (hr.mono (by decide)) (by rfl) h_is_traffic.g h_is_traffic.F.kp h_is_traffic.b rfl (da_cons (de_var (pv 0)) da_nil) (aCons_len aNil_len)))) (dss_one ds_no)
    dss_nil))
theorem ok_check_arm (T : Tx w K mg) {a : Addr} {fd : FuncData} (h : FnAt K mg "check_arm" (topS 15) ["value"] a fd) : FnOk P w K mg base CX0 1 a fd ["value"] (spD K 1 D_check_arm) := by
  obtain ⟨u_MANY, g_MANY, r_MANY⟩ := T.c_MANY
  have m_bool := T.m_bool
  have m_int := T.m_int
  have m_isinstance := T.m_isinstance
  have nd := (sc_check_arm).nd
  refine fnD h.F sc_check_arm fun cdv A outer s H E hr => ?_
  exact (dss_one (ds_if (PW.pt (dw_or (dt_not (dt_val (de_isi (.inr (.inl rfl)) (by rfl) m_isinstance (by decide +kernel) (de_var (pv 0)) (pe_bltn (by rfl) m_int (by decide +kernel) rfl)))) (dw_or (dt_val (de_isi (.inr (.inr (.inl rfl))) (by rfl) m_isinstance (by decide +kernel) (de_var (pv 0)) (pe_bltn (by rfl) m_bool (by decide +kernel) rfl))) (dw_or1 (dt_not (dt_chain op_leP op_ltP od_le od_lt de_int (de_var (pv 0)) (de_c (pe_glob (by rfl) g_MANY r_MANY) (fun _ => .int _)))))))) (dss_one ds_no)
    dss_nil))
theorem ok_check_turn (T : Tx w K mg) {a : Addr} {fd : FuncData} (h : FnAt K mg "check_turn" (topS 16) ["value"] a fd) : FnOk P w K mg base CX0 1 a fd ["value"] (spD K 1 D_check_turn) := by
  obtain ⟨u_TURNS, g_TURNS, r_TURNS⟩ := T.c_TURNS
  have m_isinstance := T.m_isinstance
  have m_len := T.m_len
  have m_str := T.m_str
  have nd := (sc_check_turn).nd
  refine fnD h.F sc_check_turn fun cdv A outer s H E hr => ?_
  exact (dss_one (ds_if (PW.pt (dw_or (dt_not (dt_val (de_isi (.inl rfl) (by rfl) m_isinstance (by decide +kernel) (de_var (pv 0)) (pe_bltn (by rfl) m_str (by decide +kernel) rfl)))) (dw_or (dt_cmp (op_neD hr.units) od_neS (de_callB call_lenP cd_len (by rfl) m_len (by decide +kernel) (da_cons (de_var (pv 0)) da_nil)) de_int (nomark _)) (dw_or1 (dt_cmp op_notInP od_notIn (de_var (pv 0)) (de_c (pe_glob (by rfl) g_TURNS r_TURNS) (fun _ => .str _)) rfl))))) (dss_one ds_no)
    dss_nil))
theorem ok_find_quarters (T : Tx w K mg) {a : Addr} {fd : FuncData} (h : FnAt K mg "find_quarters" (topS 17) ["arm", "turn"] a fd) : FnOk P w K mg base CX0 1 a fd ["arm", "turn"] (spD K 2 D_find_quarters) := by
  obtain ⟨u_MANY, g_MANY, r_MANY⟩ := T.c_MANY
  obtain ⟨u_TURNS, g_TURNS, r_TURNS⟩ := T.c_TURNS
  have m_len := T.m_len
  have m_range := T.m_range
  have m_sorted := T.m_sorted
  have nd := (sc_find_quarters).nd
  refine fnD h.F sc_find_quarters fun cdv A outer s H E hr => ?_
  exact (dss_one (ds_ret (de_callB (cr_sortP hr.units) cd_sort (by rfl) m_sorted (by decide +kernel) (da_cons (de_new (dn_lc (own := [("step", 2)]) rfl nd (di_range1 (by rfl) m_range (de_op op_sub od_sub (de_callB call_lenP cd_len (by rfl) m_len (by decide +kernel) (da_cons (de_c (pe_glob (by rfl) g_TURNS r_TURNS) (fun _ => .str _)) da_nil)) (de_bm PySem.F.plainAttrs_str PySem.F.slot_str_index PySem.F.type_str_index mt_sindex md_sindex sindex_ty (de_c (pe_glob (by rfl) g_TURNS r_TURNS) (fun _ => .str _)) (da_cons (de_var (pv 1)) da_nil)))) (blkOk_by (by kernel_rfl)) (by decide) (fun _ _ _ _ _ => (dg_name (i := 2) nd rfl (by first | exact .inl rfl | exact .inr rfl))) (fun _ _ _ _ _ => dts_nil) (fun _ _ _ _ _ => (de_op op_mod od_mod (de_op op_sub od_sub (de_var (pv 0)) (de_var (pv 2))) (de_c (pe_glob (by rfl) g_MANY r_MANY) (fun _ => .int _)))))) da_nil))))
theorem ok_find_vehicles (T : Tx w K mg) {a : Addr} {fd : FuncData} (h : FnAt K mg "find_vehicles" (topS 18) ["traffic"] a fd) : FnOk P w K mg base CX0 1 a fd ["traffic"] (spD K 1 D_find_vehicles) := by
  obtain ⟨u_EMPTY, g_EMPTY, r_EMPTY⟩ := T.c_EMPTY
  obtain ⟨u_MANY, g_MANY, r_MANY⟩ := T.c_MANY
  have m_range := T.m_range
  have nd := (sc_find_vehicles).nd
  refine fnD h.F sc_find_vehicles fun cdv A outer s H E hr => ?_
  exact (dss_one (ds_ret (de_new (dn_lc (own := [("arm", 1)]) rfl nd (di_range1 (by rfl) m_range (de_c (pe_glob (by rfl) g_MANY r_MANY) (fun _ => .int _))) (blkOk_by (by kernel_rfl)) (by decide) (fun _ _ _ _ _ => (dg_name (i := 1) nd rfl (by first | exact .inl rfl | exact .inr rfl))) (fun _ _ _ _ _ => (dts_one (dt_cmp (op_neD hr.units) od_neS (de_ix ix_seq od_ix (de_var (pv 0)) (de_var (pv 1)) (fun _ _ => rfl)) (de_c (pe_glob (by rfl) g_EMPTY r_EMPTY) (fun _ => .str _)) (nomark _)))) (fun _ _ _ _ _ => (de_var (pv 1)))))))
theorem ok_do_meet (T : Tx w K mg) {a : Addr} {fd : FuncData} (h : FnAt K mg "do_meet" (topS 20) ["traffic", "one", "other"] a fd) : FnOk P w K mg base CX0 2 a fd ["traffic", "one", "other"] (spD K 3 D_do_meet) := by
  obtain ⟨u_LEFT, g_LEFT, r_LEFT⟩ := T.c_LEFT
  obtain ⟨a_find_quarters, fd_find_quarters, h_find_quarters⟩ := T.h_find_quarters
  have m_any := T.m_any
  have nd := (sc_do_meet).nd
  refine fnD h.F sc_do_meet fun cdv A outer s H E hr => ?_
  exact (dss_cons (ds_if (PW.pt (dw_and (dt_cmp (op_eqD hr.units) od_eq (de_op op_mod od_mod (de_op op_sub od_sub (de_var (pv 1)) (de_var (pv 2))) de_int) de_int (nomark _)) (dw_and (dt_cmp (op_eqD hr.units) od_eq (de_ix ix_seq od_ix (de_var (pv 0)) (de_var (pv 1)) (fun _ _ => rfl)) (de_c (pe_glob (by rfl) g_LEFT r_LEFT) (fun _ => .str _)) (nomark _)) (dw_and1 (dt_cmp (op_eqD hr.units) od_eq (de_ix ix_seq od_ix (de_var (pv 0)) (de_var (pv 2)) (fun _ _ => rfl)) (de_c (pe_glob (by rfl) g_LEFT r_LEFT) (fun _ => .str _)) (nomark _)))))) (dss_one (ds_ret de_bl))
    dss_nil)
    (dss_cons (ds_set (i := 3) nd rfl (by first | exact .inl rfl | exact .inr rfl) (de_call (ok_find_quarters T h_find_quarters) (hr.mono (by decide)) (by rfl) h_find_quarters.g h_find_quarters.F.kp h_find_quarters.b rfl (da_cons (de_var (pv 2)) (da_cons (de_ix ix_seq od_ix (de_var (pv 0)) (de_var (pv 2)) (fun _ _ => rfl)) da_nil)) (aCons_len (aCons_len aNil_len))))
    (dss_one (ds_ret (de_callB (cr_any rfl) cd_any (by rfl) m_any (by decide +kernel) (da_cons (de_new (dn_lc (own := [("quarter", 4)]) rfl nd (di_any (de_call (ok_find_quarters T h_find_quarters) (hr.mono (by decide)) (by rfl) h_find_quarters.g h_find_quarters.F.kp h_find_quarters.b rfl (da_cons (de_var (pv 1)) (da_cons (de_ix ix_seq od_ix (de_var (pv 0)) (de_var (pv 1)) (fun _ _ => rfl)) da_nil)) (aCons_len (aCons_len aNil_len)))) (blkOk_by (by kernel_rfl)) (by decide) (fun _ _ _ _ _ => (dg_name (i := 4) nd rfl (by first | exact .inl rfl | exact .inr rfl))) (fun _ _ _ _ _ => dts_nil) (fun _ _ _ _ _ => (de_cmp op_inP od_in (de_var (pv 4)) (de_var (pv 3)) rfl)))) da_nil))))))
theorem ok_check_vehicle (T : Tx w K mg) {a : Addr} {fd : FuncData} (h : FnAt K mg "check_vehicle" (topS 21) ["traffic", "arm"] a fd) : FnOk P w K mg base CX0 1 a fd ["traffic", "arm"] (spD K 2 D_check_vehicle) := by
  obtain ⟨u_EMPTY, g_EMPTY, r_EMPTY⟩ := T.c_EMPTY
  have nd := (sc_check_vehicle).nd
  refine fnD h.F sc_check_vehicle fun cdv A outer s H E hr => ?_
  exact (dss_one (ds_if (dt_cmp (op_eqD hr.units) od_eq (de_ix ix_seq od_ix (de_var (pv 0)) (de_var (pv 1)) (fun _ _ => rfl)) (de_c (pe_glob (by rfl) g_EMPTY r_EMPTY) (fun _ => .str _)) (nomark _)) (dss_one ds_no)
    dss_nil))
theorem ok_in_the_way (T : Tx w K mg) {a : Addr} {fd : FuncData} (h : FnAt K mg "in_the_way" (topS 22) ["traffic", "one", "other"] a fd) : FnOk P w K mg base CX0 3 a fd ["traffic", "one", "other"] (spD K 3 D_in_the_way) := by
  obtain ⟨a_check_arm, fd_check_arm, h_check_arm⟩ := T.h_check_arm
  obtain ⟨a_check_traffic, fd_check_traffic, h_check_traffic⟩ := T.h_check_traffic
  obtain ⟨a_check_vehicle, fd_check_vehicle, h_check_vehicle⟩ := T.h_check_vehicle
  obtain ⟨a_do_meet, fd_do_meet, h_do_meet⟩ := T.h_do_meet
  have nd := (sc_in_the_way).nd
  refine fnD h.F sc_in_the_way fun cdv A outer s H E hr => ?_
  exact (dss_cons (ds_expr (de_call (ok_check_traffic T h_check_traffic) (hr.mono (by decide)) (by rfl) h_check_traffic.g h_check_traffic.F.kp h_check_traffic.b rfl (da_cons (de_var (pv 0)) da_nil) (aCons_len aNil_len)))
    (dss_cons (ds_expr (de_call (ok_check_arm T h_check_arm) (hr.mono (by decide)) (by rfl) h_check_arm.g h_check_arm.F.kp h_check_arm.b rfl (da_cons (de_var (pv 1)) da_nil) (aCons_len aNil_len)))
    (dss_cons (ds_expr (de_call (ok_check_arm T h_check_arm) (hr.mono (by decide)) (by rfl) h_check_arm.g h_check_arm.F.kp h_check_arm.b rfl (da_cons (de_var (pv 2)) da_nil) (aCons_len aNil_len)))
    (dss_cons (ds_expr (de_call (ok_check_vehicle T h_check_vehicle) (hr.mono (by decide)) (by rfl) h_check_vehicle.g h_check_vehicle.F.kp h_check_vehicle.b rfl (da_cons (de_var (pv 0)) (da_cons (de_var (pv 1)) da_nil)) (aCons_len (aCons_len aNil_len))))
    (dss_cons (ds_expr (de_call (ok_check_vehicle T h_check_vehicle) (hr.mono (by decide)) (by rfl) h_check_vehicle.g h_check_vehicle.F.kp h_check_vehicle.b rfl (da_cons (de_var (pv 0)) (da_cons (de_var (pv 2)) da_nil)) (aCons_len (aCons_len aNil_len))))
    (dss_cons (ds_if (dt_cmp (op_eqD hr.units) od_eq (de_var (pv 1)) (de_var (pv 2)) (nomark _)) (dss_one ds_no)
    dss_nil)
    (dss_one (ds_ret (de_call (ok_do_meet T h_do_meet) (hr.mono (by decide)) (by rfl) h_do_meet.g h_do_meet.F.kp h_do_meet.b rfl (da_cons (de_var (pv 0)) (da_cons (de_var (pv 1)) (da_cons (de_var (pv 2)) da_nil))) (aCons_len (aCons_len (aCons_len aNil_len))))))))))))
theorem ok_conflicts (T : Tx w K mg) {a : Addr} {fd : FuncData} (h : FnAt K mg "conflicts" (topS 23) ["traffic"] a fd) : FnOk P w K mg base CX0 3 a fd ["traffic"] (spD K 1 D_conflicts) := by
  obtain ⟨a_check_traffic, fd_check_traffic, h_check_traffic⟩ := T.h_check_traffic
  obtain ⟨a_do_meet, fd_do_meet, h_do_meet⟩ := T.h_do_meet
  obtain ⟨a_find_vehicles, fd_find_vehicles, h_find_vehicles⟩ := T.h_find_vehicles
  have nd := (sc_conflicts).nd
  refine fnD h.F sc_conflicts fun cdv A outer s H E hr => ?_
  exact (dss_cons (ds_expr (de_call (ok_check_traffic T h_check_traffic) (hr.mono (by decide)) (by rfl) h_check_traffic.g h_check_traffic.F.kp h_check_traffic.b rfl (da_cons (de_var (pv 0)) da_nil) (aCons_len aNil_len)))
    (dss_cons (ds_par (i := 1) (j := 2) rfl nd rfl rfl (by decide) rfl rfl (dm_d (de_call (ok_find_vehicles T h_find_vehicles) (hr.mono (by decide)) (by rfl) h_find_vehicles.g h_find_vehicles.F.kp h_find_vehicles.b rfl (da_cons (de_var (pv 0)) da_nil) (aCons_len aNil_len)) (dm_own (dn_lst da_nil) dm_nil)) (by rfl))
    (dss_cons (ds_for PassesOwn.never rfl (di_any (de_var (pv 1))) (dg_name (i := 3) nd rfl (by first | exact .inl rfl | exact .inr rfl))
    (dss_one (ds_ext (pv 2) (de_new (dn_lc (own := [("other", 4)]) rfl nd (di_any (de_var (pv 1))) (blkOk_by (by kernel_rfl)) (by decide) (fun _ _ _ _ _ => (dg_name (i := 4) nd rfl (by first | exact .inl rfl | exact .inr rfl))) (fun _ _ _ _ _ => (dts_one (PW.pt (dw_and (dt_cmp op_gt od_gt (de_var (pv 4)) (de_var (pv 3)) (nomark _)) (dw_and1 (dt_val (de_call (ok_do_meet T h_do_meet) (hr.mono (by decide)) (by rfl) h_do_meet.g h_do_meet.F.kp h_do_meet.b rfl (da_cons (de_var (pv 0)) (da_cons (de_var (pv 3)) (da_cons (de_var (pv 4)) da_nil))) (aCons_len (aCons_len (aCons_len aNil_len)))))))))) (fun _ _ _ _ _ => (de_tup (da_cons (de_var (pv 3)) (da_cons (de_var (pv 4)) da_nil)))))))))
    (dss_one (ds_fr 2 (ds_ret (de_var (pv 2))))))))
theorem ok_can_join (T : Tx w K mg) {a : Addr} {fd : FuncData} (h : FnAt K mg "can_join" (topS 24) ["traffic", "arm", "turn"] a fd) : FnOk P w K mg base CX0 3 a fd ["traffic", "arm", "turn"] (spD K 3 D_can_join) := by
  obtain ⟨u_EMPTY, g_EMPTY, r_EMPTY⟩ := T.c_EMPTY
  obtain ⟨a_check_arm, fd_check_arm, h_check_arm⟩ := T.h_check_arm
  obtain ⟨a_check_traffic, fd_check_traffic, h_check_traffic⟩ := T.h_check_traffic
  obtain ⟨a_check_turn, fd_check_turn, h_check_turn⟩ := T.h_check_turn
  obtain ⟨a_do_meet, fd_do_meet, h_do_meet⟩ := T.h_do_meet
  obtain ⟨a_find_vehicles, fd_find_vehicles, h_find_vehicles⟩ := T.h_find_vehicles
  have m_any := T.m_any
  have nd := (sc_can_join).nd
  refine fnD h.F sc_can_join fun cdv A outer s H E hr => ?_
  exact (dss_cons (ds_expr (de_call (ok_check_traffic T h_check_traffic) (hr.mono (by decide)) (by rfl) h_check_traffic.g h_check_traffic.F.kp h_check_traffic.b rfl (da_cons (de_var (pv 0)) da_nil) (aCons_len aNil_len)))
    (dss_cons (ds_expr (de_call (ok_check_arm T h_check_arm) (hr.mono (by decide)) (by rfl) h_check_arm.g h_check_arm.F.kp h_check_arm.b rfl (da_cons (de_var (pv 1)) da_nil) (aCons_len aNil_len)))
    (dss_cons (ds_expr (de_call (ok_check_turn T h_check_turn) (hr.mono (by decide)) (by rfl) h_check_turn.g h_check_turn.F.kp h_check_turn.b rfl (da_cons (de_var (pv 2)) da_nil) (aCons_len aNil_len)))
    (dss_cons (ds_if (dt_cmp (op_neD hr.units) od_neS (de_ix ix_seq od_ix (de_var (pv 0)) (de_var (pv 1)) (fun _ _ => rfl)) (de_c (pe_glob (by rfl) g_EMPTY r_EMPTY) (fun _ => .str _)) (nomark _)) (dss_one ds_no)
    dss_nil)
    (dss_cons (ds_set (i := 3) nd rfl (by first | exact .inl rfl | exact .inr rfl) (de_op op_addP od_add (de_op op_addP od_add (de_slice (de_var (pv 0)) do_none (do_some (de_var (pv 1)))) (de_var (pv 2))) (de_slice (de_var (pv 0)) (do_some (de_op op_addP od_add (de_var (pv 1)) de_int)) do_none)))
    (dss_one (ds_ret (de_not (de_callB (cr_any rfl) cd_any (by rfl) m_any (by decide +kernel) (da_cons (de_new (dn_lc (own := [("other", 4)]) rfl nd (di_any (de_call (ok_find_vehicles T h_find_vehicles) (hr.mono (by decide)) (by rfl) h_find_vehicles.g h_find_vehicles.F.kp h_find_vehicles.b rfl (da_cons (de_var (pv 0)) da_nil) (aCons_len aNil_len))) (blkOk_by (by kernel_rfl)) (by decide) (fun _ _ _ _ _ => (dg_name (i := 4) nd rfl (by first | exact .inl rfl | exact .inr rfl))) (fun _ _ _ _ _ => dts_nil) (fun _ _ _ _ _ => (de_call (ok_do_meet T h_do_meet) (hr.mono (by decide)) (by rfl) h_do_meet.g h_do_meet.F.kp h_do_meet.b rfl (da_cons (de_var (pv 3)) (da_cons (de_var (pv 1)) (da_cons (de_var (pv 4)) da_nil))) (aCons_len (aCons_len (aCons_len aNil_len))))))) da_nil))))))))))
theorem ok_largest_free (T : Tx w K mg) {a : Addr} {fd : FuncData} (h : FnAt K mg "largest_free" (topS 25) ["traffic"] a fd) : FnOk P w K mg base CX0 3 a fd ["traffic"] (spD K 1 D_largest_free) := by
  obtain ⟨a_check_traffic, fd_check_traffic, h_check_traffic⟩ := T.h_check_traffic
  obtain ⟨a_do_meet, fd_do_meet, h_do_meet⟩ := T.h_do_meet
  obtain ⟨a_find_vehicles, fd_find_vehicles, h_find_vehicles⟩ := T.h_find_vehicles
  have m_any := T.m_any
  have m_len := T.m_len
  have m_min := T.m_min
  have nd := (sc_largest_free).nd
  refine fnD h.F sc_largest_free fun cdv A outer s H E hr => ?_
  exact (dss_cons (ds_expr (de_call (ok_check_traffic T h_check_traffic) (hr.mono (by decide)) (by rfl) h_check_traffic.g h_check_traffic.F.kp h_check_traffic.b rfl (da_cons (de_var (pv 0)) da_nil) (aCons_len aNil_len)))
    (dss_cons (ds_set (i := 1) nd rfl (by first | exact .inl rfl | exact .inr rfl) (de_lst (da_cons (de_tup da_nil) da_nil)))
    (dss_cons (ds_for PassesOwn.never rfl (di_any (de_call (ok_find_vehicles T h_find_vehicles) (hr.mono (by decide)) (by rfl) h_find_vehicles.g h_find_vehicles.F.kp h_find_vehicles.b rfl (da_cons (de_var (pv 0)) da_nil) (aCons_len aNil_len))) (dg_name (i := 2) nd rfl (by first | exact .inl rfl | exact .inr rfl))
    (dss_cons (ds_setLc (i := 3) (own := [("some", 4)]) rfl nd rfl rfl (sw_true rfl rfl rfl (by decide +kernel)) (di_any (de_var (pv 1))) (blkOk_by (by kernel_rfl)) (by decide) (fun _ _ _ _ _ => (dg_name (i := 4) nd rfl (by first | exact .inl rfl | exact .inr rfl))) (fun _ _ _ _ _ => (dts_one (dt_not (dt_val (de_callB (cr_any rfl) cd_any (by rfl) m_any (by decide +kernel) (da_cons (de_new (dn_lc (own := [("one", 5)]) rfl nd (di_any (de_var (pv 4))) (blkOk_by (by kernel_rfl)) (by decide) (fun _ _ _ _ _ => (dg_name (i := 5) nd rfl (by first | exact .inl rfl | exact .inr rfl))) (fun _ _ _ _ _ => dts_nil) (fun _ _ _ _ _ => (de_call (ok_do_meet T h_do_meet) (hr.mono (by decide)) (by rfl) h_do_meet.g h_do_meet.F.kp h_do_meet.b rfl (da_cons (de_var (pv 0)) (da_cons (de_var (pv 5)) (da_cons (de_var (pv 2)) da_nil))) (aCons_len (aCons_len (aCons_len aNil_len))))))) da_nil)))))) (fun _ _ _ _ _ => (de_var (pv 4))))
    (dss_one (ds_set (i := 1) nd rfl (by first | exact .inl rfl | exact .inr rfl) (de_op op_addP od_add (de_var (pv 1)) (de_new (dn_lc (own := [("some", 4)]) rfl nd (di_any (de_var (pv 3))) (blkOk_by (by kernel_rfl)) (by decide) (fun _ _ _ _ _ => (dg_name (i := 4) nd rfl (by first | exact .inl rfl | exact .inr rfl))) (fun _ _ _ _ _ => dts_nil) (fun _ _ _ _ _ => (de_op op_addP od_add (de_var (pv 4)) (de_tup (da_cons (de_var (pv 2)) da_nil)))))))))))
    (dss_one (ds_ret (de_ix ix_seq od_ix (de_callB (cr_minP rfl hr.units) cd_min (by rfl) m_min (by decide +kernel) (da_cons (de_new (dn_lc (own := [("some", 4)]) rfl nd (di_any (de_var (pv 1))) (blkOk_by (by kernel_rfl)) (by decide) (fun _ _ _ _ _ => (dg_name (i := 4) nd rfl (by first | exact .inl rfl | exact .inr rfl))) (fun _ _ _ _ _ => dts_nil) (fun _ _ _ _ _ => (de_tup (da_cons (de_op op_sub od_sub de_int (de_callB call_lenP cd_len (by rfl) m_len (by decide +kernel) (da_cons (de_var (pv 4)) da_nil))) (da_cons (de_var (pv 4)) da_nil)))))) da_nil)) de_int (fun _ _ => rfl)))))))
theorem ok__law_pick (T : Tx w K mg) {a : Addr} {fd : FuncData} (h : FnAt K mg "_law_pick" (topS 27) ["script", "k", "many"] a fd) : FnOk P w K mg base CX0 1 a fd ["script", "k", "many"] (spD K 3 D__law_pick) := by
  have m_len := T.m_len
  have m_max := T.m_max
  have nd := (sc__law_pick).nd
  refine fnD h.F sc__law_pick fun cdv A outer s H E hr => ?_
  exact (dss_cons (ds_set (i := 3) nd rfl (by first | exact .inl rfl | exact .inr rfl) (de_if (dt_cmp (op_neD hr.units) od_neS (de_var (pv 0)) (de_lst da_nil) (nomark _)) (de_ix ix_seq od_ix (de_var (pv 0)) (de_op op_mod od_mod (de_var (pv 1)) (de_callB call_lenP cd_len (by rfl) m_len (by decide +kernel) (da_cons (de_var (pv 0)) da_nil))) (fun _ _ => rfl)) de_int))
    (dss_cons (ds_par (i := 4) (j := 5) rfl nd rfl rfl (by decide) rfl rfl (dm_d (de_op op_fdivW od_fdiv (de_var (pv 3)) (de_op op_pow od_pow de_int de_int)) (dm_d (de_op op_fdivW od_fdiv (de_var (pv 1)) (de_callB (cr_maxA rfl hr.units) cd_max (by rfl) m_max (by decide +kernel) (da_cons (de_callB call_lenP cd_len (by rfl) m_len (by decide +kernel) (da_cons (de_var (pv 0)) da_nil)) (da_cons de_int da_nil)))) dm_nil)) (by rfl))
    (dss_cons (ds_while 1000 PassesOwn.never (PW.pt (dw_and (dt_cmp op_gt od_gt (de_var (pv 4)) de_int (nomark _)) (dw_and1 (dt_cmp op_gt od_gt (de_var (pv 5)) de_int (nomark _))))) (dss_one (ds_par (i := 4) (j := 5) rfl nd rfl rfl (by decide) rfl rfl (dm_d (de_op op_fdivW od_fdiv (de_var (pv 4)) de_int) (dm_d (de_op op_sub od_sub (de_var (pv 5)) de_int) dm_nil)) (by rfl))))
    (dss_cons (ds_if (dt_cmp op_gt od_gt (de_var (pv 4)) de_int (nomark _)) (dss_one (ds_ret (de_op op_mod od_mod (de_op op_mod od_mod (de_var (pv 4)) de_int) (de_var (pv 2)))))
    dss_nil)
    (dss_cons (ds_set (i := 6) nd rfl (by first | exact .inl rfl | exact .inr rfl) (de_op op_mod od_mod (de_op op_mulP od_mul (de_op op_addP od_add (de_op op_mulP od_mul (de_var (pv 3)) de_int) (de_op op_mulP od_mul de_int (de_op op_addP od_add (de_var (pv 1)) de_int))) de_int) de_int))
    (dss_one (ds_ret (de_op op_mod od_mod (de_op op_mod od_mod (de_op op_addP od_add (de_op op_mulP od_mul (de_var (pv 6)) (de_var (pv 6))) (de_op op_fdivW od_fdiv (de_var (pv 6)) de_int)) de_int) (de_var (pv 2))))))))))
theorem ok__law_cars (T : Tx w K mg) {a : Addr} {fd : FuncData} (h : FnAt K mg "_law_cars" (topS 28) ["script", "at"] a fd) : FnOk P w K mg base CX0 2 a fd ["script", "at"] (spD K 2 D__law_cars) := by
  obtain ⟨a__law_pick, fd__law_pick, h__law_pick⟩ := T.h__law_pick
  have m_range := T.m_range
  have nd := (sc__law_cars).nd
  refine fnD h.F sc__law_cars fun cdv A outer s H E hr => ?_
  exact (dss_one (ds_ret (de_bm PySem.F.plainAttrs_str PySem.F.slot_str_join PySem.F.type_str_join mt_join md_join join_ty de_str (da_cons (de_new (dn_lc (own := [("k", 2)]) rfl nd (di_range1 (by rfl) m_range de_int) (blkOk_by (by kernel_rfl)) (by decide) (fun _ _ _ _ _ => (dg_name (i := 2) nd rfl (by first | exact .inl rfl | exact .inr rfl))) (fun _ _ _ _ _ => dts_nil) (fun _ _ _ _ _ => (de_ix ix_seq od_ix de_str (de_call (ok__law_pick T h__law_pick) (hr.mono (by decide)) (by rfl) h__law_pick.g h__law_pick.F.kp h__law_pick.b rfl (da_cons (de_var (pv 0)) (da_cons (de_op op_addP od_add (de_var (pv 1)) (de_var (pv 2))) (da_cons de_int da_nil))) (aCons_len (aCons_len (aCons_len aNil_len)))) (fun _ _ => rfl))))) da_nil))))
theorem ok__law_path (T : Tx w K mg) {a : Addr} {fd : FuncData} (h : FnAt K mg "_law_path" (topS 29) ["arm", "turn"] a fd) : FnOk P w K mg base CX0 1 a fd ["arm", "turn"] (spD K 2 D__law_path) := by
  have m_range := T.m_range
  have nd := (sc__law_path).nd
  refine fnD h.F sc__law_path fun cdv A outer s H E hr => ?_
  exact (dss_one (ds_ret (de_new (dn_lc (own := [("k", 2)]) rfl nd (di_range1 (by rfl) m_range (de_op op_addP od_add (de_bm PySem.F.plainAttrs_str PySem.F.slot_str_index PySem.F.type_str_index mt_sindex md_sindex sindex_ty de_str (da_cons (de_var (pv 1)) da_nil)) de_int)) (blkOk_by (by kernel_rfl)) (by decide) (fun _ _ _ _ _ => (dg_name (i := 2) nd rfl (by first | exact .inl rfl | exact .inr rfl))) (fun _ _ _ _ _ => dts_nil) (fun _ _ _ _ _ => (de_op op_mod od_mod (de_op op_sub od_sub (de_op op_addP od_add (de_var (pv 0)) de_int) (de_var (pv 2))) de_int))))))
theorem ok__law_meet (T : Tx w K mg) {a : Addr} {fd : FuncData} (h : FnAt K mg "_law_meet" (topS 30) ["cars", "one", "other"] a fd) : FnOk P w K mg base CX0 2 a fd ["cars", "one", "other"] (spD K 3 D__law_meet) := by
  obtain ⟨a__law_path, fd__law_path, h__law_path⟩ := T.h__law_path
  have nd := (sc__law_meet).nd
  refine fnD h.F sc__law_meet fun cdv A outer s H E hr => ?_
  exact (dss_cons (ds_if (PW.pt (dw_and (dt_cmp op_inP od_in (de_var (pv 1)) (de_tup (da_cons (de_op op_sub od_sub (de_var (pv 2)) de_int) (da_cons (de_op op_addP od_add (de_var (pv 2)) de_int) da_nil))) rfl) (dw_and1 (dt_cmp (op_eqD hr.units) od_eq (de_op op_addP od_add (de_ix ix_seq od_ix (de_var (pv 0)) (de_var (pv 1)) (fun _ _ => rfl)) (de_ix ix_seq od_ix (de_var (pv 0)) (de_var (pv 2)) (fun _ _ => rfl))) de_str (nomark _))))) (dss_one (ds_ret de_bl))
    dss_nil)
    (dss_cons (ds_set (i := 3) nd rfl (by first | exact .inl rfl | exact .inr rfl) (de_call (ok__law_path T h__law_path) (hr.mono (by decide)) (by rfl) h__law_path.g h__law_path.F.kp h__law_path.b rfl (da_cons (de_var (pv 2)) (da_cons (de_ix ix_seq od_ix (de_var (pv 0)) (de_var (pv 2)) (fun _ _ => rfl)) da_nil)) (aCons_len (aCons_len aNil_len))))
    (dss_one (ds_ret (de_cmp (op_neD hr.units) od_neS (de_new (dn_lc (own := [("quarter", 4)]) rfl nd (di_any (de_call (ok__law_path T h__law_path) (hr.mono (by decide)) (by rfl) h__law_path.g h__law_path.F.kp h__law_path.b rfl (da_cons (de_var (pv 1)) (da_cons (de_ix ix_seq od_ix (de_var (pv 0)) (de_var (pv 1)) (fun _ _ => rfl)) da_nil)) (aCons_len (aCons_len aNil_len)))) (blkOk_by (by kernel_rfl)) (by decide) (fun _ _ _ _ _ => (dg_name (i := 4) nd rfl (by first | exact .inl rfl | exact .inr rfl))) (fun _ _ _ _ _ => (dts_one (dt_cmp op_inP od_in (de_var (pv 4)) (de_var (pv 3)) rfl))) (fun _ _ _ _ _ => (de_var (pv 4))))) (de_lst da_nil) (nomark _))))))
theorem ok_law (T : Tx w K mg) {a : Addr} {fd : FuncData} (h : FnAt K mg "law" (topS 31) ["script"] a fd) : FnOk P w K mg base CX0 4 a fd ["script"] (spD K 1 D_law) := by
  obtain ⟨a__law_cars, fd__law_cars, h__law_cars⟩ := T.h__law_cars
  obtain ⟨a__law_meet, fd__law_meet, h__law_meet⟩ := T.h__law_meet
  obtain ⟨a_can_join, fd_can_join, h_can_join⟩ := T.h_can_join
  obtain ⟨a_conflicts, fd_conflicts, h_conflicts⟩ := T.h_conflicts
  obtain ⟨a_in_the_way, fd_in_the_way, h_in_the_way⟩ := T.h_in_the_way
  obtain ⟨a_largest_free, fd_largest_free, h_largest_free⟩ := T.h_largest_free
  have m_any := T.m_any
  have m_len := T.m_len
  have m_list := T.m_list
  have m_min := T.m_min
  have m_range := T.m_range
  have nd := (sc_law).nd
  refine fnD h.F sc_law fun cdv A outer s H E hr => ?_
  exact (dss_cons (ds_for PassesOwn.never rfl (di_range1 (by rfl) m_range de_int) (dg_name (i := 1) nd rfl (by first | exact .inl rfl | exact .inr rfl))
    (dss_cons (ds_set (i := 2) nd rfl (by first | exact .inl rfl | exact .inr rfl) (de_call (ok__law_cars T h__law_cars) (hr.mono (by decide)) (by rfl) h__law_cars.g h__law_cars.F.kp h__law_cars.b rfl (da_cons (de_var (pv 0)) (da_cons (de_op op_mulP od_mul de_int (de_var (pv 1))) da_nil)) (aCons_len (aCons_len aNil_len))))
    (dss_cons (ds_setLc (i := 3) (own := [("arm", 9)]) rfl nd rfl rfl (sw_true rfl rfl rfl (by decide +kernel)) (di_range1 (by rfl) m_range de_int) (blkOk_by (by kernel_rfl)) (by decide) (fun _ _ _ _ _ => (dg_name (i := 9) nd rfl (by first | exact .inl rfl | exact .inr rfl))) (fun _ _ _ _ _ => (dts_one (dt_cmp (op_neD hr.units) od_neS (de_ix ix_seq od_ix (de_var (pv 2)) (de_var (pv 9)) (fun _ _ => rfl)) de_str (nomark _)))) (fun _ _ _ _ _ => (de_var (pv 9))))
    (dss_cons (ds_par (i := 4) (j := 5) rfl nd rfl rfl (by decide) rfl rfl (dm_own (dn_lst da_nil) (dm_d (de_lst (da_cons (de_tup da_nil) da_nil)) dm_nil)) (by rfl))
    (dss_cons (ds_for PassesOwn.never rfl (di_any (de_var (pv 3))) (dg_name (i := 6) nd rfl (by first | exact .inl rfl | exact .inr rfl))
    (dss_cons (ds_for PassesOwn.never rfl (di_any (de_var (pv 3))) (dg_name (i := 7) nd rfl (by first | exact .inl rfl | exact .inr rfl))
    (dss_one (ds_if (dt_cmp (op_neD hr.units) od_neS (de_var (pv 6)) (de_var (pv 7)) (nomark _)) (dss_cons (ds_set (i := 8) nd rfl (by first | exact .inl rfl | exact .inr rfl) (de_call (ok__law_meet T h__law_meet) (hr.mono (by decide)) (by rfl) h__law_meet.g h__law_meet.F.kp h__law_meet.b rfl (da_cons (de_var (pv 2)) (da_cons (de_var (pv 6)) (da_cons (de_var (pv 7)) da_nil))) (aCons_len (aCons_len (aCons_len aNil_len)))))
    (dss_cons (ds_if (PW.pt (dw_or (dt_cmp (op_neD hr.units) od_neS (de_call (ok_in_the_way T h_in_the_way) (hr.mono (by decide)) (by rfl) h_in_the_way.g h_in_the_way.F.kp h_in_the_way.b rfl (da_cons (de_var (pv 2)) (da_cons (de_var (pv 6)) (da_cons (de_var (pv 7)) da_nil))) (aCons_len (aCons_len (aCons_len aNil_len)))) (de_var (pv 8)) (nomark _)) (dw_or1 (dt_cmp (op_neD hr.units) od_neS (de_var (pv 8)) (de_call (ok__law_meet T h__law_meet) (hr.mono (by decide)) (by rfl) h__law_meet.g h__law_meet.F.kp h__law_meet.b rfl (da_cons (de_var (pv 2)) (da_cons (de_var (pv 7)) (da_cons (de_var (pv 6)) da_nil))) (aCons_len (aCons_len (aCons_len aNil_len)))) (nomark _))))) (dss_one (ds_ret de_bl))
    dss_nil)
    (dss_one (ds_if (PW.pt (dw_and (dt_val (de_var (pv 8))) (dw_and1 (dt_cmp op_ltP od_lt (de_var (pv 6)) (de_var (pv 7)) (nomark _))))) (dss_one (ds_app (pv 4) (de_tup (da_cons (de_var (pv 6)) (da_cons (de_var (pv 7)) da_nil)))))
    dss_nil))))
    dss_nil)))
    (dss_one (ds_set (i := 5) nd rfl (by first | exact .inl rfl | exact .inr rfl) (de_op op_addP od_add (de_var (pv 5)) (de_new (dn_lc (own := [("some", 12)]) rfl nd (di_any (de_var (pv 5))) (blkOk_by (by kernel_rfl)) (by decide) (fun _ _ _ _ _ => (dg_name (i := 12) nd rfl (by first | exact .inl rfl | exact .inr rfl))) (fun _ _ _ _ _ => (dts_one (dt_not (dt_val (de_callB (cr_any rfl) cd_any (by rfl) m_any (by decide +kernel) (da_cons (de_new (dn_lc (own := [("one", 13)]) rfl nd (di_any (de_var (pv 12))) (blkOk_by (by kernel_rfl)) (by decide) (fun _ _ _ _ _ => (dg_name (i := 13) nd rfl (by first | exact .inl rfl | exact .inr rfl))) (fun _ _ _ _ _ => dts_nil) (fun _ _ _ _ _ => (de_call (ok__law_meet T h__law_meet) (hr.mono (by decide)) (by rfl) h__law_meet.g h__law_meet.F.kp h__law_meet.b rfl (da_cons (de_var (pv 2)) (da_cons (de_var (pv 13)) (da_cons (de_var (pv 6)) da_nil))) (aCons_len (aCons_len (aCons_len aNil_len))))))) da_nil)))))) (fun _ _ _ _ _ => (de_op op_addP od_add (de_var (pv 12)) (de_tup (da_cons (de_var (pv 6)) da_nil)))))))))))
    (dss_cons (ds_fr 4 (ds_if (dt_cmp (op_neD hr.units) od_neS (de_call (ok_conflicts T h_conflicts) (hr.mono (by decide)) (by rfl) h_conflicts.g h_conflicts.F.kp h_conflicts.b rfl (da_cons (de_var (pv 2)) da_nil) (aCons_len aNil_len)) (de_var (pv 4)) (nomark _)) (dss_one (ds_ret de_bl))
    dss_nil))
    (dss_cons (ds_if (dt_cmp (op_neD hr.units) od_neS (de_call (ok_largest_free T h_largest_free) (hr.mono (by decide)) (by rfl) h_largest_free.g h_largest_free.F.kp h_largest_free.b rfl (da_cons (de_var (pv 2)) da_nil) (aCons_len aNil_len)) (de_ix ix_seq od_ix (de_callB (cr_minP rfl hr.units) cd_min (by rfl) m_min (by decide +kernel) (da_cons (de_new (dn_lc (own := [("some", 12)]) rfl nd (di_any (de_var (pv 5))) (blkOk_by (by kernel_rfl)) (by decide) (fun _ _ _ _ _ => (dg_name (i := 12) nd rfl (by first | exact .inl rfl | exact .inr rfl))) (fun _ _ _ _ _ => dts_nil) (fun _ _ _ _ _ => (de_tup (da_cons (de_op op_sub od_sub de_int (de_callB call_lenP cd_len (by rfl) m_len (by decide +kernel) (da_cons (de_var (pv 12)) da_nil))) (da_cons (de_var (pv 12)) da_nil)))))) da_nil)) de_int (fun _ _ => rfl)) (nomark _)) (dss_one (ds_ret de_bl))
    dss_nil)
    (dss_one (ds_for PassesOwn.never rfl (di_any (de_new (dn_listRg rfl (by rfl) m_list (by rfl) m_range de_int))) (dg_name (i := 9) nd rfl (by first | exact .inl rfl | exact .inr rfl))
    (dss_one (ds_if (dt_cmp (op_eqD hr.units) od_eq (de_ix ix_seq od_ix (de_var (pv 2)) (de_var (pv 9)) (fun _ _ => rfl)) de_str (nomark _)) (dss_one (ds_for PassesOwn.never rfl (di_any (de_tup (da_cons de_str (da_cons de_str (da_cons de_str da_nil))))) (dg_name (i := 10) nd rfl (by first | exact .inl rfl | exact .inr rfl))
    (dss_cons (ds_set (i := 11) nd rfl (by first | exact .inl rfl | exact .inr rfl) (de_op op_addP od_add (de_op op_addP od_add (de_slice (de_var (pv 2)) do_none (do_some (de_var (pv 9)))) (de_var (pv 10))) (de_slice (de_var (pv 2)) (do_some (de_op op_addP od_add (de_var (pv 9)) de_int)) do_none)))
    (dss_one (ds_if (dt_cmp (op_neD hr.units) od_neS (de_call (ok_can_join T h_can_join) (hr.mono (by decide)) (by rfl) h_can_join.g h_can_join.F.kp h_can_join.b rfl (da_cons (de_var (pv 2)) (da_cons (de_var (pv 9)) (da_cons (de_var (pv 10)) da_nil))) (aCons_len (aCons_len (aCons_len aNil_len)))) (de_not (de_callB (cr_any rfl) cd_any (by rfl) m_any (by decide +kernel) (da_cons (de_new (dn_lc (own := [("other", 14)]) rfl nd (di_any (de_var (pv 3))) (blkOk_by (by kernel_rfl)) (by decide) (fun _ _ _ _ _ => (dg_name (i := 14) nd rfl (by first | exact .inl rfl | exact .inr rfl))) (fun _ _ _ _ _ => dts_nil) (fun _ _ _ _ _ => (de_call (ok__law_meet T h__law_meet) (hr.mono (by decide)) (by rfl) h__law_meet.g h__law_meet.F.kp h__law_meet.b rfl (da_cons (de_var (pv 11)) (da_cons (de_var (pv 9)) (da_cons (de_var (pv 14)) da_nil))) (aCons_len (aCons_len (aCons_len aNil_len))))))) da_nil))) (nomark _)) (dss_one (ds_ret de_bl))
    dss_nil)))))
    dss_nil)))))))))))
    (dss_one (ds_ret (de_and (de_cmp (op_eqD hr.units) od_eq (de_call (ok_conflicts T h_conflicts) (hr.mono (by decide)) (by rfl) h_conflicts.g h_conflicts.F.kp h_conflicts.b rfl (da_cons de_str da_nil) (aCons_len aNil_len)) (de_lst (da_cons (de_tup (da_cons de_int (da_cons de_int da_nil))) (da_cons (de_tup (da_cons de_int (da_cons de_int da_nil))) (da_cons (de_tup (da_cons de_int (da_cons de_int da_nil))) (da_cons (de_tup (da_cons de_int (da_cons de_int da_nil))) da_nil))))) (nomark _)) (de_one (de_cmp op_isP od_is (de_call (ok_in_the_way T h_in_the_way) (hr.mono (by decide)) (by rfl) h_in_the_way.g h_in_the_way.F.kp h_in_the_way.b rfl (da_cons de_str (da_cons de_int (da_cons de_int da_nil))) (aCons_len (aCons_len (aCons_len aNil_len)))) de_bl (nomark _)))))))
end
theorem all_mk {w : World} {K : PySem.W.Frag} {hh : Heap} {mg : Str → Option Value} {fa : Addr} (X : K.In hh) (G : hh.Ns mainGlobals mg) (hfa : mg "law" = some (.ref fa))
    {f0 : Addr} {od0 an0 : Option Addr} {sl0 : Array (Option Value)} {oc0 kV0 dc0 pm0 cd0 ct0 : Value} (a0 : PySem.W.nsIn K mainGlobals "is_traffic" = some (some (.ref f0))) (l0 : K.lookup f0 = some ⟨oc0, od0, .func (PySem.W.fnOf "is_traffic" "is_traffic" (defArgs (topS 13)) (defBody (topS 13)) (defScope (topS 13)) .none kV0 dc0 pm0 an0 cd0 ct0), sl0⟩) (c0 : PySem.W.codeIn K cd0 "is_traffic" = true) (k0 : PySem.W.keepIn K (.ref f0) = true)
    {f1 : Addr} {od1 an1 : Option Addr} {sl1 : Array (Option Value)} {oc1 kV1 dc1 pm1 cd1 ct1 : Value} (a1 : PySem.W.nsIn K mainGlobals "check_traffic" = some (some (.ref f1))) (l1 : K.lookup f1 = some ⟨oc1, od1, .func (PySem.W.fnOf "check_traffic" "check_traffic" (defArgs (topS 14)) (defBody (topS 14)) (defScope (topS 14)) .none kV1 dc1 pm1 an1 cd1 ct1), sl1⟩) (c1 : PySem.W.codeIn K cd1 "check_traffic" = true) (k1 : PySem.W.keepIn K (.ref f1) = true)
    {f2 : Addr} {od2 an2 : Option Addr} {sl2 : Array (Option Value)} {oc2 kV2 dc2 pm2 cd2 ct2 : Value} (a2 : PySem.W.nsIn K mainGlobals "check_arm" = some (some (.ref f2))) (l2 : K.lookup f2 = some ⟨oc2, od2, .func (PySem.W.fnOf "check_arm" "check_arm" (defArgs (topS 15)) (defBody (topS 15)) (defScope (topS 15)) .none kV2 dc2 pm2 an2 cd2 ct2), sl2⟩) (c2 : PySem.W.codeIn K cd2 "check_arm" = true) (k2 : PySem.W.keepIn K (.ref f2) = true)
    {f3 : Addr} {od3 an3 : Option Addr} {sl3 : Array (Option Value)} {oc3 kV3 dc3 pm3 cd3 ct3 : Value} (a3 : PySem.W.nsIn K mainGlobals "check_turn" = some (some (.ref f3))) (l3 : K.lookup f3 = some ⟨oc3, od3, .func (PySem.W.fnOf "check_turn" "check_turn" (defArgs (topS 16)) (defBody (topS 16)) (defScope (topS 16)) .none kV3 dc3 pm3 an3 cd3 ct3), sl3⟩) (c3 : PySem.W.codeIn K cd3 "check_turn" = true) (k3 : PySem.W.keepIn K (.ref f3) = true)
    {f4 : Addr} {od4 an4 : Option Addr} {sl4 : Array (Option Value)} {oc4 kV4 dc4 pm4 cd4 ct4 : Value} (a4 : PySem.W.nsIn K mainGlobals "find_quarters" = some (some (.ref f4))) (l4 : K.lookup f4 = some ⟨oc4, od4, .func (PySem.W.fnOf "find_quarters" "find_quarters" (defArgs (topS 17)) (defBody (topS 17)) (defScope (topS 17)) .none kV4 dc4 pm4 an4 cd4 ct4), sl4⟩) (c4 : PySem.W.codeIn K cd4 "find_quarters" = true) (k4 : PySem.W.keepIn K (.ref f4) = true)
    {f5 : Addr} {od5 an5 : Option Addr} {sl5 : Array (Option Value)} {oc5 kV5 dc5 pm5 cd5 ct5 : Value} (a5 : PySem.W.nsIn K mainGlobals "find_vehicles" = some (some (.ref f5))) (l5 : K.lookup f5 = some ⟨oc5, od5, .func (PySem.W.fnOf "find_vehicles" "find_vehicles" (defArgs (topS 18)) (defBody (topS 18)) (defScope (topS 18)) .none kV5 dc5 pm5 an5 cd5 ct5), sl5⟩) (c5 : PySem.W.codeIn K cd5 "find_vehicles" = true) (k5 : PySem.W.keepIn K (.ref f5) = true)
    {f6 : Addr} {od6 an6 : Option Addr} {sl6 : Array (Option Value)} {oc6 kV6 dc6 pm6 cd6 ct6 : Value} (a6 : PySem.W.nsIn K mainGlobals "do_meet" = some (some (.ref f6))) (l6 : K.lookup f6 = some ⟨oc6, od6, .func (PySem.W.fnOf "do_meet" "do_meet" (defArgs (topS 20)) (defBody (topS 20)) (defScope (topS 20)) .none kV6 dc6 pm6 an6 cd6 ct6), sl6⟩) (c6 : PySem.W.codeIn K cd6 "do_meet" = true) (k6 : PySem.W.keepIn K (.ref f6) = true)
    {f7 : Addr} {od7 an7 : Option Addr} {sl7 : Array (Option Value)} {oc7 kV7 dc7 pm7 cd7 ct7 : Value} (a7 : PySem.W.nsIn K mainGlobals "check_vehicle" = some (some (.ref f7))) (l7 : K.lookup f7 = some ⟨oc7, od7, .func (PySem.W.fnOf "check_vehicle" "check_vehicle" (defArgs (topS 21)) (defBody (topS 21)) (defScope (topS 21)) .none kV7 dc7 pm7 an7 cd7 ct7), sl7⟩) (c7 : PySem.W.codeIn K cd7 "check_vehicle" = true) (k7 : PySem.W.keepIn K (.ref f7) = true)
    {f8 : Addr} {od8 an8 : Option Addr} {sl8 : Array (Option Value)} {oc8 kV8 dc8 pm8 cd8 ct8 : Value} (a8 : PySem.W.nsIn K mainGlobals "in_the_way" = some (some (.ref f8))) (l8 : K.lookup f8 = some ⟨oc8, od8, .func (PySem.W.fnOf "in_the_way" "in_the_way" (defArgs (topS 22)) (defBody (topS 22)) (defScope (topS 22)) .none kV8 dc8 pm8 an8 cd8 ct8), sl8⟩) (c8 : PySem.W.codeIn K cd8 "in_the_way" = true) (k8 : PySem.W.keepIn K (.ref f8) = true)
    {f9 : Addr} {od9 an9 : Option Addr} {sl9 : Array (Option Value)} {oc9 kV9 dc9 pm9 cd9 ct9 : Value} (a9 : PySem.W.nsIn K mainGlobals "conflicts" = some (some (.ref f9))) (l9 : K.lookup f9 = some ⟨oc9, od9, .func (PySem.W.fnOf "conflicts" "conflicts" (defArgs (topS 23)) (defBody (topS 23)) (defScope (topS 23)) .none kV9 dc9 pm9 an9 cd9 ct9), sl9⟩) (c9 : PySem.W.codeIn K cd9 "conflicts" = true) (k9 : PySem.W.keepIn K (.ref f9) = true)
    {f10 : Addr} {od10 an10 : Option Addr} {sl10 : Array (Option Value)} {oc10 kV10 dc10 pm10 cd10 ct10 : Value} (a10 : PySem.W.nsIn K mainGlobals "can_join" = some (some (.ref f10))) (l10 : K.lookup f10 = some ⟨oc10, od10, .func (PySem.W.fnOf "can_join" "can_join" (defArgs (topS 24)) (defBody (topS 24)) (defScope (topS 24)) .none kV10 dc10 pm10 an10 cd10 ct10), sl10⟩) (c10 : PySem.W.codeIn K cd10 "can_join" = true) (k10 : PySem.W.keepIn K (.ref f10) = true)
    {f11 : Addr} {od11 an11 : Option Addr} {sl11 : Array (Option Value)} {oc11 kV11 dc11 pm11 cd11 ct11 : Value} (a11 : PySem.W.nsIn K mainGlobals "largest_free" = some (some (.ref f11))) (l11 : K.lookup f11 = some ⟨oc11, od11, .func (PySem.W.fnOf "largest_free" "largest_free" (defArgs (topS 25)) (defBody (topS 25)) (defScope (topS 25)) .none kV11 dc11 pm11 an11 cd11 ct11), sl11⟩) (c11 : PySem.W.codeIn K cd11 "largest_free" = true) (k11 : PySem.W.keepIn K (.ref f11) = true)
    {f12 : Addr} {od12 an12 : Option Addr} {sl12 : Array (Option Value)} {oc12 kV12 dc12 pm12 cd12 ct12 : Value} (a12 : PySem.W.nsIn K mainGlobals "_law_pick" = some (some (.ref f12))) (l12 : K.lookup f12 = some ⟨oc12, od12, .func (PySem.W.fnOf "_law_pick" "_law_pick" (defArgs (topS 27)) (defBody (topS 27)) (defScope (topS 27)) .none kV12 dc12 pm12 an12 cd12 ct12), sl12⟩) (c12 : PySem.W.codeIn K cd12 "_law_pick" = true) (k12 : PySem.W.keepIn K (.ref f12) = true)
    {f13 : Addr} {od13 an13 : Option Addr} {sl13 : Array (Option Value)} {oc13 kV13 dc13 pm13 cd13 ct13 : Value} (a13 : PySem.W.nsIn K mainGlobals "_law_cars" = some (some (.ref f13))) (l13 : K.lookup f13 = some ⟨oc13, od13, .func (PySem.W.fnOf "_law_cars" "_law_cars" (defArgs (topS 28)) (defBody (topS 28)) (defScope (topS 28)) .none kV13 dc13 pm13 an13 cd13 ct13), sl13⟩) (c13 : PySem.W.codeIn K cd13 "_law_cars" = true) (k13 : PySem.W.keepIn K (.ref f13) = true)
    {f14 : Addr} {od14 an14 : Option Addr} {sl14 : Array (Option Value)} {oc14 kV14 dc14 pm14 cd14 ct14 : Value} (a14 : PySem.W.nsIn K mainGlobals "_law_path" = some (some (.ref f14))) (l14 : K.lookup f14 = some ⟨oc14, od14, .func (PySem.W.fnOf "_law_path" "_law_path" (defArgs (topS 29)) (defBody (topS 29)) (defScope (topS 29)) .none kV14 dc14 pm14 an14 cd14 ct14), sl14⟩) (c14 : PySem.W.codeIn K cd14 "_law_path" = true) (k14 : PySem.W.keepIn K (.ref f14) = true)
    {f15 : Addr} {od15 an15 : Option Addr} {sl15 : Array (Option Value)} {oc15 kV15 dc15 pm15 cd15 ct15 : Value} (a15 : PySem.W.nsIn K mainGlobals "_law_meet" = some (some (.ref f15))) (l15 : K.lookup f15 = some ⟨oc15, od15, .func (PySem.W.fnOf "_law_meet" "_law_meet" (defArgs (topS 30)) (defBody (topS 30)) (defScope (topS 30)) .none kV15 dc15 pm15 an15 cd15 ct15), sl15⟩) (c15 : PySem.W.codeIn K cd15 "_law_meet" = true) (k15 : PySem.W.keepIn K (.ref f15) = true)
    {f16 : Addr} {od16 an16 : Option Addr} {sl16 : Array (Option Value)} {oc16 kV16 dc16 pm16 cd16 ct16 : Value} (a16 : PySem.W.nsIn K mainGlobals "law" = some (some (.ref f16))) (l16 : K.lookup f16 = some ⟨oc16, od16, .func (PySem.W.fnOf "law" "law" (defArgs (topS 31)) (defBody (topS 31)) (defScope (topS 31)) .none kV16 dc16 pm16 an16 cd16 ct16), sl16⟩) (c16 : PySem.W.codeIn K cd16 "law" = true) (k16 : PySem.W.keepIn K (.ref f16) = true)
    (z_all : PySem.W.nsIn K mainGlobals "all" = some none)
    (z_any : PySem.W.nsIn K mainGlobals "any" = some none)
    (z_bool : PySem.W.nsIn K mainGlobals "bool" = some none)
    (z_int : PySem.W.nsIn K mainGlobals "int" = some none)
    (z_isinstance : PySem.W.nsIn K mainGlobals "isinstance" = some none)
    (z_len : PySem.W.nsIn K mainGlobals "len" = some none)
    (z_list : PySem.W.nsIn K mainGlobals "list" = some none)
    (z_max : PySem.W.nsIn K mainGlobals "max" = some none)
    (z_min : PySem.W.nsIn K mainGlobals "min" = some none)
    (z_range : PySem.W.nsIn K mainGlobals "range" = some none)
    (z_sorted : PySem.W.nsIn K mainGlobals "sorted" = some none)
    (z_str : PySem.W.nsIn K mainGlobals "str" = some none)
    {t_EMPTY : Tok} (w_EMPTY : PySem.W.nsIn K mainGlobals "EMPTY" = some (some (.str "." t_EMPTY)))
    {t_LEFT : Tok} (w_LEFT : PySem.W.nsIn K mainGlobals "LEFT" = some (some (.str "L" t_LEFT)))
    {t_MANY : Tok} (w_MANY : PySem.W.nsIn K mainGlobals "MANY" = some (some (.int 4 t_MANY)))
    {t_TURNS : Tok} (w_TURNS : PySem.W.nsIn K mainGlobals "TURNS" = some (some (.str "LSR" t_TURNS))) :
    ∃ fd : FuncData, (∀ (s : Shared) (v : Value), BindsTo s fd ⟨[v], []⟩ [("script", v)]) ∧ ∀ base : Heap, K.In base → base.Ns mainGlobals mg → FnOk PySem.Challenge.pw_fourarms_k03_whole_conflicts w K mg base CX0 4 fa fd ["script"] (spD K 1 D_law) := by
  have e := hfa.symm.trans (PySem.W.mg_of X G a16)
  cases e
  have F0 := fun_mk (st := topS 13) l0 c0 k0
  have b0 := F0.binds (ps := ["candidate"]) fun _ _ _ _ _ _ us hl => match us, hl with | [_], _ => rfl
  have F1 := fun_mk (st := topS 14) l1 c1 k1
  have b1 := F1.binds (ps := ["value"]) fun _ _ _ _ _ _ us hl => match us, hl with | [_], _ => rfl
  have F2 := fun_mk (st := topS 15) l2 c2 k2
  have b2 := F2.binds (ps := ["value"]) fun _ _ _ _ _ _ us hl => match us, hl with | [_], _ => rfl
  have F3 := fun_mk (st := topS 16) l3 c3 k3
  have b3 := F3.binds (ps := ["value"]) fun _ _ _ _ _ _ us hl => match us, hl with | [_], _ => rfl
  have F4 := fun_mk (st := topS 17) l4 c4 k4
  have b4 := F4.binds (ps := ["arm", "turn"]) fun _ _ _ _ _ _ us hl => match us, hl with | [_, _], _ => rfl
  have F5 := fun_mk (st := topS 18) l5 c5 k5
  have b5 := F5.binds (ps := ["traffic"]) fun _ _ _ _ _ _ us hl => match us, hl with | [_], _ => rfl
  have F6 := fun_mk (st := topS 20) l6 c6 k6
  have b6 := F6.binds (ps := ["traffic", "one", "other"]) fun _ _ _ _ _ _ us hl => match us, hl with | [_, _, _], _ => rfl
  have F7 := fun_mk (st := topS 21) l7 c7 k7
  have b7 := F7.binds (ps := ["traffic", "arm"]) fun _ _ _ _ _ _ us hl => match us, hl with | [_, _], _ => rfl
  have F8 := fun_mk (st := topS 22) l8 c8 k8
  have b8 := F8.binds (ps := ["traffic", "one", "other"]) fun _ _ _ _ _ _ us hl => match us, hl with | [_, _, _], _ => rfl
  have F9 := fun_mk (st := topS 23) l9 c9 k9
  have b9 := F9.binds (ps := ["traffic"]) fun _ _ _ _ _ _ us hl => match us, hl with | [_], _ => rfl
  have F10 := fun_mk (st := topS 24) l10 c10 k10
  have b10 := F10.binds (ps := ["traffic", "arm", "turn"]) fun _ _ _ _ _ _ us hl => match us, hl with | [_, _, _], _ => rfl
  have F11 := fun_mk (st := topS 25) l11 c11 k11
  have b11 := F11.binds (ps := ["traffic"]) fun _ _ _ _ _ _ us hl => match us, hl with | [_], _ => rfl
  have F12 := fun_mk (st := topS 27) l12 c12 k12
  have b12 := F12.binds (ps := ["script", "k", "many"]) fun _ _ _ _ _ _ us hl => match us, hl with | [_, _, _], _ => rfl
  have F13 := fun_mk (st := topS 28) l13 c13 k13
  have b13 := F13.binds (ps := ["script", "at"]) fun _ _ _ _ _ _ us hl => match us, hl with | [_, _], _ => rfl
  have F14 := fun_mk (st := topS 29) l14 c14 k14
  have b14 := F14.binds (ps := ["arm", "turn"]) fun _ _ _ _ _ _ us hl => match us, hl with | [_, _], _ => rfl
  have F15 := fun_mk (st := topS 30) l15 c15 k15
  have b15 := F15.binds (ps := ["cars", "one", "other"]) fun _ _ _ _ _ _ us hl => match us, hl with | [_, _, _], _ => rfl
  have F16 := fun_mk (st := topS 31) l16 c16 k16
  have b16 := F16.binds (ps := ["script"]) fun _ _ _ _ _ _ us hl => match us, hl with | [_], _ => rfl
  have T : Tx w K mg := ⟨⟨_, _, F0, b0, PySem.W.mg_of X G a0⟩, ⟨_, _, F1, b1, PySem.W.mg_of X G a1⟩, ⟨_, _, F2, b2, PySem.W.mg_of X G a2⟩, ⟨_, _, F3, b3, PySem.W.mg_of X G a3⟩, ⟨_, _, F4, b4, PySem.W.mg_of X G a4⟩, ⟨_, _, F5, b5, PySem.W.mg_of X G a5⟩, ⟨_, _, F6, b6, PySem.W.mg_of X G a6⟩, ⟨_, _, F7, b7, PySem.W.mg_of X G a7⟩, ⟨_, _, F8, b8, PySem.W.mg_of X G a8⟩, ⟨_, _, F9, b9, PySem.W.mg_of X G a9⟩, ⟨_, _, F10, b10, PySem.W.mg_of X G a10⟩, ⟨_, _, F11, b11, PySem.W.mg_of X G a11⟩, ⟨_, _, F12, b12, PySem.W.mg_of X G a12⟩, ⟨_, _, F13, b13, PySem.W.mg_of X G a13⟩, ⟨_, _, F14, b14, PySem.W.mg_of X G a14⟩, ⟨_, _, F15, b15, PySem.W.mg_of X G a15⟩, ⟨_, _, F16, b16, PySem.W.mg_of X G a16⟩, PySem.W.mg_none_of X G z_all, PySem.W.mg_none_of X G z_any, PySem.W.mg_none_of X G z_bool, PySem.W.mg_none_of X G z_int, PySem.W.mg_none_of X G z_isinstance, PySem.W.mg_none_of X G z_len, PySem.W.mg_none_of X G z_list, PySem.W.mg_none_of X G z_max, PySem.W.mg_none_of X G z_min, PySem.W.mg_none_of X G z_range, PySem.W.mg_none_of X G z_sorted, PySem.W.mg_none_of X G z_str, ⟨_, PySem.W.mg_of X G w_EMPTY, ⟨_, rfl⟩⟩, ⟨_, PySem.W.mg_of X G w_LEFT, ⟨_, rfl⟩⟩, ⟨_, PySem.W.mg_of X G w_MANY, ⟨_, rfl⟩⟩, ⟨_, PySem.W.mg_of X G w_TURNS, ⟨_, rfl⟩⟩⟩
  exact ⟨_, fun s v => .of_eq rfl, fun base _ _ => ok_law T ⟨F16, b16, PySem.W.mg_of X G a16⟩⟩
end Nk03

namespace Nk03
open PySem L2 DL
theorem pick_loop {ns : List Int} {k many cell : Int} {s6 : Sl} : ∀ (n : Nat) (rest again : Int), 0 ≤ again → again.toNat < n →
    ∃ r a, whileGo (bAnd (bOf (d2 gtP (dVar 4) (dC (.int 0)))) (bOf (d2 gtP (dVar 5) (dC (.int 0))))) (sMulti [4, 5] (mD (d2 fdivP (dVar 4) (dC (.int 840))) (mD (d2 subP (dVar 5) (dC (.int 1))) mNil))) n
      [.d (scr ns), .d (.int k), .d (.int many), .d (.int cell), .d (.int rest), .d (.int again), s6] = some (.nx [.d (scr ns), .d (.int k), .d (.int many), .d (.int cell), .d (.int r), .d (.int a), s6])
  | 0, _, _, _, h => by omega
  | n + 1, rest, again, h0, h => by
    by_cases h1 : 0 < rest
    · by_cases h2 : 0 < again
      · obtain ⟨r, a, e⟩ := pick_loop n (rest / 840) (again - 1) (by omega) (by omega)
        refine ⟨r, a, ?_⟩
        rw [← e]
        have m1 : fdivP (.int rest) (.int 840) = some (.int (rest / 840)) := fdivP_eq (by decide)
        simp [whileGo, bAnd, bOf, d2, dVar, dC, gtP, h1, h2, sMulti, mD, mNil, m1, subP, setsD]
      · exact ⟨rest, again, by simp [whileGo, bAnd, bOf, d2, dVar, dC, gtP, h1, h2]⟩
    · exact ⟨rest, again, by simp [whileGo, bAnd, bOf, d2, dVar, dC, gtP, h1]⟩
theorem pick_ok (ns : List Int) (k many : Int) (hk : 0 ≤ k) (hk2 : k < 900) (hm : 0 < many) (hn : ns.length ≤ 63) : ∃ n, D__law_pick [scr ns, .int k, .int many] = some (.int n) ∧ 0 ≤ n ∧ n < many := by
  have hc : ∃ c, dIf (bOf (d2 nePS (dVar 0) (dL (aSmall aNil)))) (d2 ixP (dVar 0) (d2 modP (dVar 1) (dCall lenP (aCons (dVar 0) aNil)))) (dC (.int 0)) [.d (scr ns), .d (.int k), .d (.int many), .un, .un, .un, .un] = some (.int c) := by
    cases ns with
    | nil => exact ⟨0, by simp [dIf, bOf, d2, dVar, dL, aSmall, aNil, scr_ne, dC]⟩
    | cons x r =>
      have hl : (0 : Int) < ((x :: r).length : Int) := by simp
      obtain ⟨c, e⟩ := scr_at (ns := x :: r) (i := k % ((x :: r).length : Int)) (Int.emod_nonneg _ (by omega)) (Int.emod_lt_of_pos _ hl)
      refine ⟨c, ?_⟩
      simp only [dIf, bOf, d2, dVar, dL, aSmall, aNil, scr_ne, dCall, aCons, List.getElem?_cons_zero, List.getElem?_cons_succ, Option.bind_some, Option.map_some, scr_len, modP_eq hl, e]
      rw [if_pos (by decide)]
      simp only [Option.map_some, Option.bind_some, scr_ne]
      rfl
  obtain ⟨c, hc⟩ := hc
  have hlen : ∃ L : Int, dCall maxP (aCons (dCall lenP (aCons (dVar 0) aNil)) (aCons (dC (.int 1)) aNil)) [.d (scr ns), .d (.int k), .d (.int many), .d (.int c), .un, .un, .un] = some (.int L) ∧ 0 < L ∧ L < 2 ^ 64 := by
    refine ⟨if (1 : Int) > ns.length then 1 else ns.length, by simp [dCall, aCons, aNil, dVar, dC, scr_len, maxP], ?_, ?_⟩
    · split <;> omega
    · split <;> omega
  obtain ⟨L, hL, hL0, hL1⟩ := hlen
  have hp : d2 powP (dC (.int 10)) (dC (.int 18)) [.d (scr ns), .d (.int k), .d (.int many), .d (.int c), .un, .un, .un] = some (.int 1000000000000000000) := by
    simp [d2, dC, powP]
  have hq : 0 ≤ k / L := Int.ediv_nonneg hk (by omega)
  have hq2 : k / L ≤ k := Int.ediv_le_self _ hk
  obtain ⟨r, a, hw⟩ := pick_loop (ns := ns) (k := k) (many := many) (cell := c) (s6 := .un) 1000 (c / 1000000000000000000) (k / L) hq (by omega)
  have hmul : sMulti [4, 5] (mD (d2 fdivP (dVar 3) (d2 powP (dC (.int 10)) (dC (.int 18)))) (mD (d2 fdivP (dVar 1) (dCall maxP (aCons (dCall lenP (aCons (dVar 0) aNil)) (aCons (dC (.int 1)) aNil)))) mNil)) [.d (scr ns), .d (.int k), .d (.int many), .d (.int c), .un, .un, .un]
      = some (.nx [.d (scr ns), .d (.int k), .d (.int many), .d (.int c), .d (.int (c / 1000000000000000000)), .d (.int (k / L)), .un]) := by
    have e1 : d2 fdivP (dVar 3) (d2 powP (dC (.int 10)) (dC (.int 18))) [.d (scr ns), .d (.int k), .d (.int many), .d (.int c), .un, .un, .un] = some (.int (c / 1000000000000000000)) := by
      have : dVar 3 [.d (scr ns), .d (.int k), .d (.int many), .d (.int c), .un, .un, .un] = some (.int c) := rfl
      unfold d2 at hp ⊢
      rw [this, hp]
      exact (fdivP_eq (i := c) (j := 1000000000000000000) (by decide))
    have e2 : d2 fdivP (dVar 1) (dCall maxP (aCons (dCall lenP (aCons (dVar 0) aNil)) (aCons (dC (.int 1)) aNil))) [.d (scr ns), .d (.int k), .d (.int many), .d (.int c), .un, .un, .un] = some (.int (k / L)) := by
      have : dVar 1 [.d (scr ns), .d (.int k), .d (.int many), .d (.int c), .un, .un, .un] = some (.int k) := rfl
      unfold d2
      rw [this, hL]
      exact (fdivP_eq (i := k) (j := L) ⟨hL0, hL1⟩)
    simp only [sMulti, mD, e1, e2, mNil, Option.bind_some, Option.map_some]
    rfl
  have hd : ∃ d : Int, d2 modP (d2 mulP (d2 addP (d2 mulP (dVar 3) (dC (.int 31))) (d2 mulP (dC (.int 6151)) (d2 addP (dVar 1) (dC (.int 1))))) (dC (.int 40692))) (dC (.int 2147483399)) [.d (scr ns), .d (.int k), .d (.int many), .d (.int c), .d (.int r), .d (.int a), .un] = some (.int d) ∧ 0 ≤ d ∧ d < 2147483399 := by
    refine ⟨(c * 31 + 6151 * (k + 1)) * 40692 % 2147483399, ?_, Int.emod_nonneg _ (by decide), Int.emod_lt_of_pos _ (by decide)⟩
    have m1 : mulP (.int c) (.int 31) = some (.int (c * 31)) := mulP_r (by decide)
    have m2 : mulP (.int 6151) (.int (k + 1)) = some (.int (6151 * (k + 1))) := mulP_l (by decide)
    have m3 : mulP (.int (c * 31 + 6151 * (k + 1))) (.int 40692) = some (.int ((c * 31 + 6151 * (k + 1)) * 40692)) := mulP_r (by decide)
    have m4 : modP (.int ((c * 31 + 6151 * (k + 1)) * 40692)) (.int 2147483399) = some (.int ((c * 31 + 6151 * (k + 1)) * 40692 % 2147483399)) := modP_eq (by decide)
    simp only [d2, dVar, dC, List.getElem?_cons_zero, List.getElem?_cons_succ, Option.bind_some, m1, m2, addP_eq, m3, m4]
  obtain ⟨d, hd, hd0, hd1⟩ := hd
  have s0 : startD 7 [scr ns, .int k, .int many] = [.d (scr ns), .d (.int k), .d (.int many), .un, .un, .un, .un] := rfl
  unfold D__law_pick fnDen
  rw [s0]
  unfold F__law_pick
  unfold sSeq sSet sWhile
  rw [hc]
  simp only [Option.map_some, Option.bind_some, List.set]
  rw [hmul]
  simp only [Option.bind_some]
  rw [hw]
  simp only [Option.bind_some]
  by_cases hr : 0 < r
  · refine ⟨r % 840 % many, ?_, Int.emod_nonneg _ (by omega), Int.emod_lt_of_pos _ hm⟩
    have m1 : modP (.int r) (.int 840) = some (.int (r % 840)) := modP_eq (by decide)
    have m2 : modP (.int (r % 840)) (.int many) = some (.int (r % 840 % many)) := modP_eq hm
    simp [sIf, bOf, d2, dVar, dC, gtP, hr, sRet, m1, m2]
  · refine ⟨(d * d + d / 31) % 2147483629 % many, ?_, Int.emod_nonneg _ (by omega), Int.emod_lt_of_pos _ hm⟩
    have m1 : mulP (.int d) (.int d) = some (.int (d * d)) := mulP_r (by omega)
    have m2 : fdivP (.int d) (.int 31) = some (.int (d / 31)) := fdivP_eq (by decide)
    have m3 : modP (.int (d * d + d / 31)) (.int 2147483629) = some (.int ((d * d + d / 31) % 2147483629)) := modP_eq (by decide)
    have m4 : modP (.int ((d * d + d / 31) % 2147483629)) (.int many) = some (.int ((d * d + d / 31) % 2147483629 % many)) := modP_eq hm
    have i1 : sIf (bOf (d2 gtP (dVar 4) (dC (.int 0)))) (sRet (d2 modP (d2 modP (dVar 4) (dC (.int 840))) (dVar 2))) sSkip [.d (scr ns), .d (.int k), .d (.int many), .d (.int c), .d (.int r), .d (.int a), .un] = some (.nx [.d (scr ns), .d (.int k), .d (.int many), .d (.int c), .d (.int r), .d (.int a), .un]) := by
      simp [sIf, bOf, d2, dVar, dC, gtP, hr, sSkip]
    rw [i1]
    simp only [Option.bind_some]
    rw [hd]
    simp [sRet, d2, dVar, dC, m1, m2, m3, m4, addP_eq]
end Nk03

namespace Nk03
open PySem L2 DL
theorem cars_at {n : Int} (h0 : 0 ≤ n) (h1 : n < 6) : ∃ a : Fin 4, ixP (.str ".LSRLS") (.int n) = some (.str ⟨#[trC a]⟩) := by
  rcases lt6 h0 h1 with rfl | rfl | rfl | rfl | rfl | rfl
  · exact ⟨0, rfl⟩
  · exact ⟨1, rfl⟩
  · exact ⟨2, rfl⟩
  · exact ⟨3, rfl⟩
  · exact ⟨1, rfl⟩
  · exact ⟨2, rfl⟩
theorem cars_ok (ns : List Int) (at_ : Int) (h0 : 0 ≤ at_) (h1 : at_ < 890) (hn : ns.length ≤ 63) : ∃ a b c d, D__law_cars [scr ns, .int at_] = some (.str (st4 trC a b c d)) := by
  have one : ∀ k : Int, 0 ≤ k → k < 4 → ∃ a : Fin 4, d2 ixP (dC (.str ".LSRLS")) (dCall D__law_pick (aCons (dVar 0) (aCons (d2 addP (dVar 1) (dVar 2)) (aCons (dC (.int 6)) aNil)))) [.d (scr ns), .d (.int at_), .d (.int k)] = some (.str ⟨#[trC a]⟩) := by
    intro k k0 k1
    obtain ⟨n, e, n0, n1⟩ := pick_ok ns (at_ + k) 6 (by omega) (by omega) (by decide) hn
    obtain ⟨a, ea⟩ := cars_at n0 n1
    refine ⟨a, ?_⟩
    simp only [d2, dC, dCall, aCons, dVar, aNil, addP, List.getElem?_cons_zero, List.getElem?_cons_succ, Option.bind_some, Option.map_some, e, ea]
  obtain ⟨a, ha⟩ := one 0 (by decide) (by decide)
  obtain ⟨b, hb⟩ := one 1 (by decide) (by decide)
  obtain ⟨c, hc⟩ := one 2 (by decide) (by decide)
  obtain ⟨d, hd⟩ := one 3 (by decide) (by decide)
  refine ⟨a, b, c, d, ?_⟩
  have e : nLc (aRange (aCons (dC (.int 4)) aNil)) (gN 2) tYesD (d2 ixP (dC (.str ".LSRLS")) (dCall D__law_pick (aCons (dVar 0) (aCons (d2 addP (dVar 1) (dVar 2)) (aCons (dC (.int 6)) aNil))))) [2] [.d (scr ns), .d (.int at_), .un]
      = some [.str ⟨#[trC a]⟩, .str ⟨#[trC b]⟩, .str ⟨#[trC c]⟩, .str ⟨#[trC d]⟩] := by
    have er : aRange (aCons (dC (.int 4)) aNil) [.d (scr ns), .d (.int at_), .un] = some [.int 0, .int 1, .int 2, .int 3] := rfl
    simp only [nLc, er, Option.bind_some, List.length_cons, List.length_nil, wipeD, List.set, lcGo, gN, tYesD, if_true]
    rw [if_pos (by decide)]
    simp only [ha, hb, hc, hd, Option.bind_some, Option.map_some]
  unfold D__law_cars fnDen
  have s0 : startD 3 [scr ns, .int at_] = [.d (scr ns), .d (.int at_), .un] := rfl
  rw [s0]
  simp only [F__law_cars, sRet, dM, dC, aCons, dL, e, aNil, Option.bind_some, Option.map_some, joinP4 join4T]
end Nk03

namespace Nk03
open PySem L2 DL
theorem sf_body : SF [2, 3, 4, 5, 6, 7, 8, 9, 10, 11, 12, 13, 14] B_law_0_1 := (sf_seq (sf_set (by decide) (me_dL (me_lc (W := [9]) (me_range (me_cons me_c me_nil)) (mg_n (by decide)) (me_bOf (me_d2 (me_d2 me_var me_var) me_c)) me_var))) (sf_seq (sf_multi (by decide) (me_mown (me_small me_nil) (me_md (me_dL (me_small (me_cons (me_tup me_nil) me_nil))) me_mnil))) (sf_seq (sf_for (me_any me_var) (mg_n (by decide)) (sf_seq (sf_for (me_any me_var) (mg_n (by decide)) (sf_if (me_bOf (me_d2 me_var me_var)) (sf_seq (sf_set (by decide) (me_call (me_cons me_var (me_cons me_var (me_cons me_var me_nil))))) (sf_seq (sf_if (me_bOr (me_bOf (me_d2 (me_call (me_cons me_var (me_cons me_var (me_cons me_var me_nil)))) me_var)) (me_bOf (me_d2 me_var (me_call (me_cons me_var (me_cons me_var (me_cons me_var me_nil))))))) (sf_ret me_c) sf_skip) (sf_if (me_bAnd (me_bOf me_var) (me_bOf (me_d2 me_var me_var))) (sf_app (by decide) (me_tup (me_cons me_var (me_cons me_var me_nil)))) sf_skip))) sf_skip)) (sf_set (by decide) (me_d2 me_var (me_dL (me_lc (W := [12]) (me_any me_var) (mg_n (by decide)) (me_bNot (me_bOf (me_call (me_cons (me_dL (me_lc (W := [13]) (me_any me_var) (mg_n (by decide)) me_yes (me_call (me_cons me_var (me_cons me_var (me_cons me_var me_nil)))))) me_nil)))) (me_d2 me_var (me_tup (me_cons me_var me_nil))))))))) (sf_seq (sf_fr (by decide) (sf_if (me_bOf (me_d2 (me_call (me_cons me_var me_nil)) me_var)) (sf_ret me_c) sf_skip)) (sf_seq (sf_if (me_bOf (me_d2 (me_call (me_cons me_var me_nil)) (me_d2 (me_call (me_cons (me_dL (me_lc (W := [12]) (me_any me_var) (mg_n (by decide)) me_yes (me_tup (me_cons (me_d2 me_c (me_call (me_cons me_var me_nil))) (me_cons me_var me_nil))))) me_nil)) me_c))) (sf_ret me_c) sf_skip) (sf_for (me_any (me_dL (me_nRange me_c))) (mg_n (by decide)) (sf_if (me_bOf (me_d2 (me_d2 me_var me_var) me_c)) (sf_for (me_any (me_tup (me_cons me_c (me_cons me_c (me_cons me_c me_nil))))) (mg_n (by decide)) (sf_seq (sf_set (by decide) (me_d2 (me_d2 (me_sl me_var me_pn (me_ps me_var)) me_var) (me_sl me_var (me_ps (me_d2 me_var me_c)) me_pn))) (sf_if (me_bOf (me_d2 (me_call (me_cons me_var (me_cons me_var (me_cons me_var me_nil)))) (me_vNot (me_call (me_cons (me_dL (me_lc (W := [14]) (me_any me_var) (mg_n (by decide)) me_yes (me_call (me_cons me_var (me_cons me_var (me_cons me_var me_nil)))))) me_nil))))) (sf_ret me_c) sf_skip))) sf_skip)))))))
def e0 (s : Str) : List Sl := leB 15 [(2, .d (.str s))]
theorem body_0 : ∀ b c d : Fin 4, isNxL 15 (B_law_0_1 (e0 (st4 trC 0 b c d))) = true := by decide +kernel
theorem body_1 : ∀ b c d : Fin 4, isNxL 15 (B_law_0_1 (e0 (st4 trC 1 b c d))) = true := by decide +kernel
theorem body_2 : ∀ b c d : Fin 4, isNxL 15 (B_law_0_1 (e0 (st4 trC 2 b c d))) = true := by decide +kernel
theorem body_3 : ∀ b c d : Fin 4, isNxL 15 (B_law_0_1 (e0 (st4 trC 3 b c d))) = true := by decide +kernel
theorem body_all (a b c d : Fin 4) : isNxL 15 (B_law_0_1 (e0 (st4 trC a b c d))) = true := match a with
  | 0 => body_0 b c d
  | 1 => body_1 b c d
  | 2 => body_2 b c d
  | 3 => body_3 b c d
theorem law_true (ns : List Int) (hn : ns.length ≤ 63) : D_law [scr ns] = some (.bool true) := by
  have hB := forGo_inv (g := gN 1) (F := B_law_0) (P := fun ρ => ρ.length = 15 ∧ ρ[0]? = some (.d (scr ns))) (ds := rangeD 0 8) (ρ := startD 15 [scr ns]) (by
    intro d hd ρ hρ
    obtain ⟨i, hi, rfl⟩ := mem_rangeD hd
    obtain ⟨hl, h0⟩ := hρ
    obtain ⟨a, b, c, d, hc⟩ := cars_ok ns (10 * (0 + i)) (by omega) (by omega) hn
    have m1 : mulP (.int 10) (.int (0 + (i : Int))) = some (.int (10 * (0 + (i : Int)))) := mulP_l (by decide)
    have v0 : dVar 0 (ρ.set 1 (.d (.int (0 + i)))) = some (scr ns) := by
      unfold dVar
      rw [List.getElem?_set_ne (by decide), h0]
    have v1 : dVar 1 (ρ.set 1 (.d (.int (0 + i)))) = some (.int (0 + i)) := by
      unfold dVar
      rw [List.getElem?_set_self (by omega)]
    have s2 : sSet 2 (dCall D__law_cars (aCons (dVar 0) (aCons (d2 mulP (dC (.int 10)) (dVar 1)) aNil))) (ρ.set 1 (.d (.int (0 + i)))) = some (.nx ((ρ.set 1 (.d (.int (0 + i)))).set 2 (.d (.str (st4 trC a b c d))))) := by
      simp only [sSet, dCall, aCons, aNil, d2, dC, v0, v1, m1, Option.bind_some, Option.map_some, hc]
    obtain ⟨ρ1, h1, f1, hlen⟩ := sf_nxL sf_body (ρ' := (ρ.set 1 (.d (.int (0 + i)))).set 2 (.d (.str (st4 trC a b c d)))) (le_leB (ks := [(2, .d (.str (st4 trC a b c d)))]) (by simp [hl]) (by intro p hp; simp at hp; subst hp; exact List.getElem?_set_self (by simp; omega))) (body_all a b c d)
    refine ⟨_, ρ1, rfl, ?_, hlen, ?_⟩
    · unfold B_law_0
      rw [sSeq, s2]
      exact h1
    · rw [f1 0 (by decide), List.getElem?_set_ne (by decide), List.getElem?_set_ne (by decide), h0]) ⟨rfl, rfl⟩
  obtain ⟨ρ1, h1, hl, h0⟩ := hB
  unfold D_law fnDen F_law
  rw [sSeq, sFor]
  have er : aRange (aCons (dC (.int 8)) aNil) (startD 15 [scr ns]) = some (rangeD 0 8) := rfl
  rw [er]
  simp only [Option.bind_some]
  rw [h1]
  simp only [Option.bind_some]
  exact (by kernel_rfl)
end Nk03

namespace Nk03
open PySem L2 DL
theorem law_sp {K : PySem.W.Frag} {H : Hp} {a : Addr} {ns : List Int} {E : XK} (hl : ns.length ≤ 63) (hO : L2.Only H) (hS : SqL K H a (ns.map V.int)) : spD K 1 D_law [.ref a] H (fun v _ => v = .bl true) E := law_end (law_true ns hl) hS
end Nk03
open PySem PySem.W PyProof.Rows
set_option maxHeartbeats 0 in
theorem PySem.Challenge.cw_fourarms_k03_whole_conflicts_holds : PySem.Challenge.rw_fourarms_k03_whole_conflicts.Holds := by
  w_on; o_law; k_head; (case hw => w_witness2)
  k_fill
  refine L2.walk_of (l := PySem.Challenge.rw_fourarms_k03_whole_conflicts) (n := 63) (k := 4) (x := "script") (CX := fun _ => L2.CX0) (sp := fun w => DL.spD _ 1 Nk03.D_law) rfl (by decide) rfl ⟨rfl, by decide, by decide⟩ (fun w h Y => PySem.W.kIn_of Y) ?F (fun _ H a ns hl hO hS => Nk03.law_sp hl hO hS) (fun _ _ _ _ _ h => h)
  case F =>
    intro w mg fa h KX G hmg
    refine' Nk03.all_mk KX G hmg ?a0 ?l0 ?c0 ?k0 ?a1 ?l1 ?c1 ?k1 ?a2 ?l2 ?c2 ?k2 ?a3 ?l3 ?c3 ?k3 ?a4 ?l4 ?c4 ?k4 ?a5 ?l5 ?c5 ?k5 ?a6 ?l6 ?c6 ?k6 ?a7 ?l7 ?c7 ?k7 ?a8 ?l8 ?c8 ?k8 ?a9 ?l9 ?c9 ?k9 ?a10 ?l10 ?c10 ?k10 ?a11 ?l11 ?c11 ?k11 ?a12 ?l12 ?c12 ?k12 ?a13 ?l13 ?c13 ?k13 ?a14 ?l14 ?c14 ?k14 ?a15 ?l15 ?c15 ?k15 ?a16 ?l16 ?c16 ?k16 ?z_all ?z_any ?z_bool ?z_int ?z_isinstance ?z_len ?z_list ?z_max ?z_min ?z_range ?z_sorted ?z_str ?w_EMPTY ?w_LEFT ?w_MANY ?w_TURNS
    (case a0 => k_is); (case l0 => k_is); (case c0 => k_is); (case k0 => k_is); (case a1 => k_is); (case l1 => k_is); (case c1 => k_is); (case k1 => k_is); (case a2 => k_is); (case l2 => k_is); (case c2 => k_is); (case k2 => k_is); (case a3 => k_is); (case l3 => k_is); (case c3 => k_is); (case k3 => k_is); (case a4 => k_is); (case l4 => k_is); (case c4 => k_is); (case k4 => k_is); (case a5 => k_is); (case l5 => k_is); (case c5 => k_is); (case k5 => k_is); (case a6 => k_is); (case l6 => k_is); (case c6 => k_is); (case k6 => k_is); (case a7 => k_is); (case l7 => k_is); (case c7 => k_is); (case k7 => k_is); (case a8 => k_is); (case l8 => k_is); (case c8 => k_is); (case k8 => k_is); (case a9 => k_is); (case l9 => k_is); (case c9 => k_is); (case k9 => k_is); (case a10 => k_is); (case l10 => k_is); (case c10 => k_is); (case k10 => k_is); (case a11 => k_is); (case l11 => k_is); (case c11 => k_is); (case k11 => k_is); (case a12 => k_is); (case l12 => k_is); (case c12 => k_is); (case k12 => k_is); (case a13 => k_is); (case l13 => k_is); (case c13 => k_is); (case k13 => k_is); (case a14 => k_is); (case l14 => k_is); (case c14 => k_is); (case k14 => k_is); (case a15 => k_is); (case l15 => k_is); (case c15 => k_is); (case k15 => k_is); (case a16 => k_is); (case l16 => k_is); (case c16 => k_is); (case k16 => k_is); (case z_all => k_is); (case z_any => k_is); (case z_bool => k_is); (case z_int => k_is); (case z_isinstance => k_is); (case z_len => k_is); (case z_list => k_is); (case z_max => k_is); (case z_min => k_is); (case z_range => k_is); (case z_sorted => k_is); (case z_str => k_is); (case w_EMPTY => k_is); (case w_LEFT => k_is); (case w_MANY => k_is); (case w_TURNS => k_is)
